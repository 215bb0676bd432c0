import PyProof.Rows.All
import Wide.All
import OpenK.AllK
import Wide.FinOn
import OpenK.AllK
import HandS.ForMost
import HandS.TupAny
import HandS.TupMul
import HandS.Conv
import HandS.Walk
import KE.KDictKeyed
import KE.KDictWalk
import HandS.Exc
import HandS.ExcOwn
import HandS.WordsExc
import HandS.Deep
import HandS.IsInst
import HandS.Flow
import HandS.Style
import HandS.ExcInit
import HandS.ExcField
import HandS.ExcValue
import KE.KExcIs
import HandS.NoneIn
import KE.GoesMore
import HandS.More
import HandS.SetKeys
import HandS.Strs
import HandS.TryOnly
import HandS.RaiseMore
import HandS.SortOrd
import HandS.TupLe
import HandS.NamedTupSort
import HandS.SortRule
import KE.KDictPairs
import HandS.Rev
import HandS.SortInts
import KE.KDictZip
import HandS.TupSets
import HandS.RevTup
import HandS.StrMore
import HandS.Zip
import PySem.Challenge.RW_graftsay_k70_rounds_gone
set_option Elab.async false
set_option linter.all false
set_option maxRecDepth 100000
set_option maxHeartbeats 4000000
namespace L2
open PySem PySem.W PySem.Calls PySem.Spec PyProof.Rows
/-- a tuple whose object has no dict -/
def XT (H : Hp) (a : Addr) (xs : List V) : Prop := ∃ o : Obj, H a = some (.frz o (.tup xs)) ∧ o.dict = none
theorem XT.sq {K : PySem.W.Frag} {H : Hp} {a : Addr} {xs : List V} (h : XT H a xs) : SqT K H a xs := by
  obtain ⟨o, e, _⟩ := h
  exact .inl (.inr ⟨o, e⟩)
theorem XT.new {H : Hp} {a : Addr} {xs : List V} {o : Obj} (h : o.dict = none) : XT (upd H a (.frz o (.tup xs))) a xs := ⟨o, upd_same, h⟩
section
variable {X : Cx} {es : List Expr} {t : TA} {pos : Pos} {pins : List (Addr × Obj)} {s : Shared} {σ : St} {H : Hp}
/-- a new tuple laid, told exactly -/
theorem laidX {ys : List V} {us : List Value} {h1 : Heap} {tk : Nat} (J : Inv X pins σ H { s with heap := h1 }) (rv : Vals ys us) (hz : ys.length ≤ sizeLine) :
    Inv X pins σ (upd H h1.objs.size (.frz { cls := .type "tuple", data := .seq us.toArray } (.tup ys))) { s with heap := h1.push { cls := .type "tuple", data := .seq us.toArray }, toks := tk } :=
  J.laid (t' := tk) (fun _ _ z => Heap.get?_push_of_some _ z) (Nat.le_refl _) ⟨Heap.get?_push_size _ rfl, hz, us, rv, IsTup.new _ _⟩
def tTupX (t : TA) : TE := fun σ H Q => t σ H fun ys H1 => ys.length ≤ sizeLine ∧ ∀ p o, H1 p = none → o.dict = none → Q (.ref p) (upd H1 p (.frz o (.tup ys)))
theorem pe_tupX {x1} (h : PA X es t) : PE X (.Tuple es x1 pos) (tTupX t) := ⟨fun pins s σ H Q I hq => by
  refine wpAny_Tuple_spliced (thn (h.run pos pins s σ H _ I hq) ?_)
  rintro us s1 ⟨ys, H1, J, rv, z, q⟩
  refine ⟨by rw [← rv.length]; exact z, .ref s1.heap.objs.size, _, laidX (s := s1) (tk := s1.toks) J rv z, rfl, q _ _ (J.hok.fresh (Nat.le_refl _)) rfl⟩⟩
/-- a slice of a tuple -/
def rSlX (K : PySem.W.Frag) : V → Option Int → Option Int → Hp → VK → Prop := fun x lo hi H Q => ∃ a ys, x = .ref a ∧ SqT K H a ys ∧
  ((HT.sIx ys.length 0 lo = 0 ∧ HT.sIx ys.length ys.length hi = ys.length) → Q (.ref a) H) ∧ (¬ (HT.sIx ys.length 0 lo = 0 ∧ HT.sIx ys.length ys.length hi = ys.length) → ∀ p o, H p = none → o.dict = none → Q (.ref p) (upd H p (.frz o (.tup (cutV ys lo hi)))))
theorem sl_tupX : SlR X (rSlX X.K) := by
  rintro pins s σ H x v vl vu lo hi sl Q J rx hs pl pu ⟨a, ys, rfl, hy, q1, q2⟩
  by_cases w : HT.sIx ys.length 0 lo = 0 ∧ HT.sIx ys.length ys.length hi = ys.length
  · exact sl_tupA pins s σ H _ v vl vu lo hi sl Q J rx hs pl pu ⟨a, ys, rfl, hy, q1, fun n => absurd w n⟩
  · cases rx
    obtain ⟨us, rv, ht, hz⟩ := J.tuple hy
    have hl : us.toArray.size = ys.length := by rw [List.size_toArray, rv.length]
    refine ⟨"tuple", _, PyProof.Rows.slot_tuple_getitem.lookup, ht.typeIs, HT.getItem_tuple_cut ht hs pl pu (by rw [hl]; exact w) ?_ (by rw [hl]; exact hz)⟩
    rw [hl]
    refine ⟨.ref s.heap.objs.size, _, laidX (ys := cutV ys lo hi) (tk := s.toks) J ?_ (Nat.le_trans (cutV_length ys lo hi) hz), rfl, q2 w _ _ (J.hok.fresh (Nat.le_refl _)) rfl⟩
    exact (rv.drop _).take _
/-- tuples joined -/
def rCatX (K : PySem.W.Frag) : R2 := fun x y H Q => ∃ a b xs ys, x = .ref a ∧ y = .ref b ∧ SqT K H a xs ∧ SqT K H b ys ∧ xs.length + ys.length ≤ sizeLine ∧
  ((xs = [] → Q (.ref b) H) ∧ (xs ≠ [] → ys = [] → Q (.ref a) H) ∧ (xs ≠ [] → ys ≠ [] → ∀ p o, H p = none → o.dict = none → Q (.ref p) (upd H p (.frz o (.tup (xs ++ ys))))))
theorem op_catX : OpR X (binaryOp .Add) (rCatX X.K) := by
  rintro pins s σ H x y v u Q J rx ry ⟨a, b, xs, ys, rfl, rfl, ha, hb, hz, q0, q1, q2⟩
  by_cases hx : xs = []
  · exact op_catA pins s σ H _ _ v u Q J rx ry ⟨a, b, xs, ys, rfl, rfl, ha, hb, hz, q0, q1, fun n => absurd hx n⟩
  · cases rx
    cases ry
    obtain ⟨us, r1, p1, _⟩ := J.tuple ha
    obtain ⟨ws, r2, p2, _⟩ := J.tuple hb
    refine HT.cat_tup p1 p2 (fun n => hx (r1.nil_iff.mp n)) (fun n => ⟨.ref a, H, J, rfl, q1 hx (r2.nil_iff.mp n)⟩) (fun n => ?_) (by rw [← r1.length, ← r2.length]; exact hz)
    exact ⟨.ref s.heap.objs.size, _, laidX (ys := xs ++ ys) (tk := s.toks) J (r1.append r2) (by rw [List.length_append]; exact hz), rfl, q2 hx (fun e => n (r2.nil_iff.mpr e)) _ _ (J.hok.fresh (Nat.le_refl _)) rfl⟩
/-- tuple(..) of a list or a tuple -/
def rTupX (K : PySem.W.Frag) : List V → Hp → VK → Prop := fun xs H Q => ∃ p ys, xs = [.ref p] ∧ ((SqL K H p ys ∧ ∀ l o, H l = none → o.dict = none → Q (.ref l) (upd H l (.frz o (.tup ys)))) ∨ (SqT K H p ys ∧ Q (.ref p) H))
theorem call_tupX : CallR X (.type "tuple") (rTupX X.K) := by
  rintro pins s σ H xs us Q J r ⟨p, ys, rfl, h⟩
  rcases h with ⟨hq, q⟩ | ⟨hq, q⟩
  · obtain ⟨u, rfl, rx⟩ := vals1 r
    cases rx
    obtain ⟨ws, rv, pl, hz⟩ := J.list hq
    have hl := rv.length
    refine call_tuple_list pl.isList (fun h1 kp => ?_) (by simp only [List.size_toArray] <;> omega)
    have J1 : Inv X pins σ H { s with heap := h1 } := J.kept (t' := s.toks) kp
    exact ⟨.ref h1.objs.size, _, laidX (tk := s.toks) J1 rv hz, rfl, q _ _ (J1.hok.fresh (Nat.le_refl _)) rfl⟩
  · exact call_tuple_of pins s σ H _ us Q J r ⟨p, ys, rfl, .inr ⟨hq, q⟩⟩
end
mutual
/-- a value that is such a key, by what is tracked -/
inductive NK (H : Hp) : V → NestedKey → Prop
  | non : NK H .non .none
  | bl (b : Bool) : NK H (.bl b) (.num (if b then 1 else 0))
  | int (i : Int) : NK H (.int i) (.num i)
  | str (x : Str) : NK H (.str x) (.text x)
  | tup {a : Addr} {xs : List V} {ks : List NestedKey} : XT H a xs → NKs H xs ks → NK H (.ref a) (.tup ks)
inductive NKs (H : Hp) : List V → List NestedKey → Prop
  | nil : NKs H [] []
  | cons {x : V} {xs : List V} {k : NestedKey} {ks : List NestedKey} : NK H x k → NKs H xs ks → NKs H (x :: xs) (k :: ks)
end
section
variable {P : Program} {w : World} {H : Hp} {h : Heap}
mutual
theorem NK.is (ok : HOk P w H h) : ∀ {v : V} {k : NestedKey} {u : Value}, NK H v k → RelV v u → NestedIs h k u
  | _, _, u, .non, r => by cases (show u = .none from r); exact .none
  | _, _, u, .bl b, r => by cases (show u = .bool b from r); exact .bool rfl
  | _, _, u, .int i, r => by obtain ⟨t, e⟩ := (show ∃ t, u = .int i t from r); subst e; exact .int _ _
  | _, _, u, .str i, r => by obtain ⟨t, e⟩ := (show ∃ t, u = .str i t from r); subst e; exact .text _ _
  | _, _, u, .tup (a := a) q qs, r => by
    cases (show u = .ref a from r)
    obtain ⟨o, e, _⟩ := q
    obtain ⟨e1, _, its, rv, o', e2, c, n, d⟩ := ok _ _ e
    exact .tup e2 c d (by simpa using NKs.is ok qs rv)
theorem NKs.is (ok : HOk P w H h) : ∀ {vs : List V} {ks : List NestedKey} {us : List Value}, NKs H vs ks → Vals vs us → NestedAll h ks us
  | _, _, _, .nil, .nil => .nil
  | _, _, _, .cons q qs, .cons r rs => .cons (NK.is ok q r) (NKs.is ok qs rs)
end
end
/-- a dict, by its object: each key, its value, what stands there -/
def dX (w : World) (a : Addr) (ep : Nat) (xs : List (NestedKey × Value × Value)) : HO := .ext fun h => ∃ o es, h.get? a = some o ∧ o.ExactDict ∧ o.data = .dict es ep ∧ es.toList = xs.map (fun x => (⟨x.1.hash w, x.2.1, x.2.2⟩ : DictEntry)) ∧
  (xs.map (·.1)).Nodup ∧ xs.length ≤ sizeLine ∧ (a == sysModules) = false
/-- keys that are tuples -/
def refK (y : NestedKey × Addr × Value) : NestedKey × Value × Value := (y.1, .ref y.2.1, y.2.2)
def KOk (H : Hp) (ys : List (NestedKey × Addr × Value)) : Prop := ∀ y ∈ ys, NK H (.ref y.2.1) y.1 ∧ y.1.depth ≤ 8
/-- keys that are ints and texts -/
def nkK : Key → NestedKey
  | .inl i => .num i
  | .inr x => .text x
theorem nkK_inj {a b : Key} (h : nkK a = nkK b) : a = b := by cases a <;> cases b <;> simp [nkK] at h <;> rw [h]
def valK (y : Key × Value × Value) : NestedKey × Value × Value := (nkK y.1, y.2.1, y.2.2)
def SOk (ys : List (Key × Value × Value)) : Prop := ∀ y ∈ ys, keyIs y.1 y.2.1 = true
def pairK (ys : List (Key × Value × Value)) : List (Key × Value) := ys.map fun y => (y.1, y.2.2)
section
variable {P : Program} {w : World} {H : Hp} {h : Heap} {a : Addr} {ep : Nat}
theorem dX_raw {xs : List (NestedKey × Value × Value)} (ok : HOk P w H h) (e : H a = some (dX w a ep xs)) : ∃ es, h.DictRaw a es ep ∧ es.toList = xs.map (fun x => (⟨x.1.hash w, x.2.1, x.2.2⟩ : DictEntry)) ∧ xs.length ≤ sizeLine ∧ (a == sysModules) = false := by
  obtain ⟨⟨o, es, h1, h2, h3, h4, h5, h6, h7⟩, _⟩ := ok _ _ e
  exact ⟨es, ⟨o, h1, h2, h3⟩, h4, h6, h7⟩
theorem dX_mk {xs : List (NestedKey × Value × Value)} {o : Obj} {es : Array DictEntry} (h1 : h.get? a = some o) (h2 : o.ExactDict) (h3 : o.data = .dict es ep) (h4 : es.toList = xs.map (fun x => (⟨x.1.hash w, x.2.1, x.2.2⟩ : DictEntry)))
    (h5 : (xs.map (·.1)).Nodup) (h6 : xs.length ≤ sizeLine) (h7 : (a == sysModules) = false) : ObjOk P w H h a (dX w a ep xs) :=
  ⟨⟨o, es, h1, h2, h3, h4, h5, h6, h7⟩, ⟨o, h1⟩, fun g1 g2 ⟨o', es', q1, q2⟩ k => ⟨o', es', k _ q1, q2⟩⟩
theorem dX_ofT {ys : List (NestedKey × Addr × Value)} (ok : HOk P w H h) (e : H a = some (dX w a ep (ys.map refK))) (hk : KOk H ys) : h.DictOfH (nestedKind P w) a ys ∧ ys.length ≤ sizeLine ∧ (a == sysModules) = false := by
  obtain ⟨⟨o, es, h1, h2, h3, h4, h5, h6, h7⟩, _⟩ := ok _ _ e
  rw [List.map_map] at h4 h5
  rw [List.length_map] at h6
  exact ⟨⟨o, es, ep, h1, h2, h3, h4, fun x m => ⟨(hk x m).1.is ok rfl, (hk x m).2⟩, h5⟩, h6, h7⟩
theorem dX_okT {ys : List (NestedKey × Addr × Value)} (hd : h.DictOfH (nestedKind P w) a ys) (hz : ys.length ≤ sizeLine) (hs : (a == sysModules) = false) : ∃ ep, ∀ H, ObjOk P w H h a (dX w a ep (ys.map refK)) := by
  obtain ⟨o, es, ep, h1, h2, h3, h4, _, h5⟩ := hd
  exact ⟨ep, fun H => dX_mk h1 h2 h3 (by rw [List.map_map]; exact h4) (by rw [List.map_map]; exact h5) (by rw [List.length_map]; exact hz) hs⟩
theorem pairs_valK (P : Program) (w : World) : ∀ {ys : List (Key × Value × Value)}, SOk ys → Pairs (mixKind P w) (ys.map fun y => (⟨(nkK y.1).hash w, y.2.1, y.2.2⟩ : DictEntry)) (pairK ys)
  | [], _ => .nil
  | y :: ys, h => .cons (h y (by simp)) rfl (pairs_valK P w fun z m => h z (by simp [m]))
theorem hash_nkK (w : World) (k : Key) : (nkK k).hash w = keyH w k := by cases k <;> rfl
theorem dX_ofS {ys : List (Key × Value × Value)} (ok : HOk P w H h) (e : H a = some (dX w a ep (ys.map valK))) (hk : SOk ys) : h.DictOf (mixKind P w) a (pairK ys) ∧ (pairK ys).length ≤ sizeLine ∧ (a == sysModules) = false := by
  obtain ⟨⟨o, es, h1, h2, h3, h4, h5, h6, h7⟩, _⟩ := ok _ _ e
  rw [List.map_map] at h4 h5
  rw [List.length_map] at h6
  have h4 : es.toList = ys.map fun y => (⟨(nkK y.1).hash w, y.2.1, y.2.2⟩ : DictEntry) := h4
  refine ⟨⟨o, es, ep, h1, h2, h3, fun x m => ?_, by rw [h4]; exact pairs_valK P w hk, ?_⟩, by unfold pairK; rw [List.length_map]; exact h6, h7⟩
  · have m' : x ∈ es.toList := by simpa using m
    rw [h4] at m'
    obtain ⟨y, my, rfl⟩ := List.mem_map.mp m'
    exact ⟨y.1, hk y my, hash_nkK w y.1⟩
  · have h5 : (ys.map fun y => nkK y.1).Nodup := h5
    unfold pairK
    rw [List.map_map]
    have h6 : ((ys.map fun y => y.1).map nkK).Nodup := by rw [List.map_map]; exact h5
    exact (List.pairwise_map.mp h6).imp fun n e => n (by rw [e])
theorem pairs_back : ∀ {es : List DictEntry} {vs : List (Key × Value)}, Pairs (mixKind P w) es vs → (∀ e ∈ es, ∃ k, keyIs k e.key = true ∧ e.hash = keyH w k) → ∃ ys, SOk ys ∧ pairK ys = vs ∧ es = ys.map fun y => (⟨(nkK y.1).hash w, y.2.1, y.2.2⟩ : DictEntry)
  | _, _, .nil, _ => ⟨[], fun _ m => (by cases m), rfl, rfl⟩
  | _, _, .cons (e := e) (kv := kv) h1 h2 t, hk => by
    obtain ⟨ys, q1, q2, q3⟩ := pairs_back t fun e m => hk e (by simp [m])
    obtain ⟨k, r1, r2⟩ := hk e (by simp)
    have ek : k = kv.1 := (mixKind P w).inj _ _ _ r1 h1
    subst ek
    refine ⟨(kv.1, e.key, kv.2) :: ys, fun y m => ?_, by simp [pairK] at q2 ⊢; exact q2, ?_⟩
    · cases m with
      | head => exact h1
      | tail _ m => exact q1 y m
    · rw [List.map_cons, ← q3]
      congr 1
      cases e
      simp only at h2 r2
      simp [hash_nkK, r2, h2]
theorem dX_okS {vs : List (Key × Value)} (hd : h.DictOf (mixKind P w) a vs) (hz : vs.length ≤ sizeLine) (hs : (a == sysModules) = false) : ∃ ep ys, SOk ys ∧ pairK ys = vs ∧ ∀ H, ObjOk P w H h a (dX w a ep (ys.map valK)) := by
  obtain ⟨o, es, ep, h1, h2, h3, hk, hp, hn⟩ := hd
  obtain ⟨ys, q1, q2, q3⟩ := pairs_back hp fun e m => hk e (by simpa using m)
  refine ⟨ep, ys, q1, q2, fun H => dX_mk h1 h2 h3 (by rw [List.map_map]; exact q3) ?_ ?_ hs⟩
  · rw [List.map_map]
    have e : ys.map ((fun x => x.1) ∘ valK) = (vs.map (·.1)).map nkK := by rw [← q2]; unfold pairK; rw [List.map_map, List.map_map]; rfl
    rw [e]
    exact List.Pairwise.map nkK (fun a b n e => n (nkK_inj e)) hn
  · rw [List.length_map]
    have : (pairK ys).length = ys.length := by simp [pairK]
    rw [← this, q2]
    exact hz
end
def look (xs : List (NestedKey × Value × Value)) (k : NestedKey) : Option Value := (xs.find? fun x => decide (x.1 = k)).map (·.2.2)
theorem look_T (ys : List (NestedKey × Addr × Value)) (k : NestedKey) : look (ys.map refK) k = valueAt (pairsH ys) k := by
  induction ys with
  | nil => rfl
  | cons y ys ih =>
    by_cases e : y.1 = k
    · simp [look, refK, pairsH, valueAt, e]
    · simpa [look, refK, pairsH, valueAt, e] using ih
theorem look_S (ys : List (Key × Value × Value)) (k : Key) : look (ys.map valK) (nkK k) = valueAt (pairK ys) k := by
  induction ys with
  | nil => rfl
  | cons y ys ih =>
    by_cases e : y.1 = k
    · simp [look, valK, pairK, valueAt, e]
    · have n : ¬ nkK y.1 = nkK k := fun q => e (nkK_inj q)
      simpa [look, valK, pairK, valueAt, e, n] using ih
/-- a key that may be asked for -/
def KeyAt (H : Hp) (v : V) (b : Addr) (k : NestedKey) : Prop := v = .ref b ∧ NK H (.ref b) k ∧ k.depth ≤ 8
/-- y asked of the dict at a -/
def LookX (w : World) (H : Hp) (a : Addr) (y : V) (r : Option Value) : Prop := ∃ ep xs k, H a = some (dX w a ep xs) ∧ r = look xs k ∧ ((∃ b ys, xs = ys.map refK ∧ KOk H ys ∧ KeyAt H y b k) ∨ (∃ ys kk, xs = ys.map valK ∧ SOk ys ∧ y = kV kk ∧ k = nkK kk))
section
variable {X : Cx}
theorem KeyAt.is {P : Program} {w : World} {H : Hp} {h : Heap} {v : V} {b : Addr} {k : NestedKey} (ok : HOk P w H h) (q : KeyAt H v b k) : (nestedKind P w).is h k b := ⟨q.2.1.is ok rfl, q.2.2⟩
theorem roomX (hu : X.A.units + 65 < cLine) : (nestedKind X.prog X.w).room X.A.in1 := by
  show X.A.units + 1 + 8 < cLine
  omega
/-- the two sorts of asking -/
theorem LookX.cases {pins : List (Addr × Obj)} {σ : St} {H : Hp} {s : Shared} {a : Addr} {y : V} {u : Value} {r : Option Value} (g : LookX X.w H a y r) (J : Inv X pins σ H s) (ry : RelV y u) :
    (a == sysModules) = false ∧ ((∃ b ys k, u = .ref b ∧ s.heap.DictOfH (nestedKind X.prog X.w) a ys ∧ (nestedKind X.prog X.w).is s.heap k b ∧ r = valueAt (pairsH ys) k) ∨ ∃ vs kk, s.heap.DictOf (mixKind X.prog X.w) a vs ∧ (mixKind X.prog X.w).is kk u = true ∧ r = valueAt vs kk) := by
  obtain ⟨ep, xs, k, e, er, g⟩ := g
  rcases g with ⟨b, ys, rfl, hk, hy⟩ | ⟨ys, kk, rfl, hk, rfl, rfl⟩
  · obtain ⟨hm, hz, hs⟩ := dX_ofT J.hok e hk
    refine ⟨hs, .inl ⟨b, ys, k, ?_, hm, hy.is J.hok, by rw [er, look_T]⟩⟩
    obtain ⟨rfl, _⟩ := hy
    exact ry
  · obtain ⟨hm, hz, hs⟩ := dX_ofS J.hok e hk
    exact ⟨hs, .inr ⟨_, kk, hm, kV_is ry, by rw [er, look_S]⟩⟩
def rXG (w : World) : R2 := fun x y H Q => ∃ a u v, x = .ref a ∧ LookX w H a y (some u) ∧ RelV v u ∧ Q v H
theorem ix_dX (hu : X.A.units + 65 < cLine) : IxR X (rXG X.w) := by
  rintro value slice pins s σ H x y v u Q I rx ry ⟨a, uu, vv, rfl, g, rv, q⟩ hs
  obtain rfl : v = Value.ref a := rx
  obtain ⟨hsm, g⟩ := g.cases I ry
  have hT : s.TypeIs (.ref a) "dict" := by
    rcases g with ⟨b, ys, k, _, hm, _⟩ | ⟨vs, kk, hm, _⟩
    · exact hm.typeIs
    · exact hm.typeIs
  unfold subscriptTail
  refine wpAny_bind ?_
  rw [getitemInPython_of_ne hT.not_modules]
  refine wpAny_bind (wpAny_specialOf hT PySem.F.slot_dict_getitem.lookup ?_)
  have fin : wpAny (model X.prog X.w) X.A (subscripted slice false (Value.ref a) u) (fun r s₃ => wpAny (model X.prog X.w) X.A (letTemporaryGo value (Value.ref a) r >>= fun _ => pure r) (EP X pins σ Q) X.xe s₃) X.xe s := by
    rw [hs]
    refine wpAny_operating (wpAny_mono (Q := EP X pins σ Q) (E := X.xe) ?_ (fun r s₃ h₃ => wpAny_bind (wpAny_letTemporaryGo (wpAny_pure h₃))) fun _ _ x => x)
    rcases g with ⟨b, ys, k, rfl, hm, hk, e⟩ | ⟨vs, kk, hm, hk, e⟩
    · exact getItem_keyed (roomX hu) hk ⟨ys, hm, rfl⟩ e.symm ⟨vv, H, I.tok _, rv, q⟩
    · exact wpAny_getItem_of hk hm.mapOf e.symm ⟨vv, H, I.tok _, rv, q⟩
  exact wpAny_pure (wpAny_bind fin)
def rXin (neg : Bool) (w : World) : R2 := fun y x H Q => ∃ a r, x = .ref a ∧ LookX w H a y r ∧ Q (.bl (neg ^^ r.isSome)) H
theorem op_Xin (hu : X.A.units + 65 < cLine) : OpR X (compareOp .In) (rXin false X.w) := by
  rintro pins s σ H y x v u Q I ry rx ⟨a, r, rfl, g, q⟩
  obtain rfl : u = Value.ref a := rx
  obtain ⟨hsm, g⟩ := g.cases I ry
  rw [Bool.false_xor] at q
  rcases g with ⟨b, ys, k, rfl, hm, hk, rfl⟩ | ⟨vs, kk, hm, hk, rfl⟩
  · exact in_keyed (roomX hu) hk hsm ⟨ys, hm, rfl⟩ ⟨.bl _, H, I.tok _, rfl, q⟩
  · exact wpAny_in_of hk hsm hm.mapOf ⟨.bl _, H, I.tok _, rfl, q⟩
theorem op_Xni (hu : X.A.units + 65 < cLine) : OpR X (compareOp .NotIn) (rXin true X.w) := by
  rintro pins s σ H y x v u Q I ry rx ⟨a, r, rfl, g, q⟩
  obtain rfl : u = Value.ref a := rx
  obtain ⟨hsm, g⟩ := g.cases I ry
  rw [Bool.true_xor] at q
  rcases g with ⟨b, ys, k, rfl, hm, hk, rfl⟩ | ⟨vs, kk, hm, hk, rfl⟩
  · exact notIn_keyed (roomX hu) hk hsm ⟨ys, hm, rfl⟩ ⟨.bl _, H, I.tok _, rfl, q⟩
  · exact wpAny_notIn_of hk hsm hm.mapOf ⟨.bl _, H, I.tok _, rfl, q⟩
theorem storedH_len (xs : List (NestedKey × Addr × Value)) (k : NestedKey) (b : Addr) (u : Value) : (storedH xs k b u).length ≤ xs.length + 1 := by
  unfold storedH
  split <;> simp
theorem stored_len (xs : List (Key × Value)) (k : Key) (u : Value) : (stored xs k u).length ≤ xs.length + 1 := by
  unfold stored
  split <;> simp
end
section
variable {X : Cx} {o e f : Expr} {apos cpos : Pos} {td ty tx : TE}
end
def tRe (w : World) (t : TE) : TE := fun σ H Q => t σ H fun v H1 => ∃ p kvs, v = .ref p ∧ H1 p = some (.dK kvs) ∧ ∀ ep ys, SOk ys → KV kvs (pairK ys) → Q v (upd H1 p (dX w p ep (ys.map valK)))
theorem pe_re {X : Cx} {e : Expr} {t : TE} (h : PE X e t) : PE X e (tRe X.w t) := ⟨fun pins s σ H Q J q => by
  refine thn (h.run pins s σ H _ J q) ?_
  rintro u s1 ⟨x, H1, J1, rx, p, kvs, rfl, e, q1⟩
  obtain ⟨hz, hs, vs, rel, hd⟩ := J1.hok _ _ e
  have hz2 : vs.length ≤ sizeLine := by rw [← rel.length]; exact hz
  obtain ⟨ep, ys, y1, y2, ok⟩ := dX_okS hd hz2 hs
  refine ⟨.ref p, _, J1.write (t' := s1.toks) (by rw [e]; exact True.intro) (.inl rfl) (fun c o _ z => z) (let ⟨o, _, _, z, _⟩ := hd; ⟨o, z⟩) (ok _), rx, q1 ep ys y1 (by rw [y2]; exact rel)⟩⟩
def Itx (w : World) (d : Addr) (ep : Nat) (xs : List (NestedKey × Value × Value)) (vs : List V) : It :=
  ⟨fun i H => H d = some (dX w d ep xs) ∧ i < vs.length, fun i H x H' => H' = H ∧ vs[i]? = some x, fun i H => H d = some (dX w d ep xs) ∧ vs.length ≤ i⟩
theorem turn_dX {P : Program} {w : World} {K : PySem.W.Frag} {tg : Expr} {d : Addr} {ep : Nat} {xs : List (NestedKey × Value × Value)} {vs : List V} (it : Addr) (rv : Vals vs (xs.map (·.2.1))) :
    Turn P w K tg (Itx w d ep xs vs) [it] it (fun i h => h.IsKeyIter it d i vs.length ep) where
  mem := List.mem_singleton.mpr rfl
  obj := fun i h st b hb => by
    obtain rfl := List.mem_singleton.mp hb
    obtain ⟨oi, e, c, dd⟩ := st
    exact ⟨oi, e, fun v z => by rw [dd] at z; cases z⟩
  keep := fun i h h' st k => st.at fun oi e => k it (List.mem_singleton.mpr rfl) oi e
  item := by
    rintro X rfl rfl rfl hc i pins s σ H E J hf st ⟨hd, hi⟩
    obtain ⟨f0, f1, f2, f3, f4, f5⟩ := hf it (List.mem_singleton.mpr rfl)
    obtain ⟨es, hm, he, _, _⟩ := dX_raw J.hok hd
    have ls : es.size = vs.length := by rw [← Array.length_toList, he, List.length_map, rv.length, List.length_map]
    obtain ⟨x, hx⟩ : ∃ x, vs[i]? = some x := ⟨vs[i], List.getElem?_eq_getElem hi⟩
    obtain ⟨u, hu, ru⟩ := rv.get hx
    rw [← ls] at st hi
    refine wpAny_pyNext_keys_item_raw st hm hi fun h' st' sb => ?_
    have ek : es[i].key = u := by
      rw [List.getElem?_map] at hu
      obtain ⟨y, hy, rfl⟩ := Option.map_eq_some_iff.mp hu
      have h1 : es.toList[i]? = some es[i] := by rw [Array.getElem?_toList, Array.getElem?_eq_getElem hi]
      rw [he, List.getElem?_map, hy] at h1
      exact (congrArg DictEntry.key (Option.some.inj h1)).symm
    have J1 : Inv X pins σ H { s with heap := h' } := J.turned (t' := s.toks) (fun b ob nb e => (sb.2 b nb).trans e) f0 f1 f3 f4 f5
    obtain ⟨oi, e, c, dd⟩ := id st'
    refine ⟨_, rfl, go_of (s := { s with heap := h' }) e c dd (by decide) ⟨x, H, J1, by rw [ek]; exact ru, ⟨rfl, hx⟩, ?_, fun b hb => (hf b hb).1⟩⟩
    show h'.IsKeyIter it d (i + 1) vs.length ep
    rw [← ls]
    exact st'
  done := by
    rintro X rfl rfl rfl hc i pins s σ H E J hf st ⟨hd, hi⟩
    obtain ⟨f0, f1, f2, f3, f4, f5⟩ := hf it (List.mem_singleton.mpr rfl)
    obtain ⟨es, hm, he, _, _⟩ := dX_raw J.hok hd
    have ls : es.size = vs.length := by rw [← Array.length_toList, he, List.length_map, rv.length, List.length_map]
    rw [← ls] at st hi
    exact wpAny_pyNext_keys_end_raw (J.ok.hd hc) st hm hi fun h' eb => ⟨rfl, J.turned (t' := s.toks) (fun b ob nb e => eb b ob nb e) f0 f1 f3 f4 f5⟩
  self := fun A i s Q E st h => wpAny_pyIter_keyiter st h
theorem walk_dX {w : World} {d : Addr} {ep : Nat} {xs : List (NestedKey × Value × Value)} {vs : List V} : Walk (Itx w d ep xs vs) vs.length (fun H => H d = some (dX w d ep xs)) (YAt vs) :=
  ⟨fun i _ hi q => ⟨q, hi⟩, fun _ q => ⟨q, Nat.le_refl _⟩, fun i H v H' _ q y => y⟩
end L2
namespace GS
open PySem L2
abbrev D := PyData
/-- the written part and the world -/
structure KW where
  fr : PySem.W.Frag
  w : World
  /-- whether there are pointers -/
  pt : Bool := false
  /-- below the numbers of all stores -/
  lv : Nat := 0
instance : CoeOut KW PySem.W.Frag := ⟨KW.fr⟩
/-- how a slot holds its datum: shared (never changed any more), owned (the slot's own list or dict), lent by the caller; behind the slots: the store -/
inductive Fl where | sh | ow | io | st
  deriving DecidableEq
structure Cel where
  d : D
  fl : Fl
abbrev Rho := List (Option Cel)
/-- what an expression gives: a shared datum, a new list or dict that nobody else holds, what stands in a slot, what stands in a cell of the store -/
inductive Hd where | sh (d : D) | fr (d : D) | bw (i : Nat) | sp (s g : Nat)
/-- an exception: its class's name, its fields -/
structure Xc where
  cls : Str
  fs : List (Str × D)
inductive RE where | stuck | ok (h : Hd) (ρ : Rho) | exc (x : Xc) (ρ : Rho)
inductive RS where | stuck | nx (ρ : Rho) | rt (h : Hd) (ρ : Rho) | bk (ρ : Rho) | ct (ρ : Rho) | exc (x : Xc) (ρ : Rho)
abbrev EF := Rho → RE
abbrev SF := Rho → RS
/-- a pointer: the store's number, the cell's -/
abbrev ptrD (s g : Nat) : D := .dict [(.none, .list [.int (s : Int), .int (g : Int)])]
/-- a store -/
abbrev stD (s : Nat) (μ : List D) : D := .tuple [.int (s : Int), .list μ]
/-- a locked cell bears its content in a tuple of one -/
def lockB : D → Bool
  | .tuple _ => true
  | _ => false
def cntD : D → D
  | .tuple [d] => d
  | d => d
mutual
/-- a datum as a key -/
def nkD : D → Option NestedKey
  | .none => some .none
  | .bool b => some (.num (if b then 1 else 0))
  | .int i => some (.num i)
  | .str x => some (.text x)
  | .tuple ds => (nkL ds).map .tup
  | .list _ => none
  | .dict _ => none
def nkL : List D → Option (List NestedKey)
  | [] => some []
  | d :: ds => (nkD d).bind fun k => (nkL ds).map fun ks => k :: ks
end
/-- a tuple as a key -/
def tkD (ds : List D) : Option NestedKey := (nkL ds).bind fun ks => if (NestedKey.tup ks).depth ≤ 8 then some (.tup ks) else none
def tupB : D → Bool
  | .tuple _ => true
  | _ => false
/-- what may be a key -/
def keyD : D → Option NestedKey
  | .int i => some (.num i)
  | .str x => some (.text x)
  | .tuple ds => tkD ds
  | _ => none
def kD : Key → D
  | .inl i => .int i
  | .inr x => .str x
/-- the class of that name in the written part -/
def cvK (K : PySem.W.Frag) (c : Str) : Value := match K.find? (fun p => match p.2.data with | .cls cd => cd.name == c | _ => false) with
  | some p => .ref p.1
  | none => .none
/-- an exception object -/
def exV (a : Addr) (cls : Value) (d : Option Addr) : HO := .ext fun h => ∃ (oe : Obj) (vs : Array Value), h.get? a = some oe ∧ Zc cls d oe ∧ oe.data = .fields vs
/-- what the written part says of an own exception class -/
def xcB (K : PySem.W.Frag) (cls : Value) : Bool := match cls with
  | .ref D => (PySem.W.clsIn K D).isSome && (decide (PySem.W.findIn K (.ref D) "__getattribute__" = some (some (.builtin "BaseException.__getattribute__"))) && (decide (PySem.W.findIn K (.ref D) "__getattr__" = some none) && (decide (PySem.W.subIn K (.ref D) (.type "BaseException") = some true) &&
      (PySem.W.hasDictIn K D && (decide (PySem.W.findIn K (.ref D) "__class__" = some (some (.builtin "object.__class__"))) && (decide (PySem.W.specialIn K (.builtin "object.__class__") "__get__" = some (some (.builtin "getset_descriptor.__get__"))) &&
      (decide (PySem.W.takesIn K (.builtin "object.__class__") = some true) && (decide (PySem.W.mroIn K D (.type "object") = some true) && ["tuple", "str", "bool", "int", "list", "dict"].all fun T => decide (PySem.W.kitOne K (.ref D) (.type T) = some false)))))))))
  | _ => false
/-- an exception as a datum: its class's name, its fields' names, what they hold -/
abbrev xnD (c : Str) (ns : List Str) (ds : List D) : D := .dict [(.none, .tuple (.str c :: .tuple (ns.map PyData.str) :: ds))]
def xnB : List (D × D) → Bool
  | (.none, _) :: _ => true
  | _ => false
/-- an exception's dict -/
def XdB (B : Hp) (d : Option Addr) (fs : List (Str × V)) : Prop := (d = none ∧ fs = []) ∨ ∃ dd, d = some dd ∧ B dd = some (.xd fs)
mutual
inductive Rp (K : KW) (B : Hp) : V → D → Prop
  | non : Rp K B .non .none
  | bl (b : Bool) : Rp K B (.bl b) (.bool b)
  | int (i : Int) : Rp K B (.int i) (.int i)
  | str (x : Str) : Rp K B (.str x) (.str x)
  | lst {a : Addr} {xs : List V} {ds : List D} : SqL K B a xs → RpL K B xs ds → Rp K B (.ref a) (.list ds)
  | tup {a : Addr} {xs : List V} {ds : List D} : XT B a xs → RpL K B xs ds → Rp K B (.ref a) (.tuple ds)
  | dct {a : Addr} {ep : Nat} {b : Bool} {xs : List (NestedKey × Value × Value)} {ps : List (D × D)} : B a = some (dX K.w a ep xs) → RpX K B b xs ps → Rp K B (.ref a) (.dict ps)
  | exn {a : Addr} {c : Str} {d : Option Addr} {fs : List (Str × V)} {ds : List D} : B a = some (exV a (cvK K c) d) → xcB K (cvK K c) = true → XdB B d fs → RpL K B (fs.map (·.2)) ds → Rp K B (.ref a) (xnD c (fs.map (·.1)) ds)
  | ptr {a : Addr} {s g : Nat} : K.pt = true → B a = some (.met s g) → Rp K B (.ref a) (ptrD s g)
inductive RpL (K : KW) (B : Hp) : List V → List D → Prop
  | nil : RpL K B [] []
  | cons {v : V} {vs : List V} {d : D} {ds : List D} : Rp K B v d → RpL K B vs ds → RpL K B (v :: vs) (d :: ds)
inductive RpK (K : KW) (B : Hp) : List (Key × V) → List (D × D) → Prop
  | nil : RpK K B [] []
  | cons {k : Key} {v : V} {kvs : List (Key × V)} {d : D} {ps : List (D × D)} : Rp K B v d → RpK K B kvs ps → RpK K B ((k, v) :: kvs) ((kD k, d) :: ps)
inductive RpX (K : KW) (B : Hp) : Bool → List (NestedKey × Value × Value) → List (D × D) → Prop
  | nil {b : Bool} : RpX K B b [] []
  | cons {b : Bool} {k : NestedKey} {kv v : V} {ku u : Value} {xs : List (NestedKey × Value × Value)} {kd d : D} {ps : List (D × D)} : keyD kd = some k → tupB kd = b → Rp K B kv kd → RelV kv ku → RelV v u → Rp K B v d → RpX K B b xs ps → RpX K B b ((k, ku, u) :: xs) ((kd, d) :: ps)
end
theorem same_rd {H H' : Hp} {a : Addr} {u : HO} (e : Same H H') (h : Rd H a u) : Rd H' a u := by
  rcases h with h | ⟨o, h⟩
  · exact .inl (e _ _ h)
  · exact .inr ⟨o, e _ _ h⟩
theorem same_l {K : KW} {H H' : Hp} {a : Addr} {xs : List V} (e : Same H H') (h : SqL K H a xs) : SqL K H' a xs := h.elim (fun h => .inl (same_rd e h)) .inr
theorem same_x {H H' : Hp} {a : Addr} {xs : List V} (e : Same H H') (h : XT H a xs) : XT H' a xs := let ⟨o, h1, h2⟩ := h; ⟨o, e _ _ h1, h2⟩
theorem XdB.mono {B B' : Hp} {d : Option Addr} {fs : List (Str × V)} (e : Same B B') (h : XdB B d fs) : XdB B' d fs := h.imp id fun ⟨dd, e1, e2⟩ => ⟨dd, e1, e _ _ e2⟩
/-- what is known of the heap by what is shared: all but the store's cells -/
def SameT (B H : Hp) : Prop := ∀ a o, B a = some o → H a = some o ∨ ((∃ s g, o = .met s g) ∧ ∃ u, H a = some u)
theorem Same.t {B H : Hp} (h : Same B H) : SameT B H := fun a o e => .inl (h a o e)
theorem Same.transT {B B' H : Hp} (e : Same B B') (h : SameT B' H) : SameT B H := fun a o q => h a o (e a o q)
theorem SameT.at {B H : Hp} (s : SameT B H) {a : Addr} {o : HO} (e : B a = some o) (n : ∀ x y, o ≠ .met x y) : H a = some o := (s a o e).elim id fun ⟨⟨x, y, z⟩, _⟩ => absurd z (n x y)
theorem SameT.free {B H : Hp} (s : SameT B H) {a : Addr} (h : H a = none) : B a = none := by
  cases e : B a with
  | none => rfl
  | some o =>
    rcases s a o e with q | ⟨_, u, q⟩
    · rw [h] at q; cases q
    · rw [h] at q; cases q
theorem SameT.there {B H : Hp} (s : SameT B H) {a : Addr} {o : HO} (e : B a = some o) : ∃ u, H a = some u := (s a o e).elim (fun h => ⟨_, h⟩) (·.2)
theorem XdB.t {B H : Hp} {d : Option Addr} {fs : List (Str × V)} (e : SameT B H) (h : XdB B d fs) : XdB H d fs := h.imp id fun ⟨dd, e1, e2⟩ => ⟨dd, e1, e.at e2 fun _ _ z => by cases z⟩
theorem same_rdT {B H : Hp} {a : Addr} {u : HO} (e : SameT B H) (n : ∀ x y, u ≠ .met x y) (h : Rd B a u) : Rd H a u := by
  rcases h with h | ⟨o, h⟩
  · exact .inl (e.at h n)
  · exact .inr ⟨o, e.at h fun _ _ z => by cases z⟩
theorem same_lT {K : KW} {B H : Hp} {a : Addr} {xs : List V} (e : SameT B H) (h : SqL K B a xs) : SqL K H a xs := h.elim (fun h => .inl (same_rdT e (fun _ _ z => by cases z) h)) .inr
theorem same_tT {K : KW} {B H : Hp} {a : Addr} {xs : List V} (e : SameT B H) (h : SqT K B a xs) : SqT K H a xs := h.elim (fun h => .inl (same_rdT e (fun _ _ z => by cases z) h)) .inr
theorem same_xT {B H : Hp} {a : Addr} {xs : List V} (e : SameT B H) (h : XT B a xs) : XT H a xs := let ⟨o, h1, h2⟩ := h; ⟨o, e.at h1 (fun _ _ z => by cases z), h2⟩
section
variable {K : KW} {B B' : Hp}
mutual
theorem Rp.mono (e : Same B B') : ∀ {v : V} {d : D}, Rp K B v d → Rp K B' v d
  | _, _, .non => .non
  | _, _, .bl b => .bl b
  | _, _, .int i => .int i
  | _, _, .str x => .str x
  | _, _, .lst h t => .lst (same_l e h) (RpL.mono e t)
  | _, _, .tup h t => .tup (same_x e h) (RpL.mono e t)
  | _, _, .dct h t => .dct (e _ _ h) (RpX.mono e t)
  | _, _, .exn h q x t => .exn (e _ _ h) q (x.mono e) (RpL.mono e t)
  | _, _, .ptr p h => .ptr p (e _ _ h)
theorem RpL.mono (e : Same B B') : ∀ {v : List V} {d : List D}, RpL K B v d → RpL K B' v d
  | _, _, .nil => .nil
  | _, _, .cons h t => .cons (Rp.mono e h) (RpL.mono e t)
theorem RpK.mono (e : Same B B') : ∀ {v : List (Key × V)} {d : List (D × D)}, RpK K B v d → RpK K B' v d
  | _, _, .nil => .nil
  | _, _, .cons h t => .cons (Rp.mono e h) (RpK.mono e t)
theorem RpX.mono (e : Same B B') : ∀ {b : Bool} {v : List (NestedKey × Value × Value)} {d : List (D × D)}, RpX K B b v d → RpX K B' b v d
  | _, _, _, .nil => .nil
  | _, _, _, .cons h1 h2 h3 h4 h5 h6 m => .cons h1 h2 (Rp.mono e h3) h4 h5 (Rp.mono e h6) (RpX.mono e m)
end
theorem RpL.length : ∀ {vs : List V} {ds : List D}, RpL K B vs ds → vs.length = ds.length
  | _, _, .nil => rfl
  | _, _, .cons _ t => by rw [List.length_cons, List.length_cons, RpL.length t]
theorem RpL.get : ∀ {vs : List V} {ds : List D} {i : Nat} {d : D}, RpL K B vs ds → ds[i]? = some d → ∃ v, vs[i]? = some v ∧ Rp K B v d
  | _, _, _, _, .nil, e => by simp at e
  | _, _, 0, _, .cons h _, e => by simp at e; subst e; exact ⟨_, rfl, h⟩
  | _, _, i + 1, d, .cons _ t, e => by
    obtain ⟨v, h1, h2⟩ := RpL.get (i := i) (d := d) t (by simpa using e)
    exact ⟨v, by simpa using h1, h2⟩
theorem RpL.getV : ∀ {vs : List V} {ds : List D} {i : Nat} {v : V}, RpL K B vs ds → vs[i]? = some v → ∃ d, ds[i]? = some d ∧ Rp K B v d
  | _, _, _, _, .nil, e => by simp at e
  | _, _, 0, _, .cons h _, e => by simp at e; subst e; exact ⟨_, rfl, h⟩
  | _, _, i + 1, d, .cons _ t, e => by
    obtain ⟨v, h1, h2⟩ := RpL.getV (i := i) (v := d) t (by simpa using e)
    exact ⟨v, by simpa using h1, h2⟩
theorem RpL.append : ∀ {vs ws : List V} {ds es : List D}, RpL K B vs ds → RpL K B ws es → RpL K B (vs ++ ws) (ds ++ es)
  | _, _, _, _, .nil, s => s
  | _, _, _, _, .cons h t, s => .cons h (RpL.append t s)
theorem RpL.take : ∀ {vs : List V} {ds : List D} (n : Nat), RpL K B vs ds → RpL K B (vs.take n) (ds.take n)
  | _, _, 0, _ => .nil
  | _, _, _ + 1, .nil => .nil
  | _, _, n + 1, .cons h t => .cons h (RpL.take n t)
theorem RpL.drop : ∀ {vs : List V} {ds : List D} (n : Nat), RpL K B vs ds → RpL K B (vs.drop n) (ds.drop n)
  | _, _, 0, r => r
  | _, _, _ + 1, .nil => .nil
  | _, _, n + 1, .cons _ t => RpL.drop n t
theorem RpL.set {x : V} {e : D} (r : Rp K B x e) : ∀ {vs : List V} {ds : List D} (i : Nat), RpL K B vs ds → RpL K B (vs.set i x) (ds.set i e)
  | _, _, _, .nil => .nil
  | _, _, 0, .cons _ t => .cons r t
  | _, _, i + 1, .cons q t => .cons q (RpL.set r i t)
theorem RpL.reverse {vs : List V} {ds : List D} (h : RpL K B vs ds) : RpL K B vs.reverse ds.reverse := by
  induction vs generalizing ds with
  | nil => cases h; exact .nil
  | cons v vs ih =>
    cases h with
    | cons h1 h2 =>
      rw [List.reverse_cons, List.reverse_cons]
      exact (ih h2).append (.cons h1 .nil)
mutual
def plain : D → Bool
  | .none => true
  | .bool _ => true
  | .int _ => true
  | .str _ => true
  | .list ds => plainL ds
  | .tuple ds => plainL ds
  | .dict _ => false
def plainL : List D → Bool
  | [] => true
  | d :: ds => plain d && plainL ds
end
mutual
theorem Rp.dp : ∀ {v : V} (d : D), Rp K B v d → plain d = true → Dp K B v d
  | _, .none, .non, _ => .non
  | _, .bool _, .bl b, _ => .bl b
  | _, .int _, .int i, _ => .int i
  | _, .str _, .str x, _ => .str x
  | _, .list ds, .lst h t, e => .lst h (RpL.dp ds t (by unfold plain at e; exact e))
  | _, .tuple ds, .tup h t, e => .tup h.sq (RpL.dp ds t (by unfold plain at e; exact e))
  | _, .dict _, .dct h t, e => by unfold plain at e; cases e
  | _, .dict _, .exn _ _ _ _, e => by unfold plain at e; cases e
  | _, .dict _, .ptr _ _, e => by unfold plain at e; cases e
theorem RpL.dp : ∀ {vs : List V} (ds : List D), RpL K B vs ds → plainL ds = true → DpAll K B vs ds
  | _, [], .nil, _ => .nil
  | _, d :: ds, .cons h t, e => by
    unfold plainL at e
    rw [Bool.and_eq_true] at e
    exact .cons (Rp.dp d h e.1) (RpL.dp ds t e.2)
end
mutual
theorem Rp.dpT {H : Hp} (s : SameT B H) : ∀ {v : V} (d : D), Rp K B v d → plain d = true → Dp K H v d
  | _, .none, .non, _ => .non
  | _, .bool _, .bl b, _ => .bl b
  | _, .int _, .int i, _ => .int i
  | _, .str _, .str x, _ => .str x
  | _, .list ds, .lst h t, e => .lst (same_lT s h) (RpL.dpT s ds t (by unfold plain at e; exact e))
  | _, .tuple ds, .tup h t, e => .tup (same_xT s h).sq (RpL.dpT s ds t (by unfold plain at e; exact e))
  | _, .dict _, .dct h t, e => by unfold plain at e; cases e
  | _, .dict _, .exn _ _ _ _, e => by unfold plain at e; cases e
  | _, .dict _, .ptr _ _, e => by unfold plain at e; cases e
theorem RpL.dpT {H : Hp} (s : SameT B H) : ∀ {vs : List V} (ds : List D), RpL K B vs ds → plainL ds = true → DpAll K H vs ds
  | _, [], .nil, _ => .nil
  | _, d :: ds, .cons h t, e => by
    unfold plainL at e
    rw [Bool.and_eq_true] at e
    exact .cons (Rp.dpT s d h e.1) (RpL.dpT s ds t e.2)
end
end
/-- the object of an owned slot -/
def Ow (K : KW) (B : Hp) (a : Addr) (o : Option HO) : D → Prop
  | .list ds => ∃ vs, o = some (.lst vs) ∧ RpL K B vs ds
  | .dict ps => ∃ ep b xs, o = some (dX K.w a ep xs) ∧ RpX K B b xs ps
  | _ => False
theorem Ow.mono {K : KW} {B B' : Hp} {a : Addr} {o : Option HO} (e : Same B B') : ∀ {d : D}, Ow K B a o d → Ow K B' a o d
  | .list _, ⟨vs, h1, h2⟩ => ⟨vs, h1, h2.mono e⟩
  | .dict _, ⟨ep, b, xs, h1, h2⟩ => ⟨ep, b, xs, h1, h2.mono e⟩
theorem Ow.some {K : KW} {B : Hp} {a : Addr} {o : Option HO} : ∀ {d : D}, Ow K B a o d → ∃ u, o = Option.some u
  | .list _, ⟨vs, h1, _⟩ => ⟨_, h1⟩
  | .dict _, ⟨_, _, _, h1, _⟩ => ⟨_, h1⟩
/-- slot i holds v by c -/
def COk (K : KW) (B H : Hp) (c : Cel) (v : V) : Prop :=
  (c.fl = .sh ∧ Rp K B v c.d) ∨ (c.fl ≠ .sh ∧ ∃ a, v = .ref a ∧ B a = none ∧ Ow K B a (H a) c.d)
def OwnA (ρ : Rho) (σ : St) (a : Addr) : Prop := ∃ (i : Nat) (c : Cel), ρ[i]? = some (some c) ∧ c.fl ≠ .sh ∧ σ[i]? = some (some (.ref a))
/-- behind the slots stands the store alone, if any -/
structure LenOk (ρ : Rho) (σ : St) : Prop where
  le : σ.length ≤ ρ.length
  ex : ∀ i : Nat, σ.length ≤ i → i < ρ.length → ∃ d : D, ρ[i]? = some (some (Cel.mk (d) .st))
/-- the store: its cells are the addresses that bear its tokens -/
structure StAt (K : KW) (s : Nat) (μ : List D) (B H : Hp) : Prop where
  lv : K.lv ≤ s
  has : ∀ a g, B a = some (.met s g) → ∃ c, μ[g]? = some c ∧ Ow K B a (H a) (cntD c)
  all : ∀ g, g < μ.length → ∃ a, B a = some (.met s g)
  one : ∀ a b g, B a = some (.met s g) → B b = some (.met s g) → a = b
structure StOk (K : KW) (ρ : Rho) (σ : St) (B H : Hp) : Prop where
  at' : ∀ (i : Nat) (d : D), ρ[i]? = some (some (Cel.mk (d) .st)) → i = σ.length ∧ ∃ s μ, d = stD s μ ∧ StAt K s μ B H
  id' : ∀ a s g, B a = some (.met s g) → K.lv ≤ s
/-- a cell of the store that may be changed -/
def TokA (ρ : Rho) (B : Hp) (a : Addr) : Prop := ∃ (i s : Nat) (μ : List D) (g : Nat) (c : D), ρ[i]? = some (some (Cel.mk (stD s μ) .st)) ∧ B a = some (.met s g) ∧ μ[g]? = some c ∧ lockB c = false
structure Sim (K : KW) (ρ : Rho) (σ : St) (B H : Hp) : Prop where
  bh : SameT B H
  len : LenOk ρ σ
  sl : ∀ (i : Nat) (c : Cel), ρ[i]? = some (some c) → c.fl ≠ .st → ∃ v, σ[i]? = some (some v) ∧ COk K B H c v
  dj : ∀ (i j : Nat) (ci cj : Cel) (a : Addr), ρ[i]? = some (some ci) → ρ[j]? = some (some cj) → ci.fl ≠ .sh → cj.fl ≠ .sh → σ[i]? = some (some (.ref a)) → σ[j]? = some (some (.ref a)) → i = j
  st : StOk K ρ σ B H
/-- what may become shared or owned: a new address, or an owned one -/
def New (ρ : Rho) (σ : St) (H : Hp) (a : Addr) : Prop := H a = none ∨ OwnA ρ σ a
/-- what becomes of the store -/
structure TkX (ρ : Rho) (σ : St) (B H : Hp) (ρ' : Rho) (B' : Hp) : Prop where
  tk : ∀ a, TokA ρ' B' a → TokA ρ B a ∨ New ρ σ H a
  tn : ∀ a s g, B' a = some (.met s g) → B a = some (.met s g) ∨ ∃ (i : Nat) (μ : List D), ρ[i]? = some (some (Cel.mk (stD s μ) .st))
  kt : ∀ (i s : Nat) (μ : List D), ρ'[i]? = some (some (Cel.mk (stD s μ) .st)) → ∃ ν : List D, ρ[i]? = some (some (Cel.mk (stD s ν) .st))
/-- from one state to a later one: what is shared stays and grows by new objects (and owned ones that are given up); what was neither shared nor owned stays -/
structure Ext (ρ : Rho) (σ : St) (B H : Hp) (ρ' : Rho) (σ' : St) (B' H' : Hp) : Prop where
  bb : Same B B'
  nw : ∀ a o, B' a = some o → B a = some o ∨ New ρ σ H a
  kp : ∀ a o, H a = some o → ¬ OwnA ρ σ a → H' a = some o ∨ (TokA ρ B a ∧ ∃ u, H' a = some u)
  sub : ∀ a, OwnA ρ' σ' a → New ρ σ H a
  io : ∀ (i : Nat) (c : Cel), ρ[i]? = some (some c) → c.fl = .io → σ'[i]? = σ[i]? ∧ ∃ c', ρ'[i]? = some (some c') ∧ c'.fl = .io
  oi : ∀ (i : Nat) (c : Cel), ρ'[i]? = some (some c) → c.fl = .io → ∃ c', ρ[i]? = some (some c') ∧ c'.fl = .io
  tx : TkX ρ σ B H ρ' B'
section
variable {K : KW} {ρ ρ1 ρ2 : Rho} {σ σ1 σ2 : St} {B B1 B2 H H1 H2 : Hp}
theorem TkX.of (h1 : ∀ (i : Nat) (d : D), ρ1[i]? = some (some (Cel.mk (d) .st)) → ρ[i]? = some (some (Cel.mk (d) .st))) (h2 : ∀ a s g, B1 a = some (.met s g) → B a = some (.met s g)) : TkX ρ σ B H ρ1 B1 :=
  ⟨fun a ⟨i, s, μ, g, c, q1, q2, q3, q4⟩ => .inl ⟨i, s, μ, g, c, h1 i _ q1, h2 a s g q2, q3, q4⟩, fun a s g q => .inl (h2 a s g q), fun i s μ q => ⟨μ, h1 i _ q⟩⟩
theorem TkX.rf : TkX ρ σ B H ρ B := .of (fun _ _ h => h) fun _ _ _ h => h
theorem TkX.b (h2 : ∀ a s g, B1 a = some (.met s g) → B a = some (.met s g)) : TkX ρ σ B H ρ B1 := .of (fun _ _ h => h) h2
theorem TkX.r (h1 : ∀ (i : Nat) (d : D), ρ1[i]? = some (some (Cel.mk (d) .st)) → ρ[i]? = some (some (Cel.mk (d) .st))) : TkX ρ σ B H ρ1 B := .of h1 fun _ _ _ h => h
theorem met_upd {p : Addr} {o : HO} (n : ∀ x y, o ≠ .met x y) {a : Addr} {s g : Nat} (h : upd B p o a = some (.met s g)) : B a = some (.met s g) := by
  by_cases e : a = p
  · subst e; rw [upd_same] at h; cases h; exact absurd rfl (n s g)
  · rwa [upd_ne e] at h
theorem TkX.upd {p : Addr} {o : HO} (x : TkX ρ σ B H ρ1 B1) (n : ∀ x y, o ≠ .met x y) : TkX ρ σ B H ρ1 (upd B1 p o) :=
  ⟨fun a ⟨i, s, μ, g, c, q1, q2, q3, q4⟩ => x.tk a ⟨i, s, μ, g, c, q1, met_upd n q2, q3, q4⟩, fun a s g q => x.tn a s g (met_upd n q), x.kt⟩
theorem TkX.st {ρ2 : Rho} (x : TkX ρ σ B H ρ1 B1) (h1 : ∀ (i : Nat) (d : D), ρ2[i]? = some (some (Cel.mk d .st)) → ρ1[i]? = some (some (Cel.mk d .st))) : TkX ρ σ B H ρ2 B1 :=
  ⟨fun a ⟨i, s, μ, g, c, q1, q2, q3, q4⟩ => x.tk a ⟨i, s, μ, g, c, h1 _ _ q1, q2, q3, q4⟩, x.tn, fun i s μ q => x.kt i s μ (h1 _ _ q)⟩
/-- the store stays where its tokens and its cells stay -/
theorem StOk.keep (h : StOk K ρ σ B H) (e : Same B B1) (tk : ∀ a s g, B1 a = some (.met s g) → B a = some (.met s g)) (hh : ∀ a s g, B a = some (.met s g) → H1 a = H a) (hr : ∀ (i : Nat) (d : D), ρ1[i]? = some (some (Cel.mk (d) .st)) → ρ[i]? = some (some (Cel.mk (d) .st))) (hl : σ1.length = σ.length) : StOk K ρ1 σ1 B1 H1 :=
  ⟨fun i d q => by
    obtain ⟨e1, s, μ, e2, S⟩ := h.at' i d (hr i d q)
    refine ⟨by rw [hl]; exact e1, s, μ, e2, ⟨S.lv, fun a g q => ?_, fun g q => ?_, fun a b g q r => S.one a b g (tk _ _ _ q) (tk _ _ _ r)⟩⟩
    · obtain ⟨c, r1, r2⟩ := S.has a g (tk a s g q)
      exact ⟨c, r1, by rw [hh a s g (tk a s g q)]; exact r2.mono e⟩
    · obtain ⟨a, r⟩ := S.all g q
      exact ⟨a, e _ _ r⟩, fun a s g q => h.id' a s g (tk a s g q)⟩
theorem st_set {j : Nat} {c : Option Cel} (n : ∀ d : D, c ≠ some (Cel.mk (d) .st)) {i : Nat} {d : D} (h : (ρ.set j c)[i]? = some (some (Cel.mk (d) .st))) : ρ[i]? = some (some (Cel.mk (d) .st)) := by
  by_cases e : j = i
  · subst e
    rw [List.getElem?_set] at h
    rw [if_pos rfl] at h
    split at h
    · cases h; exact absurd rfl (n d)
    · cases h
  · rwa [List.getElem?_set, if_neg e] at h
theorem LenOk.set (h : LenOk ρ σ) {j : Nat} {c : Option Cel} (hj : j < σ.length) : LenOk (ρ.set j c) σ := ⟨by rw [List.length_set]; exact h.le, fun i h1 h2 => by
  rw [List.length_set] at h2
  obtain ⟨d, e⟩ := h.ex i h1 h2
  exact ⟨d, by rw [List.getElem?_set, if_neg (by omega)]; exact e⟩⟩
theorem LenOk.setσ (h : LenOk ρ σ) {j : Nat} {v : Option V} : LenOk ρ (σ.set j v) := ⟨by rw [List.length_set]; exact h.le, fun i h1 h2 => h.ex i (by rw [List.length_set] at h1; exact h1) h2⟩
theorem LenOk.of {σ' : St} (h : LenOk ρ σ) (hl : σ'.length = σ.length) : LenOk ρ σ' := ⟨by rw [hl]; exact h.le, fun i h1 h2 => h.ex i (by rw [← hl]; exact h1) h2⟩
/-- a slot that isn't the store is one of the slots -/
theorem LenOk.lt (h : LenOk ρ σ) {i : Nat} (hi : i < ρ.length) (n : ∀ d : D, ρ[i]? ≠ some (some (Cel.mk (d) .st))) : i < σ.length := by
  apply Classical.byContradiction
  intro z
  obtain ⟨d, e⟩ := h.ex i (by omega) hi
  exact n d e
theorem Ext.refl : Ext ρ σ B H ρ σ B H :=
  ⟨Same.refl B, fun _ _ h => .inl h, fun _ _ h _ => .inl h, fun _ h => .inr h, fun i c h1 h2 => ⟨rfl, c, h1, h2⟩, fun i c h1 h2 => ⟨c, h1, h2⟩, .rf⟩
/-- what is new later is new from the start -/
theorem Ext.back (a : Ext ρ σ B H ρ1 σ1 B1 H1) {x : Addr} (h : New ρ1 σ1 H1 x) : New ρ σ H x := by
  rcases h with h | h
  · by_cases ho : OwnA ρ σ x
    · exact .inr ho
    · cases e : H x with
      | none => exact .inl e
      | some u =>
        rcases a.kp x u e ho with q | ⟨_, v, q⟩ <;> (rw [q] at h; cases h)
  · exact a.sub x h
theorem Ext.trans (a : Ext ρ σ B H ρ1 σ1 B1 H1) (b : Ext ρ1 σ1 B1 H1 ρ2 σ2 B2 H2) : Ext ρ σ B H ρ2 σ2 B2 H2 where
  bb := a.bb.trans b.bb
  nw := fun x o h => (b.nw x o h).elim (fun h => a.nw x o h) fun h => .inr (a.back h)
  kp := fun x o h n => by
    have nn : ¬ New ρ σ H x := fun q => q.elim (fun z => by rw [h] at z; cases z) n
    have n1 : ¬ OwnA ρ1 σ1 x := fun q => nn (a.sub x q)
    rcases a.kp x o h n with q | ⟨tq, u, q⟩
    · rcases b.kp x o q n1 with r | ⟨tr, v, r⟩
      · exact .inl r
      · exact .inr ⟨(a.tx.tk x tr).elim (fun z => z) fun z => absurd z nn, v, r⟩
    · rcases b.kp x u q n1 with r | ⟨_, v, r⟩
      · exact .inr ⟨tq, _, r⟩
      · exact .inr ⟨tq, v, r⟩
  sub := fun x h => a.back (b.sub x h)
  io := fun i c h1 h2 => by
    obtain ⟨e1, c1, q1, q2⟩ := a.io i c h1 h2
    obtain ⟨e2, c2, q3, q4⟩ := b.io i c1 q1 q2
    exact ⟨e2.trans e1, c2, q3, q4⟩
  oi := fun i c h1 h2 => by
    obtain ⟨c1, q1, q2⟩ := b.oi i c h1 h2
    exact a.oi i c1 q1 q2
  tx := ⟨fun x h => (b.tx.tk x h).elim (fun h => a.tx.tk x h) fun h => .inr (a.back h), fun x s g h => by
    rcases b.tx.tn x s g h with q | ⟨i, μ, q⟩
    · exact a.tx.tn x s g q
    · exact .inr ⟨i, a.tx.kt i s μ q⟩, fun i s μ h => by
    obtain ⟨ν, q⟩ := b.tx.kt i s μ h
    exact a.tx.kt i s ν q⟩
/-- an address that is tracked, not shared and nobody's stays so -/
theorem Ext.keepN (a : Ext ρ σ B H ρ1 σ1 B1 H1) {x : Addr} {o : HO} (h : H x = some o) (hb : B x = none) (n : ¬ OwnA ρ σ x) : H1 x = some o ∧ B1 x = none ∧ ¬ OwnA ρ1 σ1 x := by
  have nn : ¬ New ρ σ H x := fun q => q.elim (fun z => by rw [h] at z; cases z) n
  refine ⟨(a.kp x o h n).elim id fun ⟨⟨_, s, _, g, _, _, z, _⟩, _⟩ => (by rw [hb] at z; cases z), ?_, fun q => nn (a.sub x q)⟩
  cases e : B1 x with
  | none => rfl
  | some u =>
    rcases a.nw x u e with q | q
    · rw [hb] at q; cases q
    · exact absurd q nn
/-- .. and what is shared, too, but for the store's cells -/
theorem Ext.keepT (a : Ext ρ σ B H ρ1 σ1 B1 H1) {x : Addr} {o : HO} (h : H x = some o) (n : ¬ OwnA ρ σ x) (nt : ¬ TokA ρ B x) : H1 x = some o :=
  (a.kp x o h n).elim id fun z => absurd z.1 nt
theorem Sim.nst (S : Sim K ρ σ B H) {i : Nat} {c : Cel} {x : Option V} (h : ρ[i]? = some (some c)) (h3 : σ[i]? = some x) : c.fl ≠ .st := fun e => by
  obtain ⟨d, fl⟩ := c
  cases e
  obtain ⟨q, _⟩ := S.st.at' i d h
  rw [q, List.getElem?_eq_none (Nat.le_refl _)] at h3
  cases h3
theorem Sim.ownH (S : Sim K ρ σ B H) {a : Addr} (h : OwnA ρ σ a) : B a = none ∧ ∃ o, H a = some o := by
  obtain ⟨i, c, h1, h2, h3⟩ := h
  obtain ⟨v, e, q⟩ := S.sl i c h1 (S.nst h1 h3)
  rw [h3] at e
  cases e
  rcases q with ⟨z, _⟩ | ⟨_, b, e, q1, q2⟩
  · exact absurd z h2
  · cases e
    exact ⟨q1, q2.some⟩
theorem Sim.free (S : Sim K ρ σ B H) {p : Addr} (h : H p = none) : B p = none ∧ ¬ OwnA ρ σ p :=
  ⟨S.bh.free h, fun q => by obtain ⟨_, o, e⟩ := S.ownH q; rw [h] at e; cases e⟩
theorem Sim.ltσ (S : Sim K ρ σ B H) {i : Nat} {c : Cel} (h : ρ[i]? = some (some c)) (n : c.fl ≠ .st) : i < σ.length := by
  obtain ⟨v, e, _⟩ := S.sl i c h n
  exact (List.getElem?_eq_some_iff.mp e).1
theorem COk.mono {c : Cel} {v : V} (h : COk K B H c v) (e : Same B B1) (hf : ∀ a, v = .ref a → B a = none → (∃ o, H a = some o) → c.fl ≠ .sh → B1 a = none ∧ H1 a = H a) : COk K B1 H1 c v := by
  rcases h with ⟨h1, h2⟩ | ⟨h1, a, rfl, h2, h3⟩
  · exact .inl ⟨h1, h2.mono e⟩
  · obtain ⟨q1, q2⟩ := hf a rfl h2 h3.some h1
    exact .inr ⟨h1, a, rfl, q1, by rw [q2]; exact h3.mono e⟩
/-- a new object, shared -/
theorem Sim.newB (S : Sim K ρ σ B H) {p : Addr} (hp : H p = none) (o : HO) (hm : ∀ x y, o ≠ .met x y := by intro _ _ h; first | (cases h; done) | (unfold dX at h; cases h; done) | (unfold exV at h; cases h; done)) : Sim K ρ σ (upd B p o) (upd H p o) ∧ Ext ρ σ B H ρ σ (upd B p o) (upd H p o) := by
  obtain ⟨bp, np⟩ := S.free hp
  have sB : Same B (upd B p o) := fun b u e => by rw [upd_ne (ne_of_none e bp)]; exact e
  have sH : Same H (upd H p o) := fun b u e => by rw [upd_ne (ne_of_none e hp)]; exact e
  have tk : ∀ a s g, upd B p o a = some (.met s g) → B a = some (.met s g) := fun a s g e => met_upd hm e
  refine ⟨⟨fun b u e => ?_, S.len, fun i c h hs => ?_, S.dj, S.st.keep sB tk (fun a s g e => upd_ne (ne_of_none e bp)) (fun _ _ h => h) rfl⟩, ⟨sB, fun a u e => ?_, fun a u e _ => .inl (sH a u e), fun _ h => .inr h, fun i c h1 h2 => ⟨rfl, c, h1, h2⟩, fun i c h1 h2 => ⟨c, h1, h2⟩, .b tk⟩⟩
  · by_cases hb : b = p
    · subst hb; rw [upd_same] at e ⊢; exact .inl e
    · rw [upd_ne hb] at e ⊢; exact S.bh _ _ e
  · obtain ⟨v, e, q⟩ := S.sl i c h hs
    refine ⟨v, e, q.mono sB fun a hv ha ho hf => ?_⟩
    have ne : a ≠ p := fun z => by subst z; obtain ⟨_, w⟩ := ho; rw [hp] at w; cases w
    exact ⟨by rw [upd_ne ne]; exact ha, by rw [upd_ne ne]⟩
  · by_cases hb : a = p
    · subst hb; exact .inr (.inl hp)
    · rw [upd_ne hb] at e; exact .inl e
/-- a new object that nobody holds yet -/
theorem Sim.newH (S : Sim K ρ σ B H) {p : Addr} (hp : H p = none) (o : HO) : Sim K ρ σ B (upd H p o) ∧ Ext ρ σ B H ρ σ B (upd H p o) := by
  obtain ⟨bp, np⟩ := S.free hp
  have sH : Same H (upd H p o) := fun b u e => by rw [upd_ne (ne_of_none e hp)]; exact e
  refine ⟨⟨fun b u e => ?_, S.len, fun i c h hs => ?_, S.dj, S.st.keep (Same.refl B) (fun _ _ _ h => h) (fun a s g e => upd_ne (ne_of_none e bp)) (fun _ _ h => h) rfl⟩, ⟨Same.refl B, fun a u e => .inl e, fun a u e _ => .inl (sH a u e), fun _ h => .inr h, fun i c h1 h2 => ⟨rfl, c, h1, h2⟩, fun i c h1 h2 => ⟨c, h1, h2⟩, .rf⟩⟩
  · rw [upd_ne (ne_of_none e bp)]; exact S.bh _ _ e
  obtain ⟨v, e, q⟩ := S.sl i c h hs
  refine ⟨v, e, q.mono (Same.refl B) fun a hv ha ho hf => ?_⟩
  have ne : a ≠ p := fun z => by subst z; obtain ⟨_, w⟩ := ho; rw [hp] at w; cases w
  exact ⟨ha, by rw [upd_ne ne]⟩
/-- an object that nobody holds becomes shared -/
theorem Sim.share (S : Sim K ρ σ B H) {p : Addr} {o : HO} (hb : B p = none) (hp : H p = some o) (n : ¬ OwnA ρ σ p) (hm : ∀ x y, o ≠ .met x y) : Sim K ρ σ (upd B p o) H := by
  have sB : Same B (upd B p o) := fun b u e => by rw [upd_ne (ne_of_none e hb)]; exact e
  refine ⟨fun b u e => ?_, S.len, fun i c h hs => ?_, S.dj, S.st.keep sB (fun a s g e => met_upd hm e) (fun _ _ _ _ => rfl) (fun _ _ h => h) rfl⟩
  · by_cases h : b = p
    · subst h; rw [upd_same] at e; cases e; exact .inl hp
    · rw [upd_ne h] at e; exact S.bh _ _ e
  · obtain ⟨v, e, q⟩ := S.sl i c h hs
    refine ⟨v, e, q.mono sB fun a hv ha ho hf => ⟨?_, rfl⟩⟩
    have ne : a ≠ p := fun z => by subst z; subst hv; exact n ⟨i, c, h, hf, e⟩
    rw [upd_ne ne]; exact ha
/-- slots without the store have none later -/
theorem Sim.noSt {σ1 : St} (S1 : Sim K ρ1 σ1 B1 H1) (x : TkX ρ σ B H ρ1 B1) {i : Nat} (h : ∀ d : D, ρ[i]? ≠ some (some (Cel.mk d .st))) (d : D) : ρ1[i]? ≠ some (some (Cel.mk d .st)) := fun q => by
  obtain ⟨e1, s, μ, rfl, _⟩ := S1.st.at' i d q
  obtain ⟨ν, r⟩ := x.kt i s μ q
  exact h _ r
/-- what runs without the store leaves its objects alone -/
theorem Ext.noTokR (h : ∀ (i : Nat) (d : D), ρ[i]? ≠ some (some (Cel.mk d .st))) (a : Addr) : ¬ TokA ρ B a := fun ⟨i, s, μ, g, c, q, _⟩ => h i _ q
theorem Ext.tkB (x : Ext ρ σ B H ρ1 σ1 B1 H1) (h : ∀ (i : Nat) (d : D), ρ[i]? ≠ some (some (Cel.mk d .st))) (a : Addr) (s g : Nat) (q : B1 a = some (.met s g)) : B a = some (.met s g) := (x.tx.tn a s g q).elim (fun h => h) fun ⟨i, μ, z⟩ => absurd z (h i _)
theorem Ext.tkH (x : Ext ρ σ B H ρ1 σ1 B1 H1) (S : Sim K ρ σ B H) (h : ∀ (i : Nat) (d : D), ρ[i]? ≠ some (some (Cel.mk d .st))) (a : Addr) (s g : Nat) (q : B a = some (.met s g)) : H1 a = H a := by
  obtain ⟨u, hu⟩ := S.bh.there q
  have no : ¬ OwnA ρ σ a := fun z => by
    have := (S.ownH z).1
    rw [q] at this; cases this
  rw [hu]
  exact x.keepT hu no (Ext.noTokR h a)
end
theorem Ow.nm {K : KW} {B : Hp} {a : Addr} {o : HO} : ∀ {d : D}, Ow K B a (Option.some o) d → ∀ x y, o ≠ .met x y
  | .list _, ⟨vs, h1, _⟩, _, _ => by cases h1; exact fun z => by cases z
  | .dict _, ⟨ep, b, xs, h1, _⟩, _, _ => by cases h1; unfold dX; exact fun z => by cases z
end GS
namespace GS
open PySem L2
def HdOk (K : KW) (N : Addr → Prop) (ρ : Rho) (σ : St) (B H : Hp) (v : V) : Hd → Prop
  | .sh d => Rp K B v d
  | .fr d => ∃ a, v = .ref a ∧ B a = none ∧ Ow K B a (H a) d ∧ ¬ OwnA ρ σ a ∧ N a
  | .bw i => σ[i]? = some (some v)
  | .sp s g => ∃ a : Addr, v = .ref a ∧ B a = some (.met s g)
/-- the context of a reading: the written part, the classes' values by name, what is wanted of an exception -/
structure Ct where
  K : KW
  cv : Str → Value
  W : WX
def XcOk (C : Ct) (B : Hp) (x : Xc) (cls : Value) (dct : Option Addr) : Prop :=
  cls = C.cv x.cls ∧ ((x.fs = [] ∧ dct = none) ∨ ∃ a fs, dct = some a ∧ B a = some (.xd fs) ∧ fs.map (·.1) = x.fs.map (·.1) ∧ RpL C.K B (fs.map (·.2)) (x.fs.map (·.2)))
def GoodE (C : Ct) (ρ : Rho) (σ : St) (B H : Hp) (Q : VK) : RE → Prop
  | .stuck => False
  | .ok h ρ' => ∀ v B' H', Sim C.K ρ' σ B' H' → Ext ρ σ B H ρ' σ B' H' → HdOk C.K (New ρ σ H) ρ' σ B' H' v h → Q v H'
  | .exc x ρ' => ∀ cls dct B' H', Sim C.K ρ' σ B' H' → Ext ρ σ B H ρ' σ B' H' → XcOk C B' x cls dct → C.W cls dct σ H'
def LkE (C : Ct) (t : TE) (f : EF) : Prop := ∀ ρ σ B H Q, Sim C.K ρ σ B H → GoodE C ρ σ B H Q (f ρ) → t σ H Q
structure SE (X : Cx) (C : Ct) (e : Expr) (t : TE) (f : EF) : Prop where
  pe : PE X e t
  lk : LkE C t f
def bindE (r : RE) (k : Hd → Rho → RE) : RE := match r with
  | .stuck => .stuck
  | .ok h ρ => k h ρ
  | .exc x ρ => .exc x ρ
/-- what a slot holds -/
def slot (ρ : Rho) (i : Nat) : Option Cel := match ρ[i]? with
  | some (some c) => some c
  | _ => none
theorem slot_some {ρ : Rho} {i : Nat} {c : Cel} (h : slot ρ i = some c) : ρ[i]? = some (some c) := by
  unfold slot at h
  split at h
  · rename_i c' e; cases h; exact e
  · cases h
/-- the content of a cell of the store -/
def cellOf (ρ : Rho) (s g : Nat) : Option D := match ρ.getLast? with
  | some (some ⟨.tuple [.int i, .list μ], .st⟩) => if i = (s : Int) then (μ[g]?).map cntD else none
  | _ => none
def getH (ρ : Rho) : Hd → Option D
  | .sh d => some d
  | .fr d => some d
  | .bw i => (slot ρ i).map (·.d)
  | .sp s g => cellOf ρ s g
def capH (ρ : Rho) : Hd → Option D
  | .sh d => some d
  | .fr d => some d
  | .bw i => match slot ρ i with
    | some ⟨d, .sh⟩ => some d
    | _ => none
  | .sp _ _ => none
def setl : Hd → Hd
  | .fr d => .sh d
  | h => h
/-- captured: a shared datum -/
def eCap (f : EF) : EF := fun ρ => bindE (f ρ) fun h ρ' => match capH ρ' h with
  | some d => .ok (.sh d) ρ'
  | none => .stuck
/-- looked at: what is new is shared -/
def eSet (f : EF) : EF := fun ρ => bindE (f ρ) fun h ρ' => .ok (setl h) ρ'
section
variable {C : Ct} {ρ ρ' ρ1 : Rho} {σ : St} {B B' H H' B1 H1 : Hp} {Q : VK} {t ta tb : TE} {f fa fb : EF} {N N' : Addr → Prop} {v : V}
theorem HdOk.mono {K : KW} (k : ∀ a, N a → N' a) : ∀ {h : Hd}, HdOk K N ρ σ B H v h → HdOk K N' ρ σ B H v h
  | .sh _, q => q
  | .fr _, ⟨a, h1, h2, h3, h4, h5⟩ => ⟨a, h1, h2, h3, h4, k a h5⟩
  | .bw _, q => q
  | .sp _ _, q => q
/-- a step in the middle: what is good behind is good ahead -/
theorem GoodE.ext (e : Ext ρ σ B H ρ1 σ B1 H1) : ∀ {r : RE}, GoodE C ρ σ B H Q r → GoodE C ρ1 σ B1 H1 Q r
  | .stuck, h => h
  | .ok _ _, h => fun v B' H' s x y => h v B' H' s (e.trans x) (y.mono fun _ z => e.back z)
  | .exc _ _, h => fun c d B' H' s x => h c d B' H' s (e.trans x)
theorem GoodE.imp {Q' : VK} (k : ∀ v H, Q v H → Q' v H) : ∀ {r : RE}, GoodE C ρ σ B H Q r → GoodE C ρ σ B H Q' r
  | .stuck, h => h
  | .ok _ _, h => fun v B' H' s x y => k _ _ (h v B' H' s x y)
  | .exc _ _, h => h
/-- THE RULE: an expression, then what follows -/
theorem LkE.bind (l : LkE C t f) (S : Sim C.K ρ σ B H) {k : Hd → Rho → RE} {Q' : VK} (g : GoodE C ρ σ B H Q (bindE (f ρ) k))
    (h : ∀ hd ρ1 v B1 H1, Sim C.K ρ1 σ B1 H1 → Ext ρ σ B H ρ1 σ B1 H1 → HdOk C.K (New ρ σ H) ρ1 σ B1 H1 v hd → GoodE C ρ σ B H Q (k hd ρ1) → Q' v H1) : t σ H Q' := by
  refine l ρ σ B H Q' S ?_
  cases e : f ρ with
  | stuck => rw [e] at g; exact g
  | ok hd ρ1 =>
    rw [e] at g
    exact fun v B1 H1 s x y => h hd ρ1 v B1 H1 s x y g
  | exc x ρ1 =>
    rw [e] at g
    exact g
/-- a new datum that nobody holds is shared from here on -/
theorem Sim.cap (S : Sim C.K ρ1 σ B1 H1) (x : Ext ρ σ B H ρ1 σ B1 H1) {d : D} (h : HdOk C.K (New ρ σ H) ρ1 σ B1 H1 v (.fr d)) : ∃ B2, Sim C.K ρ1 σ B2 H1 ∧ Ext ρ σ B H ρ1 σ B2 H1 ∧ Rp C.K B2 v d := by
  obtain ⟨a, rfl, hb, ho, hn, hN⟩ := h
  obtain ⟨o, e⟩ := ho.some
  have sB : Same B1 (upd B1 a o) := fun b u e => by rw [upd_ne (ne_of_none e hb)]; exact e
  have nm := Ow.nm (by rw [← e]; exact ho)
  refine ⟨upd B1 a o, S.share hb e hn nm, ⟨x.bb.trans sB, fun b u e => ?_, x.kp, x.sub, x.io, x.oi, x.tx.upd nm⟩, ?_⟩
  · by_cases hb : b = a
    · subst hb; exact .inr hN
    · rw [upd_ne hb] at e; exact x.nw b u e
  · rw [e] at ho
    have ho := ho.mono sB
    cases d with
    | list ds =>
      obtain ⟨vs, e1, e2⟩ := ho
      cases e1
      exact .lst (.inl (.inl upd_same)) e2
    | dict ps =>
      obtain ⟨ep, b, xs, e1, e2⟩ := ho
      cases e1
      exact .dct upd_same e2
    | _ => exact ho.elim
theorem LkE.cap (l : LkE C t f) : LkE C t (eCap f) := fun ρ σ B H Q S g => by
  refine l.bind S g fun hd ρ1 v B1 H1 S1 x y g => ?_
  cases hd with
  | sh d => exact g v B1 H1 S1 x y
  | fr d =>
    obtain ⟨B2, S2, x2, r⟩ := S1.cap x y
    exact g v B2 H1 S2 x2 r
  | bw i =>
    unfold capH at g
    dsimp only at g
    split at g
    · rename_i d e
      split at e
      · rename_i d' e'
        cases e
        have e' := slot_some e'
        obtain ⟨v', q1, q2⟩ := S1.sl i _ e' (by simp)
        have y' : σ[i]? = some (some v) := y
        rw [y'] at q1
        cases q1
        rcases q2 with ⟨_, q2⟩ | ⟨q, _⟩
        · exact g v B1 H1 S1 x q2
        · exact absurd rfl q
      · cases e
    · exact g.elim
  | sp _ _ => exact g.elim
theorem LkE.set (l : LkE C t f) : LkE C t (eSet f) := fun ρ σ B H Q S g => by
  refine l.bind S g fun hd ρ1 v B1 H1 S1 x y g => ?_
  cases hd with
  | sh d => exact g v B1 H1 S1 x y
  | fr d =>
    obtain ⟨B2, S2, x2, r⟩ := S1.cap x y
    exact g v B2 H1 S2 x2 r
  | bw i => exact g v B1 H1 S1 x y
  | sp _ _ => exact g v B1 H1 S1 x y
theorem SE.cap {X : Cx} {e : Expr} (h : SE X C e t f) : SE X C e t (eCap f) := ⟨h.pe, h.lk.cap⟩
theorem SE.set {X : Cx} {e : Expr} (h : SE X C e t f) : SE X C e t (eSet f) := ⟨h.pe, h.lk.set⟩
def Tp (K : KW) (B H : Hp) (v : V) : D → Prop
  | .list ds => ∃ a vs, v = .ref a ∧ SqL K H a vs ∧ RpL K B vs ds
  | .dict ps => (∃ a ep b xs, v = .ref a ∧ H a = some (dX K.w a ep xs) ∧ RpX K B b xs ps) ∨ (xnB ps = true ∧ Rp K B v (.dict ps))
  | d => Rp K B v d
theorem Tp.of {K : KW} (s : SameT B H) : ∀ {d : D}, Rp K B v d → Tp K B H v d
  | .list _, .lst h t => ⟨_, _, rfl, same_lT s h, t⟩
  | .dict _, .dct h t => .inl ⟨_, _, _, _, rfl, s.at h (fun _ _ z => by unfold dX at z; cases z), t⟩
  | .dict _, .exn h q x t => .inr ⟨rfl, .exn h q x t⟩
  | .dict _, .ptr p h => .inr ⟨rfl, .ptr p h⟩
  | .none, h => h
  | .bool _, h => h
  | .int _, h => h
  | .str _, h => h
  | .tuple _, h => h
/-- data without dicts, as the heap has them -/
theorem Tp.dpT {K : KW} (s : SameT B H) : ∀ {d : D}, Tp K B H v d → plain d = true → Dp K H v d
  | .list ds, ⟨_, _, e, h, t⟩, q => by subst e; exact .lst h (t.dpT s ds (by unfold plain at q; exact q))
  | .dict _, _, q => by unfold plain at q; cases q
  | .none, h, q => Rp.dpT s _ h q
  | .bool _, h, q => Rp.dpT s _ h q
  | .int _, h, q => Rp.dpT s _ h q
  | .str _, h, q => Rp.dpT s _ h q
  | .tuple _, h, q => Rp.dpT s _ h q
theorem Sim.one {K : KW} (S : Sim K ρ σ B H) {i j : Nat} {d e : D} (h1 : ρ[i]? = some (some (Cel.mk d .st))) (h2 : ρ[j]? = some (some (Cel.mk e .st))) : i = j ∧ d = e := by
  have e1 := (S.st.at' i d h1).1
  have e2 := (S.st.at' j e h2).1
  have ij : i = j := e1.trans e2.symm
  subst ij
  rw [h1] at h2
  cases h2
  exact ⟨rfl, rfl⟩
theorem Sim.last {K : KW} (S : Sim K ρ σ B H) {i : Nat} {d : D} (h : ρ[i]? = some (some (Cel.mk d .st))) : ρ.length = i + 1 := by
  have hi := (List.getElem?_eq_some_iff.mp h).1
  have e1 := (S.st.at' i d h).1
  apply Classical.byContradiction
  intro n
  obtain ⟨d', q⟩ := S.len.ex (i + 1) (by omega) (by omega)
  have := (S.st.at' _ _ q).1
  omega
theorem cell_some {s g : Nat} {c : D} (h : cellOf ρ s g = some c) : ∃ (i : Nat) (μ : List D) (x : D), ρ[i]? = some (some (Cel.mk (stD s μ) .st)) ∧ μ[g]? = some x ∧ c = cntD x := by
  unfold cellOf at h
  split at h
  · rename_i i μ e
    split at h
    · rename_i hi
      subst hi
      obtain ⟨x, e1, e2⟩ := Option.map_eq_some_iff.mp h
      rw [List.getLast?_eq_getElem?] at e
      exact ⟨_, μ, x, e, e1, e2.symm⟩
    · cases h
  · cases h
theorem stD_inj {s s' : Nat} {μ μ' : List D} (h : stD s μ = stD s' μ') : s = s' ∧ μ = μ' := by
  injection h with h
  injection h with ha h
  injection ha with ha
  injection h with h _
  injection h with h
  exact ⟨by omega, h⟩
/-- the store's cells -/
theorem Sim.store {K : KW} (S : Sim K ρ σ B H) {i s : Nat} {μ : List D} (h : ρ[i]? = some (some (Cel.mk (stD s μ) .st))) : StAt K s μ B H := by
  obtain ⟨_, s', μ', ed, SA⟩ := S.st.at' i _ h
  obtain ⟨rfl, rfl⟩ := stD_inj ed
  exact SA
/-- a cell of the store that is looked at -/
theorem Sim.cell {K : KW} (S : Sim K ρ σ B H) {N : Addr → Prop} {s g : Nat} {c : D} (y : HdOk K N ρ σ B H v (.sp s g)) (h : cellOf ρ s g = some c) : ∃ (a : Addr) (i : Nat) (μ : List D) (x : D), v = .ref a ∧ ρ[i]? = some (some (Cel.mk (stD s μ) .st)) ∧ B a = some (.met s g) ∧ μ[g]? = some x ∧ c = cntD x ∧ Ow K B a (H a) c := by
  obtain ⟨a, rfl, tk⟩ := y
  obtain ⟨i, μ, x, e1, e2, rfl⟩ := cell_some h
  obtain ⟨c, r1, r2⟩ := (S.store e1).has a g tk
  rw [e2] at r1
  cases r1
  exact ⟨a, i, μ, x, rfl, e1, tk, e2, rfl, r2⟩
theorem Sim.tp (S : Sim C.K ρ σ B H) {h : Hd} {d : D} (y : HdOk C.K N ρ σ B H v h) (g : getH ρ h = some d) : Tp C.K B H v d := by
  have own : ∀ (a : Addr) (d : D), Ow C.K B a (H a) d → Tp C.K B H (.ref a) d := fun a d ho => by
    cases d with
    | list ds =>
      obtain ⟨vs, e1, e2⟩ := ho
      exact ⟨a, vs, rfl, .inl (.inl e1), e2⟩
    | dict ds =>
      obtain ⟨ep, b, xs, e1, e2⟩ := ho
      exact .inl ⟨a, ep, b, xs, rfl, e1, e2⟩
    | _ => exact ho.elim
  cases h with
  | sh e =>
    cases g
    exact Tp.of S.bh y
  | fr e =>
    cases g
    obtain ⟨a, rfl, hb, ho, _⟩ := y
    exact own a d ho
  | bw i =>
    replace g : (slot ρ i).map (·.d) = some d := g
    cases e : slot ρ i with
    | none => rw [e] at g; cases g
    | some c =>
      rw [e] at g
      cases g
      have y' : σ[i]? = some (some v) := y
      obtain ⟨v', q1, q2⟩ := S.sl i c (slot_some e) (S.nst (slot_some e) y')
      rw [y'] at q1
      cases q1
      rcases q2 with ⟨_, q2⟩ | ⟨_, a, rfl, hb, ho⟩
      · exact Tp.of S.bh q2
      · exact own a _ ho
  | sp s i =>
    obtain ⟨a, _, _, _, rfl, _, _, _, _, ho⟩ := S.cell y g
    exact own a d ho
/-- a looked-at operand stays good -/
theorem HdOk.ext (x : Ext ρ σ B H ρ1 σ B1 H1) {h : Hd} (y : HdOk C.K N ρ σ B H v (setl h)) : HdOk C.K N' ρ1 σ B1 H1 v (setl h) := by
  cases h with
  | sh d => exact Rp.mono x.bb y
  | fr d => exact Rp.mono x.bb y
  | bw i => exact y
  | sp s g =>
    obtain ⟨a, rfl, tk⟩ := y
    exact ⟨a, rfl, x.bb _ _ tk⟩
def OpL (K : KW) (r : R2) (o : D → D → Option Hd) : Prop := ∀ ρ σ B H x y dx dy h Q, Sim K ρ σ B H → Tp K B H x dx → Tp K B H y dy → o dx dy = some h →
  (∀ v B' H', Sim K ρ σ B' H' → Ext ρ σ B H ρ σ B' H' → HdOk K (New ρ σ H) ρ σ B' H' v h → Q v H') → r x y H Q
def eBin (o : D → D → Option Hd) (fa fb : EF) : EF := fun ρ => bindE (eSet fa ρ) fun ha ρ1 => bindE (eSet fb ρ1) fun hb ρ2 => match getH ρ2 ha, getH ρ2 hb with
  | some da, some db => match o da db with
    | some h => .ok h ρ2
    | none => .stuck
  | _, _ => .stuck
theorem LkE.setBind (l : LkE C t f) (S : Sim C.K ρ σ B H) {k : Hd → Rho → RE} {Q' : VK} (g : GoodE C ρ σ B H Q (bindE (eSet f ρ) k))
    (h : ∀ hd ρ1 v B1 H1, Sim C.K ρ1 σ B1 H1 → Ext ρ σ B H ρ1 σ B1 H1 → HdOk C.K (New ρ σ H) ρ1 σ B1 H1 v (setl hd) → GoodE C ρ1 σ B1 H1 Q (k (setl hd) ρ1) → Q' v H1) : t σ H Q' := by
  refine l.set ρ σ B H Q' S ?_
  unfold eSet at g ⊢
  cases e : f ρ with
  | stuck => rw [e] at g; exact g
  | ok hd ρ1 =>
    rw [e] at g
    exact fun v B1 H1 s x y => h hd ρ1 v B1 H1 s x y (GoodE.ext x g)
  | exc x ρ1 =>
    rw [e] at g
    exact g
theorem lk_op {r : R2} {o : D → D → Option Hd} (hr : OpL C.K r o) (la : LkE C ta fa) (lb : LkE C tb fb) : LkE C (tOp r ta tb) (eBin o fa fb) := fun ρ σ B H Q S g => by
  refine la.setBind S g fun ha ρ1 x B1 H1 S1 e1 y1 g1 => ?_
  refine lb.setBind S1 g1 fun hb ρ2 y B2 H2 S2 e2 y2 g2 => ?_
  split at g2
  · rename_i da db ea eb
    split at g2
    · rename_i h eh
      exact hr ρ2 σ B2 H2 x y da db h Q S2 (S2.tp (N := fun _ => True) (HdOk.ext e2 y1) ea) (S2.tp y2 eb) eh g2
    · exact g2.elim
  · exact g2.elim
theorem se_bin {X : Cx} {r : R2} {o : D → D → Option Hd} {op : Operator} {a b : Expr} {pos : Pos} (hr : OpL C.K r o) (ho : OpR X (binaryOp op) r) (la : SE X C a ta fa) (lb : SE X C b tb fb) : SE X C (.BinOp a op b pos) (tOp r ta tb) (eBin o fa fb) :=
  ⟨pe_op ho la.pe lb.pe, lk_op hr la.lk lb.lk⟩
/-- two ways of one operator -/
def orO (o o' : D → D → Option Hd) : D → D → Option Hd := fun x y => match o x y with
  | some h => some h
  | none => o' x y
theorem OpL.or {K : KW} {r r' : R2} {o o' : D → D → Option Hd} (a : OpL K r o) (b : OpL K r' o') : OpL K (fun x y H Q => r x y H Q ∨ r' x y H Q) (orO o o') := fun ρ σ B H x y dx dy h Q S tx ty e k => by
  unfold orO at e
  cases q : o dx dy with
  | some h' =>
    rw [q] at e
    cases e
    exact .inl (a ρ σ B H x y dx dy _ Q S tx ty q k)
  | none =>
    rw [q] at e
    exact .inr (b ρ σ B H x y dx dy _ Q S tx ty e k)
end
end GS
namespace GS
open PySem L2 PySem.Calls
section
variable {K : KW} {ρ : Rho} {σ : St} {B H : Hp} {v x y : V} {Q : VK}
theorem Tp.int {i : Int} (h : Tp K B H v (.int i)) : v = .int i := by cases h; rfl
theorem Tp.str {i : Str} (h : Tp K B H v (.str i)) : v = .str i := by cases h; rfl
theorem Tp.bl {i : Bool} (h : Tp K B H v (.bool i)) : v = .bl i := by cases h; rfl
theorem Tp.non (h : Tp K B H v .none) : v = .non := by cases h; rfl
theorem Rp.tupE {ds : List D} (h : Rp K B v (.tuple ds)) : ∃ a vs, v = .ref a ∧ SqT K B a vs ∧ RpL K B vs ds := by
  cases h with
  | tup h t => exact ⟨_, _, rfl, h.sq, t⟩
theorem Rp.tupX {ds : List D} (h : Rp K B v (.tuple ds)) : ∃ a vs, v = .ref a ∧ XT B a vs ∧ RpL K B vs ds := by
  cases h with
  | tup h t => exact ⟨_, _, rfl, h, t⟩
theorem Rp.lstE {ds : List D} (h : Rp K B v (.list ds)) : ∃ a vs, v = .ref a ∧ SqL K B a vs ∧ RpL K B vs ds := by
  cases h with
  | lst h t => exact ⟨_, _, rfl, h, t⟩
theorem Tp.tup {ds : List D} (h : Tp K B H v (.tuple ds)) : ∃ a vs, v = .ref a ∧ SqT K B a vs ∧ RpL K B vs ds := Rp.tupE h
theorem Tp.tupX {ds : List D} (h : Tp K B H v (.tuple ds)) : ∃ a vs, v = .ref a ∧ XT B a vs ∧ RpL K B vs ds := Rp.tupX h
/-- the state as it is, a shared value -/
theorem now (S : Sim K ρ σ B H) {d : D} (h : Rp K B v d) (k : ∀ v B' H', Sim K ρ σ B' H' → Ext ρ σ B H ρ σ B' H' → HdOk K (New ρ σ H) ρ σ B' H' v (.sh d) → Q v H') : Q v H := k v B H S Ext.refl h
/-- a new tuple, shared -/
theorem newT (S : Sim K ρ σ B H) {vs : List V} {ds : List D} (h : RpL K B vs ds) (k : ∀ v B' H', Sim K ρ σ B' H' → Ext ρ σ B H ρ σ B' H' → HdOk K (New ρ σ H) ρ σ B' H' v (.sh (.tuple ds)) → Q v H') :
    ∀ p o, H p = none → o.dict = none → Q (.ref p) (upd H p (.frz o (.tup vs))) := fun p o hp ho => by
  obtain ⟨S', x⟩ := S.newB hp (.frz o (.tup vs))
  exact k _ _ _ S' x (.tup (XT.new ho) (h.mono x.bb))
/-- a new list that nobody holds -/
theorem newL (S : Sim K ρ σ B H) {vs : List V} {ds : List D} (h : RpL K B vs ds) (k : ∀ v B' H', Sim K ρ σ B' H' → Ext ρ σ B H ρ σ B' H' → HdOk K (New ρ σ H) ρ σ B' H' v (.fr (.list ds)) → Q v H') :
    ∀ p, H p = none → Q (.ref p) (upd H p (.lst vs)) := fun p hp => by
  obtain ⟨S', x⟩ := S.newH hp (.lst vs)
  obtain ⟨b, n⟩ := S.free hp
  exact k _ _ _ S' x ⟨p, rfl, b, ⟨vs, upd_same, h⟩, n, .inl hp⟩
end
section
variable {X : Cx}
def rCatL (K : PySem.W.Frag) : R2 := fun x y H Q => ∃ l b xs zs, x = .ref l ∧ y = .ref b ∧ SqL K H l xs ∧ SqL K H b zs ∧ xs.length + zs.length ≤ sizeLine ∧ ∀ p, H p = none → Q (.ref p) (upd H p (.lst (xs ++ zs)))
theorem op_catL : OpR X (binaryOp .Add) (rCatL X.K) := by
  intro pins s σ H x y v u Q I rx ry h
  obtain ⟨l, b, xs, zs, rfl, rfl, hH, hB, hz, q⟩ := h
  cases rx
  cases ry
  obtain ⟨its, r, p1, _⟩ := I.list hH
  obtain ⟨its2, r2, p2, _⟩ := I.list hB
  have l1 := r.length
  have l2 := r2.length
  obtain ⟨⟨cls, dd, data, sl⟩, ho, hc, n, hd⟩ := p1.isList
  obtain ⟨⟨cls2, dd2, data2, sl2⟩, ho2, hc2, n2, hd2⟩ := p2.isList
  simp only at hc hd hc2 hd2
  subst hc hd hc2 hd2
  refine concat_meets ⟨_, ho, rfl⟩ ⟨_, ho2, rfl⟩ noFill_list_add seq_list_add PySem.F.slot_list_add PySem.F.entry_list_add (PySem.F.args_list_add_2 _ _) (PyProof.Rows.list_addW l b its.toArray its2.toArray n n2 dd dd2 sl sl2 (by simp; omega)) ⟨ho, ho2, ?_⟩
  have e : its.toArray ++ its2.toArray = (its ++ its2).toArray := by simp
  rw [e]
  exact ⟨.ref _, _, I.lnew (t' := s.toks) (r.append r2) (by rw [List.length_append]; omega), rfl, q _ I.fresh⟩
end
theorem if_some {c : Prop} [Decidable c] {α : Type} {a h : α} (e : (if c then some a else none) = some h) : c ∧ a = h := by
  split at e
  · cases e; exact ⟨by assumption, rfl⟩
  · cases e
/-- + -/
def addD : D → D → Option Hd
  | .int i, .int j => some (.sh (.int (i + j)))
  | .str i, .str j => if i.length + j.length ≤ sizeLine then some (.sh (.str (i ++ j))) else none
  | .tuple xs, .tuple ys => if xs.length + ys.length ≤ sizeLine then some (.sh (.tuple (xs ++ ys))) else none
  | .list xs, .list ys => if xs.length + ys.length ≤ sizeLine then some (.fr (.list (xs ++ ys))) else none
  | _, _ => none
def rAddA (K : PySem.W.Frag) : R2 := fun x y H Q => (rI0 fun i j => .int (i + j)) x y H Q ∨ ((∃ i j, x = .str i ∧ y = .str j ∧ i.length + j.length ≤ sizeLine ∧ Q (.str (i ++ j)) H) ∨ (rCatX K x y H Q ∨ rCatL K x y H Q))
theorem op_addA {X : Cx} : OpR X (binaryOp .Add) (rAddA X.K) := OpR.or op_add (OpR.or op_add_str (OpR.or op_catX op_catL))
theorem ol_add {K : KW} : OpL K (rAddA K) addD := fun ρ σ B H x y dx dy h Q S tx ty e k => by
  cases dx <;> cases dy <;> first | (cases (show none = some h from e); done) | skip
  · cases e
    rw [tx.int, ty.int]
    exact .inl ⟨_, _, rfl, rfl, now S (.int _) k⟩
  · obtain ⟨c, rfl⟩ := if_some e
    rw [tx.str, ty.str]
    exact .inr (.inl ⟨_, _, rfl, rfl, c, now S (.str _) k⟩)
  · obtain ⟨c, rfl⟩ := if_some e
    obtain ⟨a, vs, rfl, ha, ra⟩ := tx
    obtain ⟨b, ws, rfl, hb, rb⟩ := ty
    exact .inr (.inr (.inr ⟨a, b, vs, ws, rfl, rfl, ha, hb, by rw [ra.length, rb.length]; exact c, newL S (ra.append rb) k⟩))
  · obtain ⟨c, rfl⟩ := if_some e
    obtain ⟨a, vs, rfl, ha, ra⟩ := tx.tupX
    obtain ⟨b, ws, rfl, hb, rb⟩ := ty.tupX
    have l1 := ra.length
    have l2 := rb.length
    refine .inr (.inr (.inl ⟨a, b, vs, ws, rfl, rfl, (same_xT S.bh ha).sq, (same_xT S.bh hb).sq, by omega, fun e => ?_, fun _ e => ?_, fun _ _ => newT S (ra.append rb) k⟩))
    · subst e
      cases ra
      exact now S (.tup hb rb) k
    · subst e
      cases rb
      rw [List.append_nil] at k
      exact now S (.tup ha ra) k
/-- int operators -/
def intD (c : Int → Int → Bool) (f : Int → Int → D) : D → D → Option Hd
  | .int i, .int j => if c i j then some (.sh (f i j)) else none
  | _, _ => none
theorem ol_int {K : KW} {c : Int → Int → Bool} {P : Int → Int → Prop} {f : Int → Int → D} {g : Int → Int → V} (hc : ∀ i j, c i j = true → P i j) (hg : ∀ B i j, Rp K B (g i j) (f i j)) : OpL K (rI P g) (intD c f) := fun ρ σ B H x y dx dy h Q S tx ty e k => by
  cases dx <;> cases dy <;> first | (cases (show none = some h from e); done) | skip
  obtain ⟨c, rfl⟩ := if_some e
  rw [tx.int, ty.int]
  exact ⟨_, _, rfl, rfl, hc _ _ c, now S (hg B _ _) k⟩
theorem ol_int0 {K : KW} {f : Int → Int → D} {g : Int → Int → V} (hg : ∀ B i j, Rp K B (g i j) (f i j)) : OpL K (rI0 g) (intD (fun _ _ => true) f) := fun ρ σ B H x y dx dy h Q S tx ty e k => by
  cases dx <;> cases dy <;> first | (cases (show none = some h from e); done) | skip
  cases e
  rw [tx.int, ty.int]
  exact ⟨_, _, rfl, rfl, now S (hg B _ _) k⟩
def subD : D → D → Option Hd := intD (fun _ _ => true) fun i j => .int (i - j)
theorem e64 : (2 : Int) ^ 64 = 18446744073709551616 := by decide +kernel
def cMul (i j : Int) : Bool := Nat.ble i.natAbs 18446744073709551615 || Nat.ble j.natAbs 18446744073709551615
def mulD : D → D → Option Hd := intD cMul fun i j => .int (i * j)
def divD : D → D → Option Hd := intD (fun _ j => decide (0 < j) && Nat.ble j.natAbs 1073741823) fun i j => .int (i / j)
def modD : D → D → Option Hd := intD (fun _ j => decide (0 < j)) fun i j => .int (i % j)
theorem ol_sub {K : KW} : OpL K (rI0 fun i j => .int (i - j)) subD := ol_int0 fun _ _ _ => .int _
theorem ol_mul {K : KW} : OpL K (rI CMul fun i j => .int (i * j)) mulD := ol_int (fun i j h => by
  unfold CMul
  rw [e64]
  unfold cMul at h
  rw [Bool.or_eq_true] at h
  rcases h with h | h
  · have := Nat.le_of_ble_eq_true h; exact .inl ⟨by omega, by omega⟩
  · have := Nat.le_of_ble_eq_true h; exact .inr ⟨by omega, by omega⟩) fun _ _ _ => .int _
theorem ol_div {K : KW} : OpL K (rI CDiv fun i j => .int (i / j)) divD := ol_int (fun i j h => by
  simp only [Bool.and_eq_true, decide_eq_true_eq] at h
  have := Nat.le_of_ble_eq_true h.2
  exact ⟨h.1, by omega⟩) fun _ _ _ => .int _
theorem ol_mod {K : KW} : OpL K (rI (fun _ j => 0 < j) fun i j => .int (i % j)) modD := ol_int (fun i j h => by simpa using h) fun _ _ _ => .int _
def intsT : List D → Option (List Int)
  | [] => some []
  | .int i :: r => (intsT r).map fun l => i :: l
  | _ => none
/-- < of ints, and of tuples of ints -/
def ltI (f : Int → Int → Bool) : D → D → Option Hd
  | .int i, .int j => some (.sh (.bool (f i j)))
  | .tuple xs, .tuple ys => if f 0 1 && !f 0 0 then (intsT xs).bind fun a => (intsT ys).map fun b => .sh (.bool (HT.lexLt a b)) else none
  | _, _ => none
theorem intsT_ok {K : KW} {B : Hp} : ∀ {vs : List V} {ds : List D} {ns : List Int}, RpL K B vs ds → intsT ds = some ns → vs = ns.map V.int
  | _, [], _, .nil, e => by cases e; rfl
  | _, d :: ds, ns, .cons h t, e => by
    match d, h, e with
    | .int i, h, e =>
      obtain ⟨l, e1, rfl⟩ := Option.map_eq_some_iff.mp (show (intsT ds).map (fun l => i :: l) = some ns from e)
      cases h
      rw [intsT_ok t e1, List.map_cons]
theorem ol_cmp {K : KW} {f : Int → Int → Bool} (hf : (f 0 1 && !f 0 0) = false := by rfl) : OpL K (rI0 fun i j => .bl (f i j)) (ltI f) := fun ρ σ B H x y dx dy h Q S tx ty e k => by
  cases dx <;> cases dy <;> first | (cases (show none = some h from e); done) | skip
  · cases e
    rw [tx.int, ty.int]
    exact ⟨_, _, rfl, rfl, now S (.bl _) k⟩
  · rename_i xs ys
    have e : (if f 0 1 && !f 0 0 then (intsT xs).bind fun a => (intsT ys).map fun b => Hd.sh (.bool (HT.lexLt a b)) else none) = some h := e
    rw [hf] at e
    cases e
def rLtA (K : PySem.W.Frag) : R2 := fun x y H Q => (rI0 fun i j => .bl (decide (i < j))) x y H Q ∨ rLtT K x y H Q
theorem op_ltA {X : Cx} (hu : X.A.units + 65 < cLine) : OpR X (compareOp .Lt) (rLtA X.K) := OpR.or op_lt (op_ltT (by omega))
theorem ol_ltA {K : KW} : OpL K (rLtA K) (ltI fun i j => decide (i < j)) := fun ρ σ B H x y dx dy h Q S tx ty e k => by
  cases dx <;> cases dy <;> first | (cases (show none = some h from e); done) | skip
  · cases e
    rw [tx.int, ty.int]
    exact .inl ⟨_, _, rfl, rfl, now S (.bl _) k⟩
  · rename_i xs ys
    have e : ((intsT xs).bind fun a => (intsT ys).map fun b => Hd.sh (.bool (HT.lexLt a b))) = some h := e
    obtain ⟨as, e1, e2⟩ := Option.bind_eq_some_iff.mp e
    obtain ⟨bs, e3, rfl⟩ := Option.map_eq_some_iff.mp e2
    obtain ⟨a, vs, rfl, ha, ra⟩ := tx.tup
    obtain ⟨b, ws, rfl, hb, rb⟩ := ty.tup
    have ea := intsT_ok ra e1
    have eb := intsT_ok rb e3
    subst ea eb
    exact .inr ⟨a, b, as, bs, rfl, rfl, same_tT S.bh ha, same_tT S.bh hb, now S (.bl _) k⟩
/-- == of data without dicts, at most 64 deep -/
def okEq (d : D) : Bool := plain d && SeqAt.shaped d
/-- is None, is True -/
def isD (neg : Bool) : D → D → Option Hd
  | .none, .none => some (.sh (.bool (!neg)))
  | .bool a, .bool b => some (.sh (.bool (neg ^^ decide (a = b))))
  | _, .none => some (.sh (.bool neg))
  | _, _ => none
def rIsA : R2 := fun x y H Q => (y = .non ∧ Q (.bl (decide (x = .non))) H) ∨ (∃ a b, x = .bl a ∧ y = .bl b ∧ Q (.bl (decide (a = b))) H)
def rNotA : R2 := fun x y H Q => (y = .non ∧ Q (.bl (!decide (x = .non))) H) ∨ (∃ a b, x = .bl a ∧ y = .bl b ∧ Q (.bl (!decide (a = b))) H)
theorem op_isA {X : Cx} : OpR X (compareOp .Is) rIsA := OpR.or op_isN op_isBl
theorem op_notA {X : Cx} : OpR X (compareOp .IsNot) rNotA := OpR.or op_notN op_notBl
theorem Tp.ne_non {K : KW} {B H : Hp} {v : V} {d : D} (h : Tp K B H v d) (hd : d ≠ .none) : v ≠ .non := by
  intro e
  subst e
  cases d with
  | none => exact hd rfl
  | bool _ => cases h
  | int _ => cases h
  | str _ => cases h
  | list _ => obtain ⟨_, _, e, _⟩ := h; cases e
  | tuple _ => cases h
  | dict _ =>
    rcases h with ⟨_, _, _, _, e, _⟩ | ⟨_, h⟩
    · cases e
    · cases h
theorem ol_is {K : KW} : OpL K rIsA (isD false) := fun ρ σ B H x y dx dy h Q S tx ty e k => by
  cases dy with
  | none =>
    rw [ty.non]
    refine .inl ⟨rfl, ?_⟩
    by_cases hn : dx = .none
    · subst hn
      cases e
      rw [tx.non]
      exact now S (.bl _) k
    · have q := tx.ne_non hn
      have e' : h = .sh (.bool false) := by cases dx <;> simp [isD] at e hn ⊢ <;> exact e.symm
      subst e'
      rw [decide_eq_false q]
      exact now S (.bl _) k
  | bool b =>
    cases dx with
    | bool a =>
      cases e
      rw [tx.bl, ty.bl]
      refine .inr ⟨a, b, rfl, rfl, ?_⟩
      have := now (v := .bl (false ^^ decide (a = b))) S (.bl _) k
      rwa [Bool.false_xor] at this
    | _ => simp [isD] at e
  | _ => cases dx <;> simp [isD] at e
theorem ol_not {K : KW} : OpL K rNotA (isD true) := fun ρ σ B H x y dx dy h Q S tx ty e k => by
  cases dy with
  | none =>
    rw [ty.non]
    refine .inl ⟨rfl, ?_⟩
    by_cases hn : dx = .none
    · subst hn
      cases e
      rw [tx.non]
      exact now S (.bl _) k
    · have q := tx.ne_non hn
      have e' : h = .sh (.bool true) := by cases dx <;> simp [isD] at e hn ⊢ <;> exact e.symm
      subst e'
      rw [decide_eq_false q]
      exact now S (.bl _) k
  | bool b =>
    cases dx with
    | bool a =>
      cases e
      rw [tx.bl, ty.bl]
      refine .inr ⟨a, b, rfl, rfl, ?_⟩
      have := now (v := .bl (true ^^ decide (a = b))) S (.bl _) k
      rwa [Bool.true_xor] at this
    | _ => simp [isD] at e
  | _ => cases dx <;> simp [isD] at e
def flatD : D → Bool
  | .none => true
  | .bool _ => true
  | .int _ => true
  | .str _ => true
  | _ => false
def inD (neg : Bool) : D → D → Option Hd
  | .str x, .str z => match x.cps.toList with
    | [c] => some (.sh (.bool (neg ^^ decide (c ∈ z.cps.toList))))
    | _ => none
  | d, .tuple ds => if flatD d && ds.all flatD then some (.sh (.bool (neg ^^ ds.any fun z => PyData.eqv z d))) else none
  | d, .list ds => if okEq d && okEq (.list ds) then some (.sh (.bool (neg ^^ ds.any fun z => PyData.eqv z d))) else none
  | _, _ => none
end GS
namespace GS
open PySem L2
def rInA (K : PySem.W.Frag) : R2 := fun x y H Q => (∃ (c : Nat) (z : Str), x = .str ⟨#[c]⟩ ∧ y = .str z ∧ Q (.bl (decide (c ∈ z.cps.toList))) H) ∨ (rIn K false x y H Q ∨ rInD K x y H Q)
def rNotInA (K : PySem.W.Frag) : R2 := fun x y H Q => (∃ (c : Nat) (z : Str), x = .str ⟨#[c]⟩ ∧ y = .str z ∧ Q (.bl (!decide (c ∈ z.cps.toList))) H) ∨ (rIn K true x y H Q ∨ rNotInD K x y H Q)
theorem op_inA {X : Cx} (hu : X.A.units + 65 < cLine) : OpR X (compareOp .In) (rInA X.K) := OpR.or op_in_sign (OpR.or op_in_seq (op_inD hu))
theorem op_notInA {X : Cx} (hu : X.A.units + 65 < cLine) : OpR X (compareOp .NotIn) (rNotInA X.K) := OpR.or op_notIn_sign (OpR.or op_notIn_seq (op_notInD hu))
section
variable {K : KW} {ρ : Rho} {σ : St} {B H : Hp} {v x y : V} {Q : VK}
theorem flat_of {d : D} (h : Rp K B v d) (f : flatD d = true) : flatV v = true := by
  cases h <;> first | rfl | cases f
theorem eqV_of {d e : D} (h : Rp K B x d) (g : Rp K B y e) (f : flatD d = true) (k : flatD e = true) : eqV x y = PyData.eqv d e := by
  cases h <;> first | (cases f; done) | (cases g <;> first | (cases k; done) | rfl | (simp [eqV, PyData.eqv]))
theorem any_of {e : D} (g : Rp K B y e) (k : flatD e = true) : ∀ {vs : List V} {ds : List D}, RpL K B vs ds → ds.all flatD = true → vs.all flatV = true ∧ inV y vs = ds.any fun z => PyData.eqv z e
  | _, _, .nil, _ => ⟨rfl, rfl⟩
  | _, _, .cons h t, a => by
    rw [List.all_cons, Bool.and_eq_true] at a
    obtain ⟨q1, q2⟩ := any_of g k t a.2
    refine ⟨by rw [List.all_cons, Bool.and_eq_true]; exact ⟨flat_of h a.1, q1⟩, ?_⟩
    show ((eqV _ y) || inV y _) = _
    rw [q2, eqV_of h g a.1 k, List.any_cons]
theorem str1 {x : Str} {c : Nat} (h : x.cps.toList = [c]) : x = ⟨#[c]⟩ := by
  obtain ⟨a⟩ := x
  congr
  exact Array.ext' (by simpa using h)
theorem ol_in : OpL K (rInA K) (inD false) := fun ρ σ B H x y dx dy h Q S tx ty e k => by
  cases dy with
  | str z =>
    cases dx with
    | str w =>
      replace e : (match w.cps.toList with | [c] => some (Hd.sh (.bool (false ^^ decide (c ∈ z.cps.toList)))) | _ => none) = some h := e
      split at e
      · rename_i c ec
        cases e
        rw [tx.str, ty.str, str1 ec]
        refine .inl ⟨c, z, rfl, rfl, ?_⟩
        have := now (v := .bl (false ^^ decide (c ∈ z.cps.toList))) S (.bl _) k
        rwa [Bool.false_xor] at this
      · cases e
    | _ => cases e
  | tuple ds =>
    have e' : (if flatD dx && ds.all flatD then some (.sh (.bool (false ^^ ds.any fun z => PyData.eqv z dx))) else none) = some h := by cases dx <;> exact e
    obtain ⟨c, rfl⟩ := if_some e'
    rw [Bool.and_eq_true] at c
    obtain ⟨a, vs, rfl, ha, ra⟩ := ty.tup
    have tx' : Rp K B x dx := by cases dx <;> first | exact tx | (cases c.1; done)
    obtain ⟨q1, q2⟩ := any_of tx' c.1 ra c.2
    refine .inr (.inl ⟨a, vs, rfl, .inr (same_tT S.bh ha), flat_of tx' c.1, q1, ?_⟩)
    rw [if_neg Bool.false_ne_true, q2]
    have := now (v := .bl (false ^^ ds.any fun z => PyData.eqv z dx)) S (.bl _) k
    rwa [Bool.false_xor] at this
  | list ds =>
    have e' : (if okEq dx && okEq (.list ds) then some (.sh (.bool (false ^^ ds.any fun z => PyData.eqv z dx))) else none) = some h := by cases dx <;> exact e
    obtain ⟨c, rfl⟩ := if_some e'
    unfold okEq at c
    simp only [Bool.and_eq_true] at c
    refine .inr (.inr ⟨dx, ds, tx.dpT S.bh c.1.1, ty.dpT S.bh c.2.1, c.1.2, c.2.2, ?_⟩)
    have := now (v := .bl (false ^^ ds.any fun z => PyData.eqv z dx)) S (.bl _) k
    rwa [Bool.false_xor] at this
  | _ => cases dx <;> cases (show none = some h from e)
theorem ol_notIn : OpL K (rNotInA K) (inD true) := fun ρ σ B H x y dx dy h Q S tx ty e k => by
  cases dy with
  | str z =>
    cases dx with
    | str w =>
      replace e : (match w.cps.toList with | [c] => some (Hd.sh (.bool (true ^^ decide (c ∈ z.cps.toList)))) | _ => none) = some h := e
      split at e
      · rename_i c ec
        cases e
        rw [tx.str, ty.str, str1 ec]
        refine .inl ⟨c, z, rfl, rfl, ?_⟩
        have := now (v := .bl (true ^^ decide (c ∈ z.cps.toList))) S (.bl _) k
        rwa [Bool.true_xor] at this
      · cases e
    | _ => cases e
  | tuple ds =>
    have e' : (if flatD dx && ds.all flatD then some (.sh (.bool (true ^^ ds.any fun z => PyData.eqv z dx))) else none) = some h := by cases dx <;> exact e
    obtain ⟨c, rfl⟩ := if_some e'
    rw [Bool.and_eq_true] at c
    obtain ⟨a, vs, rfl, ha, ra⟩ := ty.tup
    have tx' : Rp K B x dx := by cases dx <;> first | exact tx | (cases c.1; done)
    obtain ⟨q1, q2⟩ := any_of tx' c.1 ra c.2
    refine .inr (.inl ⟨a, vs, rfl, .inr (same_tT S.bh ha), flat_of tx' c.1, q1, ?_⟩)
    rw [if_pos rfl, q2]
    have := now (v := .bl (true ^^ ds.any fun z => PyData.eqv z dx)) S (.bl _) k
    rwa [Bool.true_xor] at this
  | list ds =>
    have e' : (if okEq dx && okEq (.list ds) then some (.sh (.bool (true ^^ ds.any fun z => PyData.eqv z dx))) else none) = some h := by cases dx <;> exact e
    obtain ⟨c, rfl⟩ := if_some e'
    unfold okEq at c
    simp only [Bool.and_eq_true] at c
    refine .inr (.inr ⟨dx, ds, tx.dpT S.bh c.1.1, ty.dpT S.bh c.2.1, c.1.2, c.2.2, ?_⟩)
    have := now (v := .bl (true ^^ ds.any fun z => PyData.eqv z dx)) S (.bl _) k
    rwa [Bool.true_xor] at this
  | _ => cases dx <;> cases (show none = some h from e)
def ixD : D → D → Option Hd
  | .list ds, .int i => (atI ds i).map Hd.sh
  | .tuple ds, .int i => (atI ds i).map Hd.sh
  | .str z, .int i => if z.length ≤ sizeLine then (atI z.cps.toList i).map fun c => Hd.sh (.str ⟨#[c]⟩) else none
  | _, _ => none
theorem RpL.atI {vs : List V} {ds : List D} (h : RpL K B vs ds) {i : Int} {d : D} (e : atI ds i = some d) : ∃ v, atI vs i = some v ∧ Rp K B v d := by
  unfold L2.atI at e ⊢
  rw [h.length]
  cases q : ixN ds.length i with
  | none => rw [q] at e; cases e
  | some j =>
    rw [q] at e
    exact h.get e
theorem ol_ix : OpL K (rIx K) ixD := fun ρ σ B H x y dx dy h Q S tx ty e k => by
  cases dy with
  | int i =>
    rw [ty.int]
    cases dx with
    | list ds =>
      obtain ⟨d, e1, rfl⟩ := Option.map_eq_some_iff.mp e
      obtain ⟨a, vs, rfl, ha, ra⟩ := tx
      obtain ⟨v, q1, q2⟩ := ra.atI e1
      exact .inl ⟨a, vs, i, v, rfl, rfl, ha, q1, now S q2 k⟩
    | tuple ds =>
      obtain ⟨d, e1, rfl⟩ := Option.map_eq_some_iff.mp e
      obtain ⟨a, vs, rfl, ha, ra⟩ := tx.tup
      obtain ⟨v, q1, q2⟩ := ra.atI e1
      exact .inr (.inl ⟨a, vs, i, v, rfl, rfl, same_tT S.bh ha, q1, now S q2 k⟩)
    | str z =>
      have e' : (if z.length ≤ sizeLine then (L2.atI z.cps.toList i).map fun c => Hd.sh (.str ⟨#[c]⟩) else none) = some h := e
      split at e'
      · obtain ⟨c, e1, rfl⟩ := Option.map_eq_some_iff.mp e'
        rw [tx.str]
        exact .inr (.inr ⟨z, i, c, rfl, rfl, by assumption, e1, now S (.str _) k⟩)
      · cases e'
    | _ => cases e
  | _ => cases dx <;> cases (show none = some h from e)
end
section
variable {X : Cx} {C : Ct} {a b c e : Expr} {ta tb tc te : TE} {fa fb fc fe : EF} {pos p2 : Pos}
def cutD (ds : List D) (lo hi : Option Int) : List D := (ds.drop (HT.sIx ds.length 0 lo)).take (HT.sIx ds.length ds.length hi - HT.sIx ds.length 0 lo)
def slD (lo hi : Option Int) : D → Option Hd
  | .list ds => some (.fr (.list (cutD ds lo hi)))
  | .tuple ds => some (.sh (.tuple (cutD ds lo hi)))
  | .str z => if z.length ≤ sizeLine then some (.sh (.str (cutS z lo hi))) else none
  | _ => none
def rSlAll (K : PySem.W.Frag) : V → Option Int → Option Int → Hp → VK → Prop := fun x lo hi H Q => rSlL K x lo hi H Q ∨ (rSlX K x lo hi H Q ∨ rSlS x lo hi H Q)
theorem sl_all : SlR X (rSlAll X.K) := SlR.or sl_list (SlR.or sl_tupX sl_str)
theorem RpL.cut {K : KW} {B : Hp} {vs : List V} {ds : List D} (h : RpL K B vs ds) (lo hi : Option Int) : RpL K B (cutV vs lo hi) (cutD ds lo hi) := by
  unfold cutV cutD
  rw [h.length]
  exact (h.drop _).take _
theorem ls_all {K : KW} {ρ : Rho} {σ : St} {B H : Hp} {x : V} {Q : VK} {d : D} {h : Hd} {lo hi : Option Int} (S : Sim K ρ σ B H) (tx : Tp K B H x d) (e : slD lo hi d = some h)
    (k : ∀ v B' H', Sim K ρ σ B' H' → Ext ρ σ B H ρ σ B' H' → HdOk K (New ρ σ H) ρ σ B' H' v h → Q v H') : rSlAll K x lo hi H Q := by
  cases d with
  | list ds =>
    cases e
    obtain ⟨a, vs, rfl, ha, ra⟩ := tx
    exact .inl ⟨a, vs, rfl, ha, newL S (ra.cut lo hi) k⟩
  | tuple ds =>
    cases e
    obtain ⟨a, vs, rfl, ha, ra⟩ := tx.tupX
    refine .inr (.inl ⟨a, vs, rfl, (same_xT S.bh ha).sq, fun w => ?_, fun _ => newT S (ra.cut lo hi) k⟩)
    have ec : cutD ds lo hi = ds := by
      unfold cutD
      rw [← ra.length, w.1, w.2, List.drop_zero, Nat.sub_zero, ra.length, List.take_length]
    rw [ec] at k
    exact now S (.tup ha ra) k
  | str z =>
    obtain ⟨c, rfl⟩ := if_some e
    rw [tx.str]
    exact .inr (.inr ⟨z, rfl, c, now S (.str _) k⟩)
  | _ => cases e
/-- a part of a slice: nothing, or an int -/
inductive PartOk (X : Cx) (C : Ct) : Option Expr → TO → Option EF → Prop
  | non : PartOk X C none tNoPart none
  | some {e : Expr} {t : TE} {f : EF} : SE X C e t f → PartOk X C (some e) (tPart t) (some f)
def ePart (f : Option EF) (ρ : Rho) (k : Option Int → Rho → RE) : RE := match f with
  | none => k none ρ
  | some g => bindE (eSet g ρ) fun h ρ1 => match getH ρ1 h with
    | some (.int i) => k (some i) ρ1
    | _ => .stuck
def eSl (fe : EF) (fl fh : Option EF) : EF := fun ρ => bindE (eSet fe ρ) fun h ρ1 => ePart fl ρ1 fun lo ρ2 => ePart fh ρ2 fun hi ρ3 => match (getH ρ3 h).bind (slD lo hi) with
  | some r => .ok r ρ3
  | none => .stuck
theorem PartOk.pe {o : Option Expr} {t : TO} {f : Option EF} (h : PartOk X C o t f) : PO X o t := by
  cases h with
  | non => exact po_none
  | some s => exact po_some s.pe
theorem PartOk.bind {o : Option Expr} {t : TO} {f : Option EF} (h : PartOk X C o t f) {ρ : Rho} {σ : St} {B H : Hp} {Q : VK} (S : Sim C.K ρ σ B H) {k : Option Int → Rho → RE} {Q' : Option Int → Hp → Prop} (g : GoodE C ρ σ B H Q (ePart f ρ k))
    (q : ∀ i ρ1 B1 H1, Sim C.K ρ1 σ B1 H1 → Ext ρ σ B H ρ1 σ B1 H1 → GoodE C ρ1 σ B1 H1 Q (k i ρ1) → Q' i H1) : t σ H Q' := by
  cases h with
  | non => exact q none ρ B H S Ext.refl g
  | some s =>
    refine s.lk.setBind S g fun hd ρ1 x B1 H1 S1 e1 y1 g1 => ?_
    split at g1
    · rename_i i ei
      exact ⟨i, (S1.tp y1 ei).int, q (Option.some i) ρ1 B1 H1 S1 e1 g1⟩
    · exact g1.elim
theorem se_slice {lo hi : Option Expr} {tl th : TO} {fl fh : Option EF} (le : SE X C e te fe) (hl : PartOk X C lo tl fl) (hh : PartOk X C hi th fh) (hk : X.K = C.K := by rfl) :
    SE X C (.Subscript e (.Slice lo hi none p2) pos) (tSl (rSlAll C.K) te tl th) (eSl fe fl fh) := by
  refine ⟨by rw [← hk]; exact pe_slice sl_all le.pe hl.pe hh.pe, fun ρ σ B H Q S g => ?_⟩
  refine le.lk.setBind S g fun hd ρ1 x B1 H1 S1 e1 y1 g1 => ?_
  refine hl.bind S1 g1 fun i ρ2 B2 H2 S2 e2 g2 => ?_
  refine hh.bind S2 g2 fun j ρ3 B3 H3 S3 e3 g3 => ?_
  split at g3
  · rename_i r er
    obtain ⟨d, ed, es⟩ := Option.bind_eq_some_iff.mp er
    exact ls_all S3 (S3.tp (N := fun _ => True) (HdOk.ext (e2.trans e3) y1) ed) es g3
  · exact g3.elim
def GoodT (C : Ct) (ρ : Rho) (σ : St) (B H : Hp) (Q : Bool → Hp → Prop) : RE → Prop
  | .ok (.sh (.bool b)) ρ' => ∀ B' H', Sim C.K ρ' σ B' H' → Ext ρ σ B H ρ' σ B' H' → Q b H'
  | .exc x ρ' => ∀ cls dct B' H', Sim C.K ρ' σ B' H' → Ext ρ σ B H ρ' σ B' H' → XcOk C B' x cls dct → C.W cls dct σ H'
  | _ => False
def LkT (C : Ct) (t : TT) (f : EF) : Prop := ∀ ρ σ B H Q, Sim C.K ρ σ B H → GoodT C ρ σ B H Q (f ρ) → t σ H Q
structure ST (X : Cx) (C : Ct) (e : Expr) (t : TT) (f : EF) : Prop where
  pt : PT X e t
  lk : LkT C t f
structure SW (X : Cx) (C : Ct) (e : Expr) (t : TT) (f : EF) : Prop where
  pw : PW X e t
  lk : LkT C t f
theorem SW.st {t : TT} {f : EF} (h : SW X C e t f) : ST X C e t f := ⟨h.pw.pt, h.lk⟩
theorem GoodT.ext {ρ ρ1 : Rho} {σ : St} {B H B1 H1 : Hp} {Q : Bool → Hp → Prop} (x : Ext ρ σ B H ρ1 σ B1 H1) : ∀ {r : RE}, GoodT C ρ σ B H Q r → GoodT C ρ1 σ B1 H1 Q r := fun {r} g => by
  cases r with
  | stuck => exact g
  | exc c ρ2 => exact fun cls dct B' H' s y => g cls dct B' H' s (x.trans y)
  | ok h ρ2 =>
    cases h with
    | sh d =>
      cases d with
      | bool b => exact fun B' H' s y => g B' H' s (x.trans y)
      | _ => exact g
    | _ => exact g
/-- a bool: looked at -/
def eB (f : EF) : EF := fun ρ => bindE (eSet f ρ) fun h ρ1 => match getH ρ1 h with
  | some (.bool b) => .ok (.sh (.bool b)) ρ1
  | _ => .stuck
theorem lk_B {t : TE} {f : EF} (l : LkE C t f) : LkT C (tB t) (eB f) := fun ρ σ B H Q S g => by
  refine l.set ρ σ B H _ S ?_
  unfold eB at g
  cases e : eSet f ρ with
  | stuck => rw [e] at g; exact g
  | exc c ρ1 => rw [e] at g; exact g
  | ok h ρ1 =>
    rw [e] at g
    replace g : GoodT C ρ σ B H Q (match getH ρ1 h with | some (.bool b) => .ok (.sh (.bool b)) ρ1 | _ => .stuck) := g
    intro v B1 H1 S1 x y
    split at g
    · rename_i b eb
      exact ⟨b, (S1.tp y eb).bl, g B1 H1 S1 x⟩
    · exact g.elim
theorem st_val {t : TE} {f : EF} (h : SE X C e t f) (he : ∀ whole, isTrue e X.env whole = (do let v ← whole; standAt e.pos; holding [v] (truthy v)) := by intro _; rfl) : ST X C e (tB t) (eB f) := ⟨pt_val h.pe he, lk_B h.lk⟩
theorem se_cmp {op : CmpOp} {r : R2} {o : D → D → Option Hd} (hr : OpL C.K r o) (ho : OpR X (compareOp op) r) (la : SE X C a ta fa) (lb : SE X C b tb fb) (hm : behindInMarks op b = false := by first | exact nomark _ | rfl) : SE X C (.Compare a [op] [b] pos) (tOp r ta tb) (eBin o fa fb) :=
  ⟨pe_cmpR ho la.pe lb.pe hm, lk_op hr la.lk lb.lk⟩
theorem st_cmp {op : CmpOp} {r : R2} {o : D → D → Option Hd} (hr : OpL C.K r o) (ho : OpR X (compareOp op) r) (la : SE X C a ta fa) (lb : SE X C b tb fb) (hm : behindInMarks op b = false := by first | exact nomark _ | rfl) : ST X C (.Compare a [op] [b] pos) (tTest (tOp r ta tb)) (eB (eBin o fa fb)) :=
  ⟨pt_cmpR ho la.pe lb.pe hm, lk_B (lk_op hr la.lk lb.lk)⟩
/-- a test, then what follows -/
theorem LkT.bind {t : TT} {f : EF} (l : LkT C t f) {ρ : Rho} {σ : St} {B H : Hp} (S : Sim C.K ρ σ B H) {Q' : Bool → Hp → Prop}
    (hx : ∀ x ρ1, f ρ = .exc x ρ1 → ∀ cls dct B' H', Sim C.K ρ1 σ B' H' → Ext ρ σ B H ρ1 σ B' H' → XcOk C B' x cls dct → C.W cls dct σ H')
    (h : ∀ b ρ1, f ρ = .ok (.sh (.bool b)) ρ1 → ∀ B1 H1, Sim C.K ρ1 σ B1 H1 → Ext ρ σ B H ρ1 σ B1 H1 → Q' b H1) (hs : (∃ b ρ1, f ρ = .ok (.sh (.bool b)) ρ1) ∨ ∃ x ρ1, f ρ = .exc x ρ1) : t σ H Q' := by
  refine l ρ σ B H Q' S ?_
  rcases hs with ⟨b, ρ1, e⟩ | ⟨x, ρ1, e⟩
  · rw [e]; exact h b ρ1 e
  · rw [e]; exact hx x ρ1 e
def bindB (r : RE) (k : Bool → Rho → RE) : RE := match r with
  | .ok (.sh (.bool b)) ρ => k b ρ
  | .exc x ρ => .exc x ρ
  | _ => .stuck
theorem LkT.bindE {t : TT} {f : EF} (l : LkT C t f) {ρ : Rho} {σ : St} {B H : Hp} (S : Sim C.K ρ σ B H) {Q : VK} {k : Bool → Rho → RE} {Q' : Bool → Hp → Prop} (g : GoodE C ρ σ B H Q (bindB (f ρ) k))
    (h : ∀ b ρ1 B1 H1, Sim C.K ρ1 σ B1 H1 → Ext ρ σ B H ρ1 σ B1 H1 → GoodE C ρ1 σ B1 H1 Q (k b ρ1) → Q' b H1) : t σ H Q' := by
  refine l ρ σ B H Q' S ?_
  cases e : f ρ with
  | stuck => rw [e] at g; exact g
  | exc x ρ1 => rw [e] at g; exact g
  | ok hd ρ1 =>
    rw [e] at g
    cases hd with
    | sh d =>
      cases d with
      | bool b => exact fun B1 H1 s x => h b ρ1 B1 H1 s x (GoodE.ext x g)
      | _ => exact g
    | _ => exact g
theorem LkT.bindT {t : TT} {f : EF} (l : LkT C t f) {ρ : Rho} {σ : St} {B H : Hp} (S : Sim C.K ρ σ B H) {Q : Bool → Hp → Prop} {k : Bool → Rho → RE} {Q' : Bool → Hp → Prop} (g : GoodT C ρ σ B H Q (bindB (f ρ) k))
    (h : ∀ b ρ1 B1 H1, Sim C.K ρ1 σ B1 H1 → Ext ρ σ B H ρ1 σ B1 H1 → GoodT C ρ1 σ B1 H1 Q (k b ρ1) → Q' b H1) : t σ H Q' := by
  refine l ρ σ B H Q' S ?_
  cases e : f ρ with
  | stuck => rw [e] at g; exact g
  | exc x ρ1 => rw [e] at g; exact g
  | ok hd ρ1 =>
    rw [e] at g
    cases hd with
    | sh d =>
      cases d with
      | bool b => exact fun B1 H1 s x => h b ρ1 B1 H1 s x (GoodT.ext x g)
      | _ => exact g
    | _ => exact g
def eNot (f : EF) : EF := fun ρ => bindB (f ρ) fun b ρ1 => .ok (.sh (.bool (!b))) ρ1
def eAnd (f g : EF) : EF := fun ρ => bindB (f ρ) fun b ρ1 => if b then g ρ1 else .ok (.sh (.bool false)) ρ1
def eOr (f g : EF) : EF := fun ρ => bindB (f ρ) fun b ρ1 => if b then .ok (.sh (.bool true)) ρ1 else g ρ1
def eIf (f g h : EF) : EF := fun ρ => bindB (f ρ) fun b ρ1 => if b then g ρ1 else h ρ1
variable {t u w : TT} {f g h : EF}
theorem st_not (l : ST X C a t f) : ST X C (.UnaryOp .Not a pos) (tNot t) (eNot f) := ⟨pt_not l.pt, fun ρ σ B H Q S g => l.lk.bindT S g fun b ρ1 B1 H1 S1 e1 g1 => g1 B1 H1 S1 Ext.refl⟩
theorem sw_one {op : BoolOp} (l : ST X C a t f) : SW X C (.BoolOp op [a] pos) t f := by
  cases op
  · exact ⟨pw_and1 l.pt, l.lk⟩
  · exact ⟨pw_or1 l.pt, l.lk⟩
theorem sw_and {rest : List Expr} (l : ST X C a t f) (m : SW X C (.BoolOp .And (b :: rest) pos) u g) : SW X C (.BoolOp .And (a :: b :: rest) pos) (tAnd t u) (eAnd f g) :=
  ⟨pw_and l.pt m.pw, fun ρ σ B H Q S gd => l.lk.bindT S gd fun b ρ1 B1 H1 S1 e1 g1 => by
    cases b with
    | true => exact m.lk ρ1 σ B1 H1 Q S1 g1
    | false => exact g1 B1 H1 S1 Ext.refl⟩
theorem sw_or {rest : List Expr} (l : ST X C a t f) (m : SW X C (.BoolOp .Or (b :: rest) pos) u g) : SW X C (.BoolOp .Or (a :: b :: rest) pos) (tOr t u) (eOr f g) :=
  ⟨pw_or l.pt m.pw, fun ρ σ B H Q S gd => l.lk.bindT S gd fun b ρ1 B1 H1 S1 e1 g1 => by
    cases b with
    | false => exact m.lk ρ1 σ B1 H1 Q S1 g1
    | true => exact g1 B1 H1 S1 Ext.refl⟩
theorem se_not (l : SE X C a ta fa) : SE X C (.UnaryOp .Not a pos) (tNotV ta) (eNot (eB fa)) := ⟨pe_not l.pe, fun ρ σ B H Q S g => by
  have q : tB ta σ H fun b H1 => Q (.bl (!b)) H1 := (lk_B l.lk).bindE S g fun b ρ1 B1 H1 S1 e1 g1 => g1 (.bl (!b)) B1 H1 S1 Ext.refl (.bl _)
  exact q⟩
theorem se_one {op : BoolOp} (l : SE X C a ta fa) : SE X C (.BoolOp op [a] pos) ta fa := ⟨pe_one l.pe, l.lk⟩
theorem se_and {rest : List Expr} (l : SE X C a ta fa) (m : SE X C (.BoolOp .And (b :: rest) pos) tb fb) : SE X C (.BoolOp .And (a :: b :: rest) pos) (tAndV ta tb) (eAnd (eB fa) fb) := ⟨pe_and l.pe m.pe, fun ρ σ B H Q S g => by
  have q : tB ta σ H fun b H1 => if b = true then tb σ H1 Q else Q (.bl false) H1 := (lk_B l.lk).bindE S g fun b ρ1 B1 H1 S1 e1 g1 => by
    cases b with
    | true => exact m.lk ρ1 σ B1 H1 Q S1 g1
    | false => exact g1 (.bl false) B1 H1 S1 Ext.refl (.bl _)
  exact q⟩
theorem se_if (l : ST X C c t f) (la : SE X C a ta fa) (lb : SE X C b tb fb) : SE X C (.IfExp c a b pos) (tIf t ta tb) (eIf f fa fb) := ⟨pe_ifExp l.pt la.pe lb.pe, fun ρ σ B H Q S g => l.lk.bindE S g fun b ρ1 B1 H1 S1 e1 g1 => by
  cases b with
  | true => exact la.lk ρ1 σ B1 H1 Q S1 g1
  | false => exact lb.lk ρ1 σ B1 H1 Q S1 g1⟩
def eChain (o o' : D → D → Option Hd) (fa fb fc : EF) : EF := fun ρ => bindE (eSet fa ρ) fun ha ρ1 => bindE (eSet fb ρ1) fun hb ρ2 => match getH ρ2 ha, getH ρ2 hb with
  | some da, some db => match o da db with
    | some (.sh (.bool b)) => if b then bindE (eSet fc ρ2) (fun hc ρ3 => match getH ρ3 hb, getH ρ3 hc with
      | some db', some dc => match o' db' dc with
        | some h => .ok h ρ3
        | none => .stuck
      | _, _ => .stuck) else .ok (.sh (.bool false)) ρ2
    | _ => .stuck
  | _, _ => .stuck
theorem lk_chain {r r' : R2} {o o' : D → D → Option Hd} (hr : OpL C.K r o) (hr' : OpL C.K r' o') (la : LkE C ta fa) (lb : LkE C tb fb) (lc : LkE C tc fc) : LkE C (tChain r r' ta tb tc) (eChain o o' fa fb fc) := fun ρ σ B H Q S g => by
  refine la.setBind S g fun ha ρ1 x B1 H1 S1 e1 y1 g1 => ?_
  refine lb.setBind S1 g1 fun hb ρ2 y B2 H2 S2 e2 y2 g2 => ?_
  split at g2
  · rename_i da db ea eb
    split at g2
    · rename_i b eh
      refine hr ρ2 σ B2 H2 x y da db _ _ S2 (S2.tp (N := fun _ => True) (HdOk.ext e2 y1) ea) (S2.tp y2 eb) eh fun v B3 H3 S3 e3 y3 => ?_
      cases (show Rp C.K B3 v (.bool b) from y3)
      refine ⟨b, rfl, ?_⟩
      cases b with
      | true =>
        rw [if_pos rfl] at g2 ⊢
        refine lc.setBind S3 (GoodE.ext e3 g2) fun hc ρ4 z B4 H4 S4 e4 y4 g4 => ?_
        split at g4
        · rename_i db' dc eb' ec
          split at g4
          · rename_i h eh'
            exact hr' ρ4 σ B4 H4 y z db' dc h Q S4 (S4.tp (N := fun _ => True) (HdOk.ext (e3.trans e4) y2) eb') (S4.tp y4 ec) eh' g4
          · exact g4.elim
        · exact g4.elim
      | false =>
        rw [if_neg Bool.false_ne_true] at g2 ⊢
        exact g2 (.bl false) B3 H3 S3 e3 (.bl _)
    · exact g2.elim
  · exact g2.elim
theorem st_chain {op op' : CmpOp} {r r' : R2} {o o' : D → D → Option Hd} (hr : OpL C.K r o) (ho : OpR X (compareOp op) r) (hr' : OpL C.K r' o') (ho' : OpR X (compareOp op') r') (la : SE X C a ta fa) (lb : SE X C b tb fb) (lc : SE X C c tc fc)
    (hm : lastMarks [op, op'] [b, c] = false := by with_unfolding_all rfl) : ST X C (.Compare a [op, op'] [b, c] pos) (tTest (tChain r r' ta tb tc)) (eB (eChain o o' fa fb fc)) := ⟨pt_chain ho ho' la.pe lb.pe lc.pe hm, lk_B (lk_chain hr hr' la.lk lb.lk lc.lk)⟩
end
end GS
namespace GS
open PySem L2
section
variable {X : Cx} {C : Ct} {e : Expr} {es : List Expr} {te : TE} {fe : EF} {pos : Pos}
/-- a name, looked at -/
def eVb (i : Nat) : EF := fun ρ => match slot ρ i with
  | some ⟨_, .st⟩ => .stuck
  | some _ => .ok (.bw i) ρ
  | none => .stuck
/-- a name whose datum is shared from here on -/
def eMv (i : Nat) : EF := fun ρ => match slot ρ i with
  | some ⟨d, .sh⟩ => .ok (.sh d) ρ
  | some ⟨d, .ow⟩ => .ok (.sh d) (ρ.set i (some ⟨d, .sh⟩))
  | _ => .stuck
def eC (d : D) : EF := fun ρ => .ok (.sh d) ρ
theorem lk_vb {i : Nat} : LkE C (tVar i) (eVb i) := fun ρ σ B H Q S g => by
  unfold eVb at g
  cases h : slot ρ i with
  | none => rw [h] at g; exact g.elim
  | some c =>
    rw [h] at g
    have ns : c.fl ≠ .st := fun z => by
      obtain ⟨d, fl⟩ := c
      cases z
      exact g
    have g : GoodE C ρ σ B H Q (.ok (.bw i) ρ) := by
      obtain ⟨d, fl⟩ := c
      cases fl <;> first | exact g | exact absurd rfl ns
    obtain ⟨v, e, q⟩ := S.sl i c (slot_some h) ns
    exact ⟨v, e, g v B H S Ext.refl e⟩
theorem set_get {ρ : Rho} {i j : Nat} {c : Option Cel} {x : Option Cel} (h : (ρ.set i c)[j]? = some x) : (i = j ∧ x = c) ∨ (i ≠ j ∧ ρ[j]? = some x) := by
  rw [List.getElem?_set] at h
  by_cases e : i = j
  · rw [if_pos e] at h
    split at h
    · cases h; exact .inl ⟨e, rfl⟩
    · cases h
  · rw [if_neg e] at h
    exact .inr ⟨e, h⟩
theorem set_at {ρ : Rho} {i : Nat} {c : Option Cel} (h : i < ρ.length) : (ρ.set i c)[i]? = some c := by
  rw [List.getElem?_set, if_pos rfl, if_pos h]
theorem set_other {ρ : Rho} {i j : Nat} {c : Option Cel} (h : i ≠ j) : (ρ.set i c)[j]? = ρ[j]? := by
  rw [List.getElem?_set, if_neg h]
theorem lt_of {ρ : Rho} {i : Nat} {x : Option Cel} (h : ρ[i]? = some x) : i < ρ.length := (List.getElem?_eq_some_iff.mp h).1
/-- an owned slot is given up: the datum is shared from here on -/
theorem Sim.freeze {K : KW} {ρ : Rho} {σ : St} {B H : Hp} (S : Sim K ρ σ B H) {i : Nat} {d : D} (hi : ρ[i]? = some (some ⟨d, .ow⟩)) :
    ∃ v B1, σ[i]? = some (some v) ∧ Sim K (ρ.set i (some ⟨d, .sh⟩)) σ B1 H ∧ Ext ρ σ B H (ρ.set i (some ⟨d, .sh⟩)) σ B1 H ∧ Rp K B1 v d := by
  obtain ⟨v, e, q⟩ := S.sl i _ hi (by simp)
  have ltσ := (List.getElem?_eq_some_iff.mp e).1
  rcases q with ⟨q, _⟩ | ⟨_, a, rfl, hb, ho⟩
  · cases q
  obtain ⟨o, eo⟩ := ho.some
  have own : OwnA ρ σ a := ⟨i, _, hi, by simp, e⟩
  have sB : Same B (upd B a o) := fun b u e => by rw [upd_ne (ne_of_none e hb)]; exact e
  have rp : Rp K (upd B a o) (.ref a) d := by
    rw [eo] at ho
    have ho := ho.mono sB
    cases d with
    | list ds =>
      obtain ⟨vs, e1, e2⟩ := ho
      cases e1
      exact .lst (.inl (.inl upd_same)) e2
    | dict ps =>
      obtain ⟨ep, b, xs, e1, e2⟩ := ho
      cases e1
      exact .dct upd_same e2
    | _ => exact ho.elim
  have nm := Ow.nm (by rw [← eo]; exact ho)
  have st1 : ∀ (i' : Nat) (d' : D), (ρ.set i (some ⟨d, .sh⟩))[i']? = some (some (Cel.mk d' .st)) → ρ[i']? = some (some (Cel.mk d' .st)) := fun _ _ h => st_set (by simp) h
  refine ⟨.ref a, upd B a o, e, ⟨fun b u z => ?_, S.len.set ltσ, fun j c hj hs => ?_, fun j k cj ck b hj hk nj nk ej ek => ?_, S.st.keep sB (fun _ _ _ h => met_upd nm h) (fun _ _ _ _ => rfl) st1 rfl⟩, ⟨sB, fun b u z => ?_, fun b u z _ => .inl z, fun b z => ?_, fun j c hj hc => ?_, fun j c hj hc => ?_, .of st1 fun _ _ _ h => met_upd nm h⟩, rp⟩
  · by_cases h : b = a
    · subst h; rw [upd_same] at z; cases z; exact .inl eo
    · rw [upd_ne h] at z; exact S.bh _ _ z
  · rcases set_get hj with ⟨rfl, ec⟩ | ⟨ne, hj⟩
    · cases ec
      exact ⟨.ref a, e, .inl ⟨rfl, rp⟩⟩
    · obtain ⟨v, ev, q⟩ := S.sl j c hj hs
      refine ⟨v, ev, q.mono sB fun b hv hb' ho' hf => ⟨?_, rfl⟩⟩
      have nb : b ≠ a := fun z => by
        subst z hv
        exact ne (S.dj i j _ c b hi hj (by simp) hf e ev)
      rw [upd_ne nb]; exact hb'
  · rcases set_get hj with ⟨rfl, ec⟩ | ⟨_, hj⟩
    · cases ec; exact absurd rfl nj
    · rcases set_get hk with ⟨rfl, ec⟩ | ⟨_, hk⟩
      · cases ec; exact absurd rfl nk
      · exact S.dj j k cj ck b hj hk nj nk ej ek
  · by_cases h : b = a
    · subst h; exact .inr (.inr own)
    · rw [upd_ne h] at z; exact .inl z
  · obtain ⟨j, c, hj, hc, ej⟩ := z
    rcases set_get hj with ⟨rfl, ec⟩ | ⟨_, hj⟩
    · cases ec; exact absurd rfl hc
    · exact .inr ⟨j, c, hj, hc, ej⟩
  · have ne : i ≠ j := fun z => by
      subst z
      rw [hi] at hj
      cases hj
      cases hc
    exact ⟨rfl, c, by rw [set_other ne]; exact hj, hc⟩
  · rcases set_get hj with ⟨rfl, ec⟩ | ⟨_, hj⟩
    · cases ec; cases hc
    · exact ⟨c, hj, hc⟩
/-- .. it is nobody's from here on -/
theorem Sim.give {K : KW} {ρ : Rho} {σ : St} {B H : Hp} (S : Sim K ρ σ B H) {i : Nat} {d : D} (hi : ρ[i]? = some (some ⟨d, .ow⟩)) :
    ∃ a, σ[i]? = some (some (.ref a)) ∧ Sim K (ρ.set i none) σ B H ∧ Ext ρ σ B H (ρ.set i none) σ B H ∧ HdOk K (New ρ σ H) (ρ.set i none) σ B H (.ref a) (.fr d) := by
  obtain ⟨v, e, q⟩ := S.sl i _ hi (by simp)
  have ltσ := (List.getElem?_eq_some_iff.mp e).1
  rcases q with ⟨q, _⟩ | ⟨_, a, rfl, hb, ho⟩
  · cases q
  have own : OwnA ρ σ a := ⟨i, _, hi, by simp, e⟩
  have st1 : ∀ (i' : Nat) (d' : D), (ρ.set i none)[i']? = some (some (Cel.mk d' .st)) → ρ[i']? = some (some (Cel.mk d' .st)) := fun _ _ h => st_set (by simp) h
  refine ⟨a, e, ⟨S.bh, S.len.set ltσ, fun j c hj hs => ?_, fun j k cj ck b hj hk nj nk ej ek => ?_, S.st.keep (Same.refl B) (fun _ _ _ h => h) (fun _ _ _ _ => rfl) st1 rfl⟩, ⟨Same.refl B, fun b u z => .inl z, fun b u z _ => .inl z, fun b z => ?_, fun j c hj hc => ?_, fun j c hj hc => ?_, .r st1⟩, a, rfl, hb, ho, fun z => ?_, .inr own⟩
  · rcases set_get hj with ⟨rfl, ec⟩ | ⟨ne, hj⟩
    · cases ec
    · exact S.sl j c hj hs
  · rcases set_get hj with ⟨rfl, ec⟩ | ⟨_, hj⟩
    · cases ec
    · rcases set_get hk with ⟨rfl, ec⟩ | ⟨_, hk⟩
      · cases ec
      · exact S.dj j k cj ck b hj hk nj nk ej ek
  · obtain ⟨j, c, hj, hc, ej⟩ := z
    rcases set_get hj with ⟨rfl, ec⟩ | ⟨_, hj⟩
    · cases ec
    · exact .inr ⟨j, c, hj, hc, ej⟩
  · have ne : i ≠ j := fun z => by
      subst z
      rw [hi] at hj
      cases hj
      cases hc
    exact ⟨rfl, c, by rw [set_other ne]; exact hj, hc⟩
  · rcases set_get hj with ⟨rfl, ec⟩ | ⟨_, hj⟩
    · cases ec
    · exact ⟨c, hj, hc⟩
  · obtain ⟨j, c, hj, hc, ej⟩ := z
    rcases set_get hj with ⟨rfl, ec⟩ | ⟨ne, hj⟩
    · cases ec
    · exact ne (S.dj i j _ c a hi hj (by simp) hc e ej)
theorem lk_mv {i : Nat} : LkE C (tVar i) (eMv i) := fun ρ σ B H Q S g => by
  unfold eMv at g
  cases h : slot ρ i with
  | none => rw [h] at g; exact g.elim
  | some c =>
    rw [h] at g
    obtain ⟨d, fl⟩ := c
    have hi := slot_some h
    cases fl with
    | sh =>
      obtain ⟨v, e, q⟩ := S.sl i _ hi (by simp)
      rcases q with ⟨_, q⟩ | ⟨q, _⟩
      · exact ⟨v, e, g v B H S Ext.refl q⟩
      · exact absurd rfl q
    | ow =>
      obtain ⟨v, B1, e, S1, x1, r⟩ := S.freeze hi
      exact ⟨v, e, g v B1 H S1 x1 r⟩
    | io => exact g.elim
    | st => exact g.elim
theorem se_vb (i : Nat) {x : Str} (hN : X.N[i]? = some x := by rfl) (hv : Vis X.env.scope x := by first | exact Or.inl rfl | exact Or.inr (Or.inl rfl) | exact Or.inr (Or.inr rfl)) (hd : (x == ("__debug__" : Str)) = false := by decide)
    (hcd : (x == ("__classdict__" : Str)) = false := by decide) : SE X C (.Name x pos) (tVar i) (eVb i) := ⟨pe_var hN hv hd hcd, lk_vb⟩
theorem se_mv (i : Nat) {x : Str} (hN : X.N[i]? = some x := by rfl) (hv : Vis X.env.scope x := by first | exact Or.inl rfl | exact Or.inr (Or.inl rfl) | exact Or.inr (Or.inr rfl)) (hd : (x == ("__debug__" : Str)) = false := by decide)
    (hcd : (x == ("__classdict__" : Str)) = false := by decide) : SE X C (.Name x pos) (tVar i) (eMv i) := ⟨pe_var hN hv hd hcd, lk_mv⟩
theorem lk_c {v : V} {d : D} (h : ∀ B, Rp C.K B v d) : LkE C (tC v) (eC d) := fun ρ σ B H Q S g => g v B H S Ext.refl (h B)
theorem se_int {i : Int} {j : Nat} : SE X C (.Constant (.int i) j pos) (tC (.int i)) (eC (.int i)) := ⟨pe_int, lk_c fun _ => .int i⟩
theorem se_str {i : Str} {j : Nat} : SE X C (.Constant (.str i) j pos) (tC (.str i)) (eC (.str i)) := ⟨pe_str, lk_c fun _ => .str i⟩
theorem se_bl {i : Bool} {j : Nat} : SE X C (.Constant (.bool i) j pos) (tC (.bl i)) (eC (.bool i)) := ⟨pe_bl, lk_c fun _ => .bl i⟩
theorem se_non {j : Nat} : SE X C (.Constant .none j pos) (tC .non) (eC .none) := ⟨pe_non, lk_c fun _ => .non⟩
inductive RA where | stuck | ok (hs : List Hd) (ρ : Rho) | exc (x : Xc) (ρ : Rho)
abbrev AF := Rho → RA
def HsOk (K : KW) (σ : St) (B : Hp) (v : V) : Hd → Prop
  | .sh d => Rp K B v d
  | .fr _ => False
  | .bw i => σ[i]? = some (some v)
  | .sp s g => ∃ a : Addr, v = .ref a ∧ B a = some (.met s g)
inductive HdL (K : KW) (σ : St) (B : Hp) : List V → List Hd → Prop
  | nil : HdL K σ B [] []
  | cons {v : V} {vs : List V} {h : Hd} {hs : List Hd} : HsOk K σ B v h → HdL K σ B vs hs → HdL K σ B (v :: vs) (h :: hs)
theorem HsOk.mono {K : KW} {σ : St} {B B1 : Hp} (e : Same B B1) {v : V} : ∀ {h : Hd}, HsOk K σ B v h → HsOk K σ B1 v h
  | .sh _, q => Rp.mono e q
  | .fr _, q => q
  | .bw _, q => q
  | .sp _ _, ⟨a, h1, h2⟩ => ⟨a, h1, e _ _ h2⟩
theorem HdL.mono {K : KW} {σ : St} {B B1 : Hp} (e : Same B B1) : ∀ {vs : List V} {hs : List Hd}, HdL K σ B vs hs → HdL K σ B1 vs hs
  | _, _, .nil => .nil
  | _, _, .cons h t => .cons (h.mono e) (HdL.mono e t)
theorem HdL.length {K : KW} {σ : St} {B : Hp} : ∀ {vs : List V} {hs : List Hd}, HdL K σ B vs hs → vs.length = hs.length
  | _, _, .nil => rfl
  | _, _, .cons h t => by rw [List.length_cons, List.length_cons, HdL.length t]
def GoodA (C : Ct) (ρ : Rho) (σ : St) (B H : Hp) (Q : List V → Hp → Prop) : RA → Prop
  | .stuck => False
  | .ok hs ρ' => ∀ vs B' H', Sim C.K ρ' σ B' H' → Ext ρ σ B H ρ' σ B' H' → HdL C.K σ B' vs hs → Q vs H'
  | .exc x ρ' => ∀ cls dct B' H', Sim C.K ρ' σ B' H' → Ext ρ σ B H ρ' σ B' H' → XcOk C B' x cls dct → C.W cls dct σ H'
def LkA (C : Ct) (t : TA) (f : AF) : Prop := ∀ ρ σ B H Q, Sim C.K ρ σ B H → GoodA C ρ σ B H Q (f ρ) → t σ H Q
structure SA (X : Cx) (C : Ct) (es : List Expr) (t : TA) (f : AF) : Prop where
  pa : PA X es t
  lk : LkA C t f
def aNil : AF := fun ρ => .ok [] ρ
def aCons (f : EF) (g : AF) : AF := fun ρ => match eSet f ρ with
  | .stuck => .stuck
  | .exc x ρ1 => .exc x ρ1
  | .ok h ρ1 => match g ρ1 with
    | .stuck => .stuck
    | .exc x ρ2 => .exc x ρ2
    | .ok hs ρ2 => .ok (h :: hs) ρ2
theorem GoodA.ext {ρ ρ1 : Rho} {σ : St} {B H B1 H1 : Hp} {Q : List V → Hp → Prop} (x : Ext ρ σ B H ρ1 σ B1 H1) : ∀ {r : RA}, GoodA C ρ σ B H Q r → GoodA C ρ1 σ B1 H1 Q r
  | .stuck, g => g
  | .ok _ _, g => fun vs B' H' s y z => g vs B' H' s (x.trans y) z
  | .exc _ _, g => fun c d B' H' s y z => g c d B' H' s (x.trans y) z
theorem hs_of {K : KW} {N : Addr → Prop} {ρ : Rho} {σ : St} {B H : Hp} {v : V} {h : Hd} (y : HdOk K N ρ σ B H v (setl h)) : HsOk K σ B v (setl h) := by
  cases h <;> exact y
theorem sa_nil : SA X C [] tNil aNil := ⟨pa_nil, fun ρ σ B H Q S g => g [] B H S Ext.refl .nil⟩
theorem sa_cons {t : TA} {g : AF} (l : SE X C e te fe) (m : SA X C es t g) (hs : starEach (e :: es) X.env = (false, eval e X.env) :: starEach es X.env := by rfl) : SA X C (e :: es) (tCons te t) (aCons fe g) := ⟨pa_cons l.pe m.pa hs, fun ρ σ B H Q S gd => by
  refine l.lk.set ρ σ B H _ S ?_
  unfold aCons at gd
  cases e : eSet fe ρ with
  | stuck => rw [e] at gd; exact gd
  | exc x ρ1 => rw [e] at gd; exact gd
  | ok h ρ1 =>
    rw [e] at gd
    intro v B1 H1 S1 x1 y1
    have y2 : HsOk C.K σ B1 v h := by
      unfold eSet bindE at e
      split at e
      · cases e
      · rename_i h' ρ' e'
        cases e
        exact hs_of y1
      · cases e
    refine m.lk ρ1 σ B1 H1 _ S1 ?_
    cases e2 : g ρ1 with
    | stuck => simp only [e2] at gd; exact gd
    | exc x ρ2 => simp only [e2] at gd; exact GoodA.ext x1 (r := .exc x ρ2) gd
    | ok hs ρ2 =>
      simp only [e2] at gd
      exact fun vs B2 H2 S2 x2 y3 => gd (v :: vs) B2 H2 S2 (x1.trans x2) (.cons (y2.mono x2.bb) y3)⟩
def bindA (r : RA) (k : List Hd → Rho → RE) : RE := match r with
  | .stuck => .stuck
  | .ok hs ρ => k hs ρ
  | .exc x ρ => .exc x ρ
theorem LkA.bind {t : TA} {f : AF} (l : LkA C t f) {ρ : Rho} {σ : St} {B H : Hp} (S : Sim C.K ρ σ B H) {Q : VK} {k : List Hd → Rho → RE} {Q' : List V → Hp → Prop} (g : GoodE C ρ σ B H Q (bindA (f ρ) k))
    (h : ∀ hs ρ1 vs B1 H1, Sim C.K ρ1 σ B1 H1 → Ext ρ σ B H ρ1 σ B1 H1 → HdL C.K σ B1 vs hs → GoodE C ρ1 σ B1 H1 Q (k hs ρ1) → Q' vs H1) : t σ H Q' := by
  refine l ρ σ B H Q' S ?_
  cases e : f ρ with
  | stuck => rw [e] at g; exact g
  | exc x ρ1 => rw [e] at g; exact g
  | ok hs ρ1 =>
    rw [e] at g
    exact fun vs B1 H1 s x y => h hs ρ1 vs B1 H1 s x y (GoodE.ext x g)
/-- all are data of their own -/
def shs : List Hd → Option (List D)
  | [] => some []
  | .sh d :: hs => (shs hs).map (d :: ·)
  | _ :: _ => none
theorem shs_ok {K : KW} {σ : St} {B : Hp} : ∀ {vs : List V} {hs : List Hd} {ds : List D}, HdL K σ B vs hs → shs hs = some ds → RpL K B vs ds
  | _, _, _, .nil, e => by cases e; exact .nil
  | _, .sh d :: hs, _, .cons h t, e => by
    obtain ⟨r, er, rfl⟩ := Option.map_eq_some_iff.mp (show (shs hs).map (d :: ·) = some _ from e)
    exact .cons h (shs_ok t er)
/-- what they are, looked at -/
def gets (ρ : Rho) : List Hd → Option (List D)
  | [] => some []
  | h :: hs => match getH ρ h, gets ρ hs with
    | some d, some ds => some (d :: ds)
    | _, _ => none
inductive TpL (K : KW) (B H : Hp) : List V → List D → Prop
  | nil : TpL K B H [] []
  | cons {v : V} {vs : List V} {d : D} {ds : List D} : Tp K B H v d → TpL K B H vs ds → TpL K B H (v :: vs) (d :: ds)
theorem hd_hs {K : KW} {N : Addr → Prop} {ρ : Rho} {σ : St} {B H : Hp} {v : V} : ∀ {h : Hd}, HsOk K σ B v h → HdOk K N ρ σ B H v h
  | .sh _, q => q
  | .bw _, q => q
  | .sp _ _, q => q
theorem gets_ok {ρ : Rho} {σ : St} {B H : Hp} (S : Sim C.K ρ σ B H) : ∀ {vs : List V} {hs : List Hd} {ds : List D}, HdL C.K σ B vs hs → gets ρ hs = some ds → TpL C.K B H vs ds
  | _, _, _, .nil, e => by cases e; exact .nil
  | _, h :: hs, _, .cons y t, e => by
    unfold gets at e
    split at e
    · rename_i d ds e1 e2
      cases e
      exact .cons (S.tp (N := fun _ => True) (hd_hs y) e1) (gets_ok S t e2)
    · cases e
def eTup (f : AF) : EF := fun ρ => bindA (f ρ) fun hs ρ1 => match shs hs with
  | some ds => if ds.length ≤ 1000 then .ok (.sh (.tuple ds)) ρ1 else .stuck
  | none => .stuck
def eLst (f : AF) : EF := fun ρ => bindA (f ρ) fun hs ρ1 => match shs hs with
  | some ds => if ds.length ≤ 1000 then .ok (.fr (.list ds)) ρ1 else .stuck
  | none => .stuck
theorem small {n : Nat} (h : n ≤ 1000) : n ≤ sizeLine := Nat.le_of_lt (small1000 h)
theorem se_tup {t : TA} {f : AF} {k : Nat} (l : SA X C es t f) : SE X C (.Tuple es k pos) (tTupX t) (eTup f) := ⟨pe_tupX l.pa, fun ρ σ B H Q S g => by
  refine l.lk.bind S g fun hs ρ1 vs B1 H1 S1 x1 y1 g1 => ?_
  split at g1
  · rename_i ds e
    split at g1
    · have r := shs_ok y1 e
      exact ⟨by rw [r.length]; exact small (by assumption), newT S1 r g1⟩
    · exact g1.elim
  · exact g1.elim⟩
theorem se_lst {t : TA} {f : AF} (l : SA X C es t f) : SE X C (.List es pos) (tLst t) (eLst f) := ⟨pe_lst l.pa, fun ρ σ B H Q S g => by
  refine l.lk.bind S g fun hs ρ1 vs B1 H1 S1 x1 y1 g1 => ?_
  split at g1
  · rename_i ds e
    split at g1
    · have r := shs_ok y1 e
      exact ⟨by rw [r.length]; exact small (by assumption), newL S1 r g1⟩
    · exact g1.elim
  · exact g1.elim⟩
def CalL (K : KW) (r : List V → Hp → VK → Prop) (o : List D → Option Hd) : Prop := ∀ ρ σ B H xs ds h Q, Sim K ρ σ B H → TpL K B H xs ds → o ds = some h →
  (∀ v B' H', Sim K ρ σ B' H' → Ext ρ σ B H ρ σ B' H' → HdOk K (New ρ σ H) ρ σ B' H' v h → Q v H') → r xs H Q
def eCB (o : List D → Option Hd) (f : AF) : EF := fun ρ => bindA (f ρ) fun hs ρ1 => match (gets ρ1 hs).bind o with
  | some h => .ok h ρ1
  | none => .stuck
theorem lk_cb {t : TA} {f : AF} {r : List V → Hp → VK → Prop} {o : List D → Option Hd} (hr : CalL C.K r o) (l : LkA C t f) : LkE C (tCB r t) (eCB o f) := fun ρ σ B H Q S g => by
  refine l.bind S g fun hs ρ1 vs B1 H1 S1 x1 y1 g1 => ?_
  split at g1
  · rename_i h e
    obtain ⟨ds, e1, e2⟩ := Option.bind_eq_some_iff.mp e
    exact hr ρ1 σ B1 H1 vs ds h Q S1 (gets_ok S1 y1 e1) e2 g1
  · exact g1.elim
theorem se_cb {x : Str} {id : String} {p : Pos} {t : TA} {f : AF} {r : List V → Hp → VK → Prop} {o : List D → Option Hd} (hr : CalL C.K r o) (hc : CallR X (.builtin id) r) (hm : X.mg x = none) (l : SA X C (e :: es) t f) (hv : bootBuiltins x = some (.builtin id) := by decide +kernel) (hg : Gl X x := by rfl)
    (hn : x ≠ "__name__" := by decide) (hdb : (x == ("__debug__" : Str)) = false := by decide) (he : starEach (e :: es) X.env = (false, eval e X.env) :: starEach es X.env := by rfl) (hpl : (backTo pos (starEach es X.env)).any (·.1) = false := by rfl) :
    SE X C (.Call (.Name x p) (e :: es) [] pos) (tCB r t) (eCB o f) := ⟨pe_callB hc hg hm hv l.pa hn hdb he hpl, lk_cb hr l.lk⟩
theorem se_ct {x : Str} {T : String} {p : Pos} {t : TA} {f : AF} {r : List V → Hp → VK → Prop} {o : List D → Option Hd} (hr : CalL C.K r o) (hc : CallR X (.type T) r) (hm : X.mg x = none) (l : SA X C (e :: es) t f) (hv : bootBuiltins x = some (.type T) := by decide +kernel) (hg : Gl X x := by rfl)
    (hn : x ≠ "__name__" := by decide) (hdb : (x == ("__debug__" : Str)) = false := by decide) (he : starEach (e :: es) X.env = (false, eval e X.env) :: starEach es X.env := by rfl) (hpl : (backTo pos (starEach es X.env)).any (·.1) = false := by rfl) :
    SE X C (.Call (.Name x p) (e :: es) [] pos) (tCB r t) (eCB o f) := ⟨pe_callTy hc hg hm hv l.pa hn hdb he hpl, lk_cb hr l.lk⟩
end
section
variable {K : KW}
/-- one argument, two -/
def un1 (o : D → Option Hd) : List D → Option Hd
  | [d] => o d
  | _ => none
def un2 (o : D → D → Option Hd) : List D → Option Hd
  | [d, e] => o d e
  | _ => none
theorem CalL.one {r : List V → Hp → VK → Prop} {o : D → Option Hd} (k : ∀ ρ σ B H x d h Q, Sim K ρ σ B H → Tp K B H x d → o d = some h →
    (∀ v B' H', Sim K ρ σ B' H' → Ext ρ σ B H ρ σ B' H' → HdOk K (New ρ σ H) ρ σ B' H' v h → Q v H') → r [x] H Q) : CalL K r (un1 o) := fun ρ σ B H xs ds h Q S y e q => by
  cases y with
  | nil => cases e
  | cons t u =>
    cases u with
    | nil => exact k ρ σ B H _ _ h Q S t e q
    | cons _ _ => cases e
theorem CalL.two {r : List V → Hp → VK → Prop} {o : D → D → Option Hd} (k : ∀ ρ σ B H x y d d' h Q, Sim K ρ σ B H → Tp K B H x d → Tp K B H y d' → o d d' = some h →
    (∀ v B' H', Sim K ρ σ B' H' → Ext ρ σ B H ρ σ B' H' → HdOk K (New ρ σ H) ρ σ B' H' v h → Q v H') → r [x, y] H Q) : CalL K r (un2 o) := fun ρ σ B H xs ds h Q S y e q => by
  cases y with
  | nil => cases e
  | cons t u =>
    cases u with
    | nil => cases e
    | cons u w =>
      cases w with
      | nil => exact k ρ σ B H _ _ _ _ h Q S t u e q
      | cons _ _ => cases e
def lenD : D → Option Hd
  | .list ds => some (.sh (.int ds.length))
  | .tuple ds => some (.sh (.int ds.length))
  | .str z => if z.length ≤ sizeLine then some (.sh (.int z.length)) else none
  | _ => none
def rLen (K : PySem.W.Frag) : List V → Hp → VK → Prop := fun xs H Q => ∃ x n, xs = [x] ∧ LenV K x H n ∧ Q (.int n) H
theorem cl_len : CalL K (rLen K) (un1 lenD) := CalL.one fun ρ σ B H x d h Q S t e k => by
  cases d with
  | list ds =>
    cases e
    obtain ⟨a, vs, rfl, ha, ra⟩ := t
    refine ⟨_, vs.length, rfl, .inl ⟨vs, ha, rfl⟩, ?_⟩
    rw [ra.length]
    exact now S (.int _) k
  | tuple ds =>
    cases e
    obtain ⟨a, vs, rfl, ha, ra⟩ := Tp.tup t
    refine ⟨_, vs.length, rfl, .inr ⟨vs, same_tT S.bh ha, rfl⟩, ?_⟩
    rw [ra.length]
    exact now S (.int _) k
  | str z =>
    obtain ⟨c, rfl⟩ := if_some e
    rw [Tp.str t]
    exact ⟨_, z.length, rfl, ⟨c, rfl⟩, now S (.int _) k⟩
  | _ => cases e
def tupleD : D → Option Hd
  | .list ds => some (.sh (.tuple ds))
  | .tuple ds => some (.sh (.tuple ds))
  | _ => none
abbrev rTupleA := rTupX
theorem cl_tuple : CalL K (rTupleA K) (un1 tupleD) := CalL.one fun ρ σ B H x d h Q S t e k => by
  cases d with
  | list ds =>
    cases e
    obtain ⟨a, vs, rfl, ha, ra⟩ := t
    exact ⟨a, vs, rfl, .inl ⟨ha, newT S ra k⟩⟩
  | tuple ds =>
    cases e
    obtain ⟨a, vs, rfl, ha, ra⟩ := Tp.tupX t
    exact ⟨a, vs, rfl, .inr ⟨(same_xT S.bh ha).sq, now S (.tup ha ra) k⟩⟩
  | _ => cases e
def maxD : D → D → Option Hd
  | .int i, .int j => some (.sh (.int (if j > i then j else i)))
  | _, _ => none
def minD : D → D → Option Hd
  | .int i, .int j => some (.sh (.int (if j < i then j else i)))
  | _, _ => none
theorem cl_max2 : CalL K (fun xs H Q => ∃ i j, xs = [.int i, .int j] ∧ Q (.int (if j > i then j else i)) H) (un2 maxD) := CalL.two fun ρ σ B H x y d d' h Q S t u e k => by
  cases d <;> cases d' <;> first | (cases (show none = some h from e); done) | skip
  cases e
  rw [Tp.int t, Tp.int u]
  exact ⟨_, _, rfl, now S (.int _) k⟩
theorem cl_min2 : CalL K (fun xs H Q => ∃ i j, xs = [.int i, .int j] ∧ Q (.int (if j < i then j else i)) H) (un2 minD) := CalL.two fun ρ σ B H x y d d' h Q S t u e k => by
  cases d <;> cases d' <;> first | (cases (show none = some h from e); done) | skip
  cases e
  rw [Tp.int t, Tp.int u]
  exact ⟨_, _, rfl, now S (.int _) k⟩
def strD : D → Option Hd
  | .int i => if i.natAbs.log2 < 1920 then some (.sh (.str (toString i))) else none
  | _ => none
/-- isinstance of a built-in type -/
def tyOf : D → String
  | .none => "NoneType"
  | .bool _ => "bool"
  | .int _ => "int"
  | .str _ => "str"
  | .list _ => "list"
  | .tuple _ => "tuple"
  | .dict ps => if xnB ps then "Exception" else "dict"
def isXn : D → Bool | .dict ps => xnB ps | _ => false
theorem tyX {B H : Hp} (s : SameT B H) {v : V} {d : D} (h : Tp K B H v d) (hx : isXn d = false) : TyX K H v (.type (tyOf d)) ∨ ∃ a w ep xs, v = .ref a ∧ H a = some (dX w a ep xs) ∧ tyOf d = "dict" := by
  cases d with
  | none => rw [h.non]; exact .inl (.base .non)
  | bool b => rw [h.bl]; exact .inl (.base (.bl b))
  | int i => rw [h.int]; exact .inl (.base (.int i))
  | str z => rw [h.str]; exact .inl (.base (.str z))
  | list ds =>
    obtain ⟨a, vs, rfl, ha, _⟩ := h
    rcases ha with (ha | ⟨o, ha⟩) | ⟨o, its, n, e, c, _⟩
    · exact .inl (.base (.lst ha))
    · exact .inl (.base (.frz ha))
    · exact .inl (.kList e c)
  | tuple ds =>
    obtain ⟨a, vs, rfl, ha, _⟩ := h.tup
    rcases same_tT s ha with (ha | ⟨o, ha⟩) | ⟨o, its, n, e, c, _⟩
    · exact .inl (.base (.tup ha))
    · exact .inl (.fTuple ha)
    · exact .inl (.kTuple e c)
  | dict ps =>
    have hx : xnB ps = false := hx
    have et : tyOf (.dict ps) = "dict" := by show (if xnB ps then "Exception" else "dict") = _; rw [hx]; rfl
    rcases h with ⟨a, ep, b, xs, rfl, ha, _⟩ | ⟨z, _⟩
    · exact .inr ⟨a, K.w, ep, xs, rfl, ha, et⟩
    · rw [hx] at z; cases z
end
theorem xcB_ok {K : PySem.W.Frag} {cls : Value} (h : xcB K cls = true) : ∃ D, cls = .ref D ∧ (PySem.W.clsIn K D).isSome = true ∧ PySem.W.findIn K (.ref D) "__getattribute__" = some (some (.builtin "BaseException.__getattribute__")) ∧ PySem.W.findIn K (.ref D) "__getattr__" = some none ∧
    PySem.W.subIn K (.ref D) (.type "BaseException") = some true ∧ PySem.W.hasDictIn K D = true ∧ PySem.W.findIn K (.ref D) "__class__" = some (some (.builtin "object.__class__")) ∧ PySem.W.specialIn K (.builtin "object.__class__") "__get__" = some (some (.builtin "getset_descriptor.__get__")) ∧
    PySem.W.takesIn K (.builtin "object.__class__") = some true ∧ PySem.W.mroIn K D (.type "object") = some true ∧ ∀ T ∈ ["tuple", "str", "bool", "int", "list", "dict"], PySem.W.kitOne K (.ref D) (.type T) = some false := by
  unfold xcB at h
  split at h
  · rename_i D
    simp only [Bool.and_eq_true, decide_eq_true_eq] at h
    obtain ⟨h1, h2, h3, h4, h5, h6, h7, h8, h9, h10⟩ := h
    exact ⟨D, rfl, h1, h2, h3, h4, h5, h6, h7, h8, h9, fun T hT => of_decide_eq_true (List.all_eq_true.mp h10 T hT)⟩
  · cases h
theorem exV_at {P : Program} {w : World} {H : Hp} {h : Heap} {a : Addr} {cls : Value} {d : Option Addr} (hok : HOk P w H h) (e : H a = some (exV a cls d)) : ∃ (oe : Obj) (vs : Array Value), h.get? a = some oe ∧ Zc cls d oe ∧ oe.data = .fields vs := by
  have x : ObjOk P w H h a (.ext fun h => ∃ (oe : Obj) (vs : Array Value), h.get? a = some oe ∧ Zc cls d oe ∧ oe.data = .fields vs) := hok a _ e
  exact x.1
theorem exV_inst {X : Cx} {pins : List (Addr × Obj)} {σ : St} {H : Hp} {s : Shared} {a D : Addr} {d : Option Addr} {fs : List (Str × V)} (I : Inv X pins σ H s) (e : H a = some (exV a (.ref D) d)) (x : XdB H d fs) :
    ∃ (oe : Obj) (od : Option Obj), PySem.W.InstAt s.heap a oe D od := by
  obtain ⟨oe, vs, ha, hz, hd⟩ := exV_at I.hok e
  rcases x with ⟨rfl, _⟩ | ⟨dd, rfl, ed⟩
  · exact ⟨oe, none, ha, hz.1, by unfold PySem.W.notCls; rw [hd] <;> rfl, by rw [hz.2]; trivial⟩
  · have hx : ObjOk X.prog X.w H s.heap dd (.xd fs) := I.hok dd _ ed
    obtain ⟨mA, hns, hr⟩ := hx
    obtain ⟨od, ho, hl⟩ := lookIn_ns hns
    exact ⟨oe, some od, ha, hz.1, by unfold PySem.W.notCls; rw [hd] <;> rfl, by rw [hz.2]; exact ho⟩
def rIsX (K : PySem.W.Frag) : List V → Hp → VK → Prop := fun xs H Q => ∃ (a : Addr) (c : V) (D : Addr) (d : Option Addr) (fs : List (Str × V)) (u : Value) (b : Bool), xs = [.ref a, c] ∧ ClsV c u ∧ H a = some (exV a (.ref D) d) ∧ XdB H d fs ∧ xcB K (.ref D) = true ∧ PySem.W.kitOne K (.ref D) u = some b ∧ Q (.bl b) H
theorem call_isX {X : Cx} : CallR X (.builtin "isinstance") (rIsX X.K) := by
  intro pins s σ H xs us Q I r h
  obtain ⟨a, c, D, d, fs, u, b, rfl, k, ea, xd, xb, e, q⟩ := h
  obtain ⟨u1, u2, rfl, r1, r2⟩ := vals2 r
  have e2 := k.eq r2
  subst e2
  obtain rfl : u1 = Value.ref a := r1
  obtain ⟨oe, od, J⟩ := exV_inst I ea xd
  obtain ⟨D', eD, h1, h2, h3, h4, h5, h6, h7, h8, h9, _⟩ := xcB_ok xb
  cases eD
  exact PySem.W.kia_one (PySem.W.kitx_exc h1 h2 h3 h4 h6 h7 h8 h9) I.kIn J e (fun z => nomatch z) fun tk => ⟨.bl b, H, I.tok tk, rfl, q⟩
/-- of a dict whose keys are tuples -/
def rIsD (K : PySem.W.Frag) : List V → Hp → VK → Prop := fun xs H Q => ∃ (a : Addr) (c : V) (w : World) (ep : Nat) (es : List (NestedKey × Value × Value)) (u : Value) (b : Bool), xs = [.ref a, c] ∧ ClsV c u ∧ H a = some (dX w a ep es) ∧ PySem.W.kitOne K (.type "dict") u = some b ∧ Q (.bl b) H
theorem call_isD {X : Cx} : CallR X (.builtin "isinstance") (rIsD X.K) := by
  rintro pins s σ H xs us Q I r ⟨a, c, w, ep, es, u, b, rfl, k, ea, e, q⟩
  obtain ⟨u1, u2, rfl, r1, r2⟩ := vals2 r
  obtain rfl := k.eq r2
  obtain rfl : u1 = Value.ref a := r1
  obtain ⟨⟨o, _, h1, h2, _⟩, _⟩ := I.hok a _ ea
  exact PySem.W.kia_one PySem.W.kitx_dict I.kIn ⟨o, h1, h2.1⟩ e (fun z => nomatch z) fun tk => ⟨.bl b, H, I.tok tk, rfl, q⟩
def rIsiA (K : PySem.W.Frag) : List V → Hp → VK → Prop := fun xs H Q => rIsi K xs H Q ∨ (rIsX K xs H Q ∨ rIsD K xs H Q)
theorem call_isiA {X : Cx} : CallR X (.builtin "isinstance") (rIsiA X.K) := by
  intro pins s σ H xs us Q I r h
  rcases h with h | h | h
  · exact call_isi pins s σ H xs us Q I r h
  · exact call_isX pins s σ H xs us Q I r h
  · exact call_isD pins s σ H xs us Q I r h
/-- what is kept of an exception's datum -/
theorem Tp.xn {K : KW} {B H : Hp} {v : V} {d : D} (h : Tp K B H v d) (s : SameT B H) (hp : K.pt = true → ∀ s g, d ≠ ptrD s g) (hx : isXn d = true) : ∃ (a : Addr) (c : Str) (dd : Option Addr) (fs : List (Str × V)) (ds : List D), v = .ref a ∧ d = xnD c (fs.map (·.1)) ds ∧ H a = some (exV a (cvK K c) dd) ∧ xcB K (cvK K c) = true ∧ XdB H dd fs ∧ RpL K B (fs.map (·.2)) ds := by
  cases d with
  | dict ps =>
    have hx : xnB ps = true := hx
    have no : ∀ {b xs}, RpX K B b xs ps → False := fun r => by
      cases r with
      | nil => cases hx
      | @cons _ _ _ _ _ _ _ kd _ _ h1 _ _ _ _ _ _ =>
        cases kd <;> first | (cases hx; done) | cases h1
    rcases h with ⟨_, _, _, _, _, _, r⟩ | ⟨_, h⟩
    · exact (no r).elim
    · cases h with
      | dct _ r => exact (no r).elim
      | ptr p _ => exact absurd rfl (hp p _ _)
      | exn h1 h2 h3 h4 => exact ⟨_, _, _, _, _, rfl, rfl, s.at h1 (fun _ _ z => by unfold exV at z; cases z), h2, h3.t s, h4⟩
  | _ => cases hx
section
variable {X : Cx} {C : Ct} {e : Expr} {te : TE} {fe : EF} {pos : Pos}
def eIsi (p : D → Bool) (f : EF) : EF := fun ρ => bindE (eSet f ρ) fun h ρ1 => match getH ρ1 h with
  | some d => .ok (.sh (.bool (p d))) ρ1
  | none => .stuck
theorem lk_isi (hpt : C.K.pt = false) {T : String} {p : D → Bool} (hp : ∀ d, kitB (tyOf d) T = some (p d)) (hT : T ∈ ["tuple", "str", "bool", "int", "list", "dict"]) (hTx : kitB "Exception" T = some false) (l : LkE C te fe) : LkE C (tCB (rIsiA C.K) (tCons te (tCons (tC (.ty T)) tNil))) (eIsi p fe) := fun ρ σ B H Q S g => by
  refine l.setBind S g fun hd ρ1 x B1 H1 S1 e1 y1 g1 => ?_
  split at g1
  · rename_i d ed
    cases hx : isXn d with
    | false =>
      rcases tyX S1.bh (S1.tp y1 ed) hx with ty | ⟨a, w, ep, es, rfl, ha, et⟩
      · refine .inl ⟨x, .ty T, _, _, _, rfl,   .ty T, ty, kit_ty (hp d), ?_⟩
        exact g1 _ B1 H1 S1 Ext.refl (.bl _)
      · refine .inr (.inr ⟨a, .ty T, w, ep, es, _, _, rfl, .ty T, ha, kit_ty (by have := hp d; rw [et] at this; exact this), ?_⟩)
        exact g1 _ B1 H1 S1 Ext.refl (.bl _)
    | true =>
      obtain ⟨a, c, dd, fs, ds, rfl, rfl, h1, h2, h3, h4⟩ := (S1.tp y1 ed).xn S1.bh (fun z => by rw [hpt] at z; cases z) hx
      obtain ⟨D, eD, _, _, _, _, _, _, _, _, _, hk⟩ := xcB_ok h2
      rw [eD] at h1 h2
      refine .inr (.inl ⟨a, .ty T, D, dd, fs, _, _, rfl, .ty T, h1, h3, h2, hk T hT, ?_⟩)
      have e : p (xnD c (fs.map (·.1)) ds) = false := by
        have z := hp (xnD c (fs.map (·.1)) ds)
        rw [show tyOf (xnD c (fs.map (·.1)) ds) = "Exception" from rfl, hTx] at z
        exact (Option.some.inj z).symm
      rw [e] at g1
      exact g1 _ B1 H1 S1 Ext.refl (.bl _)
  · exact g1.elim
theorem se_isi {x : Str} {T : String} {p : D → Bool} {q1 q2 : Pos} (hp : ∀ d, kitB (tyOf d) T = some (p d)) (hm : X.mg "isinstance" = none) (hmT : X.mg x = none) (l : SE X C e te fe) (hvT : bootBuiltins x = some (.type T) := by decide +kernel) (hT : T ∈ ["tuple", "str", "bool", "int", "list", "dict"] := by decide) (hTx : kitB "Exception" T = some false := by decide +kernel) (hk : X.K = C.K := by rfl) (hg : Gl X "isinstance" := by rfl) (hgT : Gl X x := by rfl)
    (hnT : x ≠ "__name__" := by decide) (hdT : (x == ("__debug__" : Str)) = false := by decide)
    (he : starEach (e :: [.Name x q2]) X.env = (false, eval e X.env) :: starEach [.Name x q2] X.env := by rfl) (hpt : C.K.pt = false := by first | rfl | assumption) :
    SE X C (.Call (.Name "isinstance" q1) [e, .Name x q2] [] pos) (tCB (rIsiA C.K) (tCons te (tCons (tC (.ty T)) tNil))) (eIsi p fe) :=
  ⟨by rw [← hk]; exact pe_callB call_isiA hg hm (by decide +kernel) (pa_cons l.pe (pa_cons (pe_bltn hgT hmT hvT rfl hnT hdT) pa_nil) he) (by decide) (by decide) he, lk_isi hpt hp hT hTx l.lk⟩
def isTup : D → Bool | .tuple _ => true | _ => false
def isStr : D → Bool | .str _ => true | _ => false
def isBool : D → Bool | .bool _ => true | _ => false
def isInt : D → Bool | .int _ => true | .bool _ => true | _ => false
theorem kit_tup : ∀ d, kitB (tyOf d) "tuple" = some (isTup d)
  | .none => by show kitB "NoneType" "tuple" = some false; decide +kernel
  | .tuple _ => by show kitB "tuple" "tuple" = some true; decide +kernel
  | .bool _ => by show kitB "bool" "tuple" = some false; decide +kernel
  | .int _ => by show kitB "int" "tuple" = some false; decide +kernel
  | .str _ => by show kitB "str" "tuple" = some false; decide +kernel
  | .list _ => by show kitB "list" "tuple" = some false; decide +kernel
  | .dict ps => by
    show kitB (if xnB ps then "Exception" else "dict") "tuple" = some false
    cases xnB ps <;> decide +kernel
theorem kit_str : ∀ d, kitB (tyOf d) "str" = some (isStr d)
  | .none => by show kitB "NoneType" "str" = some false; decide +kernel
  | .tuple _ => by show kitB "tuple" "str" = some false; decide +kernel
  | .bool _ => by show kitB "bool" "str" = some false; decide +kernel
  | .int _ => by show kitB "int" "str" = some false; decide +kernel
  | .str _ => by show kitB "str" "str" = some true; decide +kernel
  | .list _ => by show kitB "list" "str" = some false; decide +kernel
  | .dict ps => by
    show kitB (if xnB ps then "Exception" else "dict") "str" = some false
    cases xnB ps <;> decide +kernel
theorem kit_bool : ∀ d, kitB (tyOf d) "bool" = some (isBool d)
  | .none => by show kitB "NoneType" "bool" = some false; decide +kernel
  | .tuple _ => by show kitB "tuple" "bool" = some false; decide +kernel
  | .bool _ => by show kitB "bool" "bool" = some true; decide +kernel
  | .int _ => by show kitB "int" "bool" = some false; decide +kernel
  | .str _ => by show kitB "str" "bool" = some false; decide +kernel
  | .list _ => by show kitB "list" "bool" = some false; decide +kernel
  | .dict ps => by
    show kitB (if xnB ps then "Exception" else "dict") "bool" = some false
    cases xnB ps <;> decide +kernel
theorem kit_int : ∀ d, kitB (tyOf d) "int" = some (isInt d)
  | .none => by show kitB "NoneType" "int" = some false; decide +kernel
  | .tuple _ => by show kitB "tuple" "int" = some false; decide +kernel
  | .bool _ => by show kitB "bool" "int" = some true; decide +kernel
  | .int _ => by show kitB "int" "int" = some true; decide +kernel
  | .str _ => by show kitB "str" "int" = some false; decide +kernel
  | .list _ => by show kitB "list" "int" = some false; decide +kernel
  | .dict ps => by
    show kitB (if xnB ps then "Exception" else "dict") "int" = some false
    cases xnB ps <;> decide +kernel
end
end GS
namespace GS
open PySem L2
/-- what a def does: of its parameters' cells what comes back, and the lent cell behind -/
abbrev FF := Rho → RE
def spF (K : KW) (cv : Str → Value) (n : Nat) (F : FF) : Sp := fun vs H Q E => ∃ ρ B, (vs.length = n ∧ ρ.length = n) ∧ Sim K ρ (vs.map some) B H ∧
  GoodE ⟨K, cv, fun cls d _ H' => E cls d H'⟩ ρ (vs.map some) B H Q (F ρ)
def argC (ρ : Rho) (io : Bool) : Hd → Option Cel
  | .sh d => if io then none else some ⟨d, .sh⟩
  | .bw i => if io then (match slot ρ i with
    | some ⟨d, .ow⟩ => some ⟨d, .io⟩
    | some ⟨d, .io⟩ => some ⟨d, .io⟩
    | _ => none) else none
  | .fr _ => none
  | .sp _ _ => none
/-- the callee's cells; io: the place of the lent argument -/
def args (ρ : Rho) (io : Option Nat) : Nat → List Hd → Option Rho
  | _, [] => some []
  | k, h :: hs => match argC ρ (decide (io = some k)) h, args ρ io (k + 1) hs with
    | some c, some r => some (some c :: r)
    | _, _ => none
def putB (ρ : Rho) (io : Option Nat) (hs : List Hd) (outs : Rho) : Option Rho := match io with
  | none => some ρ
  | some j => match hs[j]? with
    | some (.bw i) => match slot ρ i, slot outs j with
      | some c, some c' => some (ρ.set i (some ⟨c'.d, c.fl⟩))
      | _, _ => none
    | _ => none
def eCall (n : Nat) (io : Option Nat) (F : FF) (fs : AF) : EF := fun ρ => bindA (fs ρ) fun hs ρ1 => match args ρ1 io 0 hs with
  | none => .stuck
  | some ρ0 => if ρ0.length ≠ n then .stuck else match F ρ0 with
    | .stuck => .stuck
    | .ok h outs => match h, putB ρ1 io hs outs with
      | .bw _, _ => .stuck
      | .sp _ _, _ => .stuck
      | _, none => .stuck
      | _, some ρ2 => .ok h ρ2
    | .exc x outs => match putB ρ1 io hs outs with
      | none => .stuck
      | some ρ2 => .exc x ρ2
theorem argC_sh {ρ : Rho} {b : Bool} {d : D} {c : Cel} (h : argC ρ b (.sh d) = some c) : b = false ∧ c = ⟨d, .sh⟩ := by
  cases b
  · cases h; exact ⟨rfl, rfl⟩
  · cases h
theorem argC_bw {ρ : Rho} {b : Bool} {i : Nat} {c : Cel} (h : argC ρ b (.bw i) = some c) : b = true ∧ ∃ d fl, ρ[i]? = some (some ⟨d, fl⟩) ∧ fl ≠ .sh ∧ fl ≠ .st ∧ c = ⟨d, .io⟩ := by
  cases b
  · cases h
  · refine ⟨rfl, ?_⟩
    replace h : (match slot ρ i with | some ⟨d, .ow⟩ => some ⟨d, .io⟩ | some ⟨d, .io⟩ => some ⟨d, .io⟩ | _ => none) = some c := h
    split at h
    · rename_i d es
      cases h
      exact ⟨d, .ow, slot_some es, by simp, by simp, rfl⟩
    · rename_i d es
      cases h
      exact ⟨d, .io, slot_some es, by simp, by simp, rfl⟩
    · cases h
theorem args_at {ρ : Rho} {io : Option Nat} : ∀ {k : Nat} {hs : List Hd} {r : Rho}, args ρ io k hs = some r → r.length = hs.length ∧ ∀ (j : Nat) (c : Cel), r[j]? = some (some c) → ∃ h, hs[j]? = some h ∧ argC ρ (decide (io = some (k + j))) h = some c
  | _, [], _, e => by cases e; exact ⟨rfl, fun j c h => by simp at h⟩
  | k, h :: hs, r, e => by
    unfold args at e
    split at e
    · rename_i c r' e1 e2
      cases e
      obtain ⟨l, q⟩ := args_at e2
      refine ⟨by rw [List.length_cons, List.length_cons, l], fun j c' hj => ?_⟩
      cases j with
      | zero => simp at hj; subst hj; exact ⟨h, rfl, e1⟩
      | succ j =>
        obtain ⟨h', q1, q2⟩ := q j c' (by simpa using hj)
        exact ⟨h', by simpa using q1, by rw [show k + (j + 1) = k + 1 + j by omega]; exact q2⟩
    · cases e
theorem args_has {ρ : Rho} {io : Option Nat} : ∀ {k : Nat} {hs : List Hd} {r : Rho} {j : Nat} {h : Hd}, args ρ io k hs = some r → hs[j]? = some h → ∃ c, r[j]? = some (some c)
  | _, [], _, _, _, _, h => by simp at h
  | k, h :: hs, r, j, h', e, hj => by
    unfold args at e
    split at e
    · rename_i c r' e1 e2
      cases e
      cases j with
      | zero => exact ⟨c, rfl⟩
      | succ j =>
        obtain ⟨c', q⟩ := args_has (j := j) e2 (by simpa using hj)
        exact ⟨c', by simpa using q⟩
    · cases e
theorem HdL.get {K : KW} {σ : St} {B : Hp} : ∀ {vs : List V} {hs : List Hd} {j : Nat} {h : Hd}, HdL K σ B vs hs → hs[j]? = some h → ∃ v, vs[j]? = some v ∧ HsOk K σ B v h
  | _, _, _, _, .nil, e => by simp at e
  | _, _, 0, _, .cons h _, e => by simp at e; subst e; exact ⟨_, rfl, h⟩
  | _, _, j + 1, h, .cons _ t, e => by
    obtain ⟨v, q1, q2⟩ := HdL.get (j := j) (h := h) t (by simpa using e)
    exact ⟨v, by simpa using q1, q2⟩
section
variable {K : KW} {ρ ρ0 ρ0' ρ2 : Rho} {σ : St} {B H B' H' : Hp} {io : Option Nat} {hs : List Hd} {vs : List V}
/-- the callee's cell j that is lent is the caller's slot i -/
theorem args_own (e : args ρ io 0 hs = some ρ0) {j : Nat} {c : Cel} (hc : ρ0[j]? = some (some c)) (nf : c.fl ≠ .sh) : io = some j ∧ ∃ i d fl, hs[j]? = some (.bw i) ∧ ρ[i]? = some (some ⟨d, fl⟩) ∧ fl ≠ .sh ∧ fl ≠ .st ∧ c = ⟨d, .io⟩ := by
  obtain ⟨_, q⟩ := args_at e
  obtain ⟨h, h1, h2⟩ := q j c hc
  rw [Nat.zero_add] at h2
  cases h with
  | sh d =>
    obtain ⟨_, rfl⟩ := argC_sh h2
    exact absurd rfl nf
  | fr d => cases h2
  | sp _ _ => cases h2
  | bw i =>
    obtain ⟨b, d, fl, q1, q2, q3, q4⟩ := argC_bw h2
    exact ⟨of_decide_eq_true b, i, d, fl, h1, q1, q2, q3, q4⟩
theorem args_nst (e : args ρ io 0 hs = some ρ0) (i : Nat) (d : D) : ρ0[i]? ≠ some (some (Cel.mk d .st)) := fun h => by
  obtain ⟨_, _, _, _, _, _, _, _, z⟩ := args_own e h (by simp)
  cases z
theorem args_sim (S : Sim K ρ σ B H) (y : HdL K σ B vs hs) (e : args ρ io 0 hs = some ρ0) : Sim K ρ0 (vs.map some) B H := by
  obtain ⟨l, q⟩ := args_at e
  have ll : ρ0.length = (vs.map some).length := by rw [l, List.length_map, y.length]
  refine ⟨S.bh, ⟨by omega, fun i h1 h2 => by omega⟩, fun j c hj _ => ?_, fun i j ci cj a hi hj ni nj _ _ => ?_, ⟨fun i d h => absurd h (args_nst e i d), S.st.id'⟩⟩
  · obtain ⟨h, h1, h2⟩ := q j c hj
    obtain ⟨v, hv, ok⟩ := y.get h1
    refine ⟨v, by rw [List.getElem?_map, hv]; rfl, ?_⟩
    by_cases nf : c.fl = .sh
    · refine .inl ⟨nf, ?_⟩
      cases h with
      | sh d =>
        obtain ⟨_, rfl⟩ := argC_sh h2
        exact ok
      | fr d => cases h2
      | sp _ _ => cases h2
      | bw i =>
        obtain ⟨_, d, fl, _, _, _, rfl⟩ := argC_bw h2
        cases nf
    · obtain ⟨_, i, d, fl, h3, h4, h5, hst, rfl⟩ := args_own e hj nf
      rw [h1] at h3
      cases h3
      obtain ⟨v', e1, cok⟩ := S.sl i _ h4 hst
      have ok' : σ[i]? = some (some v) := ok
      rw [ok'] at e1
      cases e1
      rcases cok with ⟨z, _⟩ | ⟨_, z⟩
      · exact absurd z h5
      · exact .inr ⟨by simp, z⟩
  · obtain ⟨e1, _⟩ := args_own e hi ni
    obtain ⟨e2, _⟩ := args_own e hj nj
    rw [e1] at e2
    cases e2
    rfl
theorem args_ownA (y : HdL K σ B vs hs) (e : args ρ io 0 hs = some ρ0) {a : Addr} (h : OwnA ρ0 (vs.map some) a) : OwnA ρ σ a := by
  obtain ⟨j, c, h1, h2, h3⟩ := h
  obtain ⟨_, i, d, fl, q1, q2, q3, _, _⟩ := args_own e h1 h2
  obtain ⟨v, hv, ok⟩ := y.get q1
  rw [List.getElem?_map, hv] at h3
  cases h3
  exact ⟨i, _, q2, q3, ok⟩
/-- behind the call -/
theorem back_sim (S : Sim K ρ σ B H) (y : HdL K σ B vs hs) (e : args ρ io 0 hs = some ρ0) (S' : Sim K ρ0' (vs.map some) B' H') (x : Ext ρ0 (vs.map some) B H ρ0' (vs.map some) B' H') (p : putB ρ io hs ρ0' = some ρ2) :
    Sim K ρ2 σ B' H' ∧ Ext ρ σ B H ρ2 σ B' H' ∧ (∀ a, New ρ0 (vs.map some) H a → New ρ σ H a) ∧ ∀ a, ¬ OwnA ρ0' (vs.map some) a → New ρ0 (vs.map some) H a → ¬ OwnA ρ2 σ a := by
  -- a slot of the caller that is not lent
  have sub0 : ∀ a, OwnA ρ0 (vs.map some) a → OwnA ρ σ a := fun a h => args_ownA y e h
  have newN : ∀ a, New ρ0 (vs.map some) H a → New ρ σ H a := fun a h => h.elim .inl fun h => .inr (sub0 a h)
  -- what ρ2 is
  have key : (∀ (k : Nat) (c : Cel), ρ2[k]? = some (some c) → (ρ[k]? = some (some c) ∧ ∀ j, io = some j → hs[j]? ≠ some (.bw k)) ∨ ∃ j c0 c', io = some j ∧ hs[j]? = some (.bw k) ∧ ρ[k]? = some (some c0) ∧ ρ0'[j]? = some (some c') ∧ c = ⟨c'.d, c0.fl⟩) ∧
      ρ2.length = ρ.length ∧ (∀ (k : Nat) (c : Cel), ρ[k]? = some (some c) → ∃ c2, ρ2[k]? = some (some c2) ∧ c2.fl = c.fl) := by
    unfold putB at p
    split at p
    · cases p
      exact ⟨fun k c h => .inl ⟨h, fun j z => nomatch z⟩, rfl, fun k c h => ⟨c, h, rfl⟩⟩
    · rename_i j
      split at p
      · rename_i i hi
        split at p
        · rename_i c0 c' e1 e2
          cases p
          have e1 := slot_some e1
          have e2 := slot_some e2
          refine ⟨fun k c h => ?_, by rw [List.length_set], fun k c h => ?_⟩
          · rcases set_get h with ⟨rfl, ec⟩ | ⟨ne, h⟩
            · cases ec
              exact .inr ⟨j, c0, c', rfl, hi, e1, e2, rfl⟩
            · refine .inl ⟨h, fun j' z w => ?_⟩
              cases z
              rw [hi] at w
              cases w
              exact ne rfl
          · by_cases hk : i = k
            · subst hk
              rw [e1] at h
              cases h
              exact ⟨_, set_at (lt_of e1), rfl⟩
            · exact ⟨c, by rw [set_other hk]; exact h, rfl⟩
        · cases p
      · cases p
  obtain ⟨k1, k2, k3⟩ := key
  -- an owned slot that is not lent keeps its object
  have keep : ∀ (k : Nat) (c : Cel) (a : Addr), ρ[k]? = some (some c) → c.fl ≠ .sh → σ[k]? = some (some (.ref a)) → (∀ j, io = some j → hs[j]? ≠ some (.bw k)) → ¬ OwnA ρ0 (vs.map some) a := fun k c a hk hf hs' hn ho => by
    obtain ⟨j, c0, h1, h2, h3⟩ := ho
    obtain ⟨q0, i, d, fl, q1, q2, q3, _, _⟩ := args_own e h1 h2
    obtain ⟨v, hv, ok⟩ := y.get q1
    rw [List.getElem?_map, hv] at h3
    cases h3
    have := S.dj i k _ c a q2 hk q3 hf ok hs'
    subst this
    exact hn j q0 q1
  have ownBack : ∀ a, OwnA ρ2 σ a → OwnA ρ σ a := fun a ⟨k, c, h1, h2, h3⟩ => by
    rcases k1 k c h1 with ⟨h, _⟩ | ⟨j, c0, c', _, _, h, _, rfl⟩
    · exact ⟨k, c, h, h2, h3⟩
    · exact ⟨k, c0, h, h2, h3⟩
  have noT : ∀ a, ¬ TokA ρ0 B a := fun a ⟨i, s, μ, g, c, q, _⟩ => args_nst e i _ q
  have tkB : ∀ a s g, B' a = some (.met s g) → B a = some (.met s g) := fun a s g q => (x.tx.tn a s g q).elim (fun h => h) fun ⟨i, μ, h⟩ => absurd h (args_nst e i _)
  have lentS : ∀ (j k : Nat), hs[j]? = some (.bw k) → io = some j → ∀ d, ρ[k]? ≠ some (some (Cel.mk d .st)) := fun j k q1 hj d h => by
    obtain ⟨cs, hcs⟩ := args_has e q1
    obtain ⟨_, qq⟩ := args_at e
    obtain ⟨h', w1, w2⟩ := qq j cs hcs
    rw [q1] at w1
    cases w1
    obtain ⟨_, d', fl, r1, _, r3, _⟩ := argC_bw w2
    rw [h] at r1
    cases r1
    exact r3 rfl
  have stB : ∀ (k : Nat) (d : D), ρ2[k]? = some (some (Cel.mk d .st)) → ρ[k]? = some (some (Cel.mk d .st)) := fun k d q => by
    rcases k1 k _ q with ⟨h, _⟩ | ⟨j, c0, c', hj, q1, h, q2, z⟩
    · exact h
    · obtain ⟨d0, f0⟩ := c0
      cases z
      exact absurd h (lentS j k q1 hj d0)
  have tkH : ∀ a s g, B a = some (.met s g) → H' a = H a := fun a s g q => by
    obtain ⟨u, hu⟩ := S.bh.there q
    have no : ¬ OwnA ρ0 (vs.map some) a := fun z => by
      have := (S.ownH (sub0 a z)).1
      rw [q] at this; cases this
    rw [hu]
    exact x.keepT hu no (noT a)
  refine ⟨⟨S'.bh, ⟨by rw [k2]; exact S.len.le, fun k h1 h2 => ?_⟩, fun k c hk hs => ?_, fun i j ci cj a hi hj ni nj ei ej => ?_, S.st.keep x.bb tkB tkH stB rfl⟩, ⟨x.bb, fun a o h => (x.nw a o h).imp id (newN a), fun a o h n => .inl (x.keepT h (fun z => n (sub0 a z)) (noT a)), fun a h => .inr (ownBack a h), fun k c hk hf => ?_, fun k c hk hf => ?_, .of stB tkB⟩, newN, fun a n1 n2 ho => ?_⟩
  · obtain ⟨d, q⟩ := S.len.ex k h1 (by rw [← k2]; exact h2)
    obtain ⟨c2, q2, q3⟩ := k3 k _ q
    obtain ⟨d2, f2⟩ := c2
    cases q3
    exact ⟨d2, q2⟩
  · rcases k1 k c hk with ⟨h, hn⟩ | ⟨j, c0, c', hj, q1, h, q2, rfl⟩
    · obtain ⟨v, ev, ok⟩ := S.sl k c h hs
      refine ⟨v, ev, ok.mono x.bb fun a hv hb ho hf => ?_⟩
      subst hv
      obtain ⟨o, eo⟩ := ho
      obtain ⟨r1, r2, _⟩ := x.keepN eo hb (keep k c a h hf ev hn)
      exact ⟨r2, by rw [r1, eo]⟩
    · obtain ⟨v, ev, ok⟩ := y.get q1
      have ok' : σ[k]? = some (some v) := ok
      refine ⟨v, ok', ?_⟩
      -- the lent cell is lent at the start, so it is behind
      obtain ⟨cs, hcs⟩ := args_has e q1
      by_cases hsh : cs.fl = .sh
      · exfalso
        obtain ⟨_, qq⟩ := args_at e
        obtain ⟨h', w1, w2⟩ := qq j cs hcs
        rw [q1] at w1
        cases w1
        obtain ⟨_, d, fl, _, _, _, rfl⟩ := argC_bw w2
        cases hsh
      · obtain ⟨_, i, d, fl, r1, r2, r3, r4, rfl⟩ := args_own e hcs hsh
        rw [q1] at r1
        cases r1
        rw [h] at r2
        cases r2
        obtain ⟨_, c2, w1, w2⟩ := x.io j _ hcs rfl
        rw [q2] at w1
        cases w1
        obtain ⟨v', e1, cok⟩ := S'.sl j c' q2 (by rw [w2]; simp)
        rw [List.getElem?_map, ev] at e1
        cases e1
        rcases cok with ⟨z, _⟩ | ⟨_, z⟩
        · rw [w2] at z; cases z
        · exact .inr ⟨r3, z⟩
  · have f1 : ∃ c1, ρ[i]? = some (some c1) ∧ c1.fl ≠ .sh := by
      rcases k1 i ci hi with ⟨h, _⟩ | ⟨_, c0, _, _, _, h, _, rfl⟩
      · exact ⟨ci, h, ni⟩
      · exact ⟨c0, h, ni⟩
    have f2 : ∃ c1, ρ[j]? = some (some c1) ∧ c1.fl ≠ .sh := by
      rcases k1 j cj hj with ⟨h, _⟩ | ⟨_, c0, _, _, _, h, _, rfl⟩
      · exact ⟨cj, h, nj⟩
      · exact ⟨c0, h, nj⟩
    obtain ⟨c1, a1, a2⟩ := f1
    obtain ⟨c2, b1, b2⟩ := f2
    exact S.dj i j c1 c2 a a1 b1 a2 b2 ei ej
  · obtain ⟨c2, h1, h2⟩ := k3 k c hk
    exact ⟨rfl, c2, h1, by rw [h2, hf]⟩
  · rcases k1 k c hk with ⟨h, _⟩ | ⟨_, c0, _, _, _, h, _, rfl⟩
    · exact ⟨c, h, hf⟩
    · exact ⟨c0, h, hf⟩
  · obtain ⟨k, c, h1, h2, h3⟩ := ho
    rcases k1 k c h1 with ⟨h, hn⟩ | ⟨j, c0, c', hj, q1, h, q2, rfl⟩
    · have n0 := keep k c a h h2 h3 hn
      have := S.ownH ⟨k, c, h, h2, h3⟩
      obtain ⟨_, o, eo⟩ := this
      rcases n2 with z | z
      · rw [eo] at z; cases z
      · exact n0 z
    · obtain ⟨v, ev, ok⟩ := y.get q1
      have ok' : σ[k]? = some (some v) := ok
      rw [h3] at ok'
      cases ok'
      obtain ⟨cs, hcs⟩ := args_has e q1
      by_cases hsh : cs.fl = .sh
      · obtain ⟨_, qq⟩ := args_at e
        obtain ⟨h', w1, w2⟩ := qq j cs hcs
        rw [q1] at w1
        cases w1
        obtain ⟨_, d, fl, _, _, _, rfl⟩ := argC_bw w2
        cases hsh
      · obtain ⟨_, i, d, fl, r1, r2, r3, r4, rfl⟩ := args_own e hcs hsh
        obtain ⟨_, c2, w1, w2⟩ := x.io j _ hcs rfl
        rw [q2] at w1
        cases w1
        exact n1 ⟨j, c', q2, by rw [w2]; simp, by rw [List.getElem?_map, ev]; rfl⟩
end
section
variable {X : Cx} {C : Ct} {e : Expr} {es : List Expr} {pos p : Pos} {x : Str} {k n : Nat} {f : Addr} {fd : FuncData} {ps : List Str} {io : Option Nat} {F : FF} {t : TA} {g : AF}
theorem lk_call (l : LkA C t g) : LkE C (tCallS (spF C.K C.cv n F) (WE C.W) t) (eCall n io F g) := fun ρ σ B H Q S gd => by
  refine l.bind S gd fun hs ρ1 vs B1 H1 S1 x1 y1 g1 => ?_
  split at g1
  · exact g1.elim
  · rename_i ρ0 ea
    split at g1
    · exact g1.elim
    · rename_i hl
      have hl : ρ0.length = n := Classical.not_not.mp hl
      refine ⟨ρ0, B1, ⟨by rw [y1.length, ← (args_at ea).1]; exact hl, hl⟩, args_sim S1 y1 ea, ?_⟩
      cases ef : F ρ0 with
      | stuck => rw [ef] at g1; exact g1
      | exc c outs =>
        rw [ef] at g1
        dsimp only at g1
        split at g1
        · exact g1.elim
        · rename_i ρ2 ep
          intro cls dct B2 H2 S2 x2 ok
          obtain ⟨S3, x3, _, _⟩ := back_sim S1 y1 ea S2 x2 ep
          exact g1 cls dct B2 H2 S3 x3 ok
      | ok h outs =>
        rw [ef] at g1
        dsimp only at g1
        intro v B2 H2 S2 x2 y2
        cases ep : putB ρ1 io hs outs with
        | none => rw [ep] at g1; cases h <;> exact g1.elim
        | some ρ2 =>
          rw [ep] at g1
          obtain ⟨S3, x3, n1, n2⟩ := back_sim S1 y1 ea S2 x2 ep
          cases h with
          | sh d => exact g1 v B2 H2 S3 x3 y2
          | fr d =>
            obtain ⟨a, r1, r2, r3, r4, r5⟩ := y2
            exact g1 v B2 H2 S3 x3 ⟨a, r1, r2, r3, n2 a r4 r5, n1 a r5⟩
          | bw i => exact g1.elim
          | sp _ _ => exact g1.elim
theorem se_call (FO : FnOk X.prog X.w X.K X.mg X.base (L2.CX X.prog X.w) k f fd ps (spF C.K C.cv n F)) (hr : Room k X.A) (hm : X.mg x = some (.ref f)) (hkp : PySem.W.keepIn X.K (.ref f) = true) (hb : Binds X.K fd ps []) (tk : Takes X C.W)
    (l : SA X C (e :: es) t g) (io : Option Nat) (hg : Gl X x := by rfl) (hdb : (x == ("__debug__" : Str)) = false := by decide) (he : starEach (e :: es) X.env = (false, eval e X.env) :: starEach es X.env := by rfl)
    (hpl : (backTo pos (starEach es X.env)).any (·.1) = false := by rfl) : SE X C (.Call (.Name x p) (e :: es) [] pos) (tCallS (spF C.K C.cv n F) (WE C.W) t) (eCall n io F g) :=
  ⟨pe_callS FO hr hg hm hkp hb (fun σ => passAt tk σ) l.pa hdb he hpl, lk_call l.lk⟩
end
end GS
namespace GS
open PySem L2
def GoodS (C : Ct) (ρ : Rho) (σ : St) (B H : Hp) (D : Ends) : RS → Prop
  | .stuck => False
  | .nx ρ' => ∀ σ' B' H', Sim C.K ρ' σ' B' H' → Ext ρ σ B H ρ' σ' B' H' → D.nx σ' H'
  | .bk ρ' => ∀ σ' B' H', Sim C.K ρ' σ' B' H' → Ext ρ σ B H ρ' σ' B' H' → D.bk σ' H'
  | .ct ρ' => ∀ σ' B' H', Sim C.K ρ' σ' B' H' → Ext ρ σ B H ρ' σ' B' H' → D.ct σ' H'
  | .rt h ρ' => ∀ v σ' B' H', Sim C.K ρ' σ' B' H' → Ext ρ σ B H ρ' σ' B' H' → HdOk C.K (New ρ σ H) ρ' σ' B' H' v h → D.rt v H'
  | .exc x ρ' => ∀ cls dct σ' B' H', Sim C.K ρ' σ' B' H' → Ext ρ σ B H ρ' σ' B' H' → XcOk C B' x cls dct → C.W cls dct σ' H'
def LkS (C : Ct) (t : TS) (g : SF) : Prop := ∀ ρ σ B H D, Sim C.K ρ σ B H → GoodS C ρ σ B H D (g ρ) → t D σ H
structure SS (X : Cx) (C : Ct) (st : Stmt) (t : TS) (g : SF) : Prop where
  ps : PS X st t
  lk : LkS C t g
structure SSs (X : Cx) (C : Ct) (st : List Stmt) (t : TS) (g : SF) : Prop where
  ps : PSs X st t
  lk : LkS C t g
section
variable {X : Cx} {C : Ct} {ρ ρ1 : Rho} {σ σ1 : St} {B H B1 H1 : Hp} {Ed : Ends} {t u : TS} {f g : SF} {st : Stmt} {rest : List Stmt} {pos : Pos}
theorem GoodS.ext (e : Ext ρ σ B H ρ1 σ1 B1 H1) : ∀ {r : RS}, GoodS C ρ σ B H Ed r → GoodS C ρ1 σ1 B1 H1 Ed r
  | .stuck, h => h
  | .nx _, h => fun σ' B' H' s x => h σ' B' H' s (e.trans x)
  | .bk _, h => fun σ' B' H' s x => h σ' B' H' s (e.trans x)
  | .ct _, h => fun σ' B' H' s x => h σ' B' H' s (e.trans x)
  | .rt _ _, h => fun v σ' B' H' s x y => h v σ' B' H' s (e.trans x) (y.mono fun _ z => e.back z)
  | .exc _ _, h => fun c d σ' B' H' s x => h c d σ' B' H' s (e.trans x)
def sNil : SF := fun ρ => .nx ρ
def bindS (r : RS) (k : Rho → RS) : RS := match r with
  | .nx ρ => k ρ
  | r => r
def sSeq (f g : SF) : SF := fun ρ => bindS (f ρ) g
theorem lk_seq (lf : LkS C t f) (lg : LkS C u g) : LkS C (tSeq t u) (sSeq f g) := fun ρ σ B H D S gd => by
  refine lf ρ σ B H _ S ?_
  unfold sSeq bindS at gd
  cases e : f ρ with
  | nx ρ1 =>
    rw [e] at gd
    exact fun σ' B' H' s x => lg ρ1 σ' B' H' D s (GoodS.ext x gd)
  | stuck => rw [e] at gd; exact gd
  | bk _ => rw [e] at gd; exact gd
  | ct _ => rw [e] at gd; exact gd
  | rt _ _ => rw [e] at gd; exact gd
  | exc _ _ => rw [e] at gd; exact gd
theorem sss_nil : SSs X C [] tNext sNil := ⟨pss_nil, fun ρ σ B H D S g => g σ B H S Ext.refl⟩
theorem sss_cons (a : SS X C st t f) (b : SSs X C rest u g) : SSs X C (st :: rest) (tSeq t u) (sSeq f g) := ⟨pss_cons a.ps b.ps, lk_seq a.lk b.lk⟩
theorem sss_one (a : SS X C st t f) : SSs X C [st] t f := ⟨pss_one a.ps, a.lk⟩
def bindES (r : RE) (k : Hd → Rho → RS) : RS := match r with
  | .stuck => .stuck
  | .ok h ρ => k h ρ
  | .exc x ρ => .exc x ρ
theorem LkE.bindS {te : TE} {fe : EF} (l : LkE C te fe) (S : Sim C.K ρ σ B H) {k : Hd → Rho → RS} {Q' : VK} (g : GoodS C ρ σ B H Ed (bindES (fe ρ) k))
    (h : ∀ hd ρ1 v B1 H1, Sim C.K ρ1 σ B1 H1 → Ext ρ σ B H ρ1 σ B1 H1 → HdOk C.K (New ρ σ H) ρ1 σ B1 H1 v hd → GoodS C ρ σ B H Ed (k hd ρ1) → Q' v H1) : te σ H Q' := by
  refine l ρ σ B H Q' S ?_
  cases e : fe ρ with
  | stuck => rw [e] at g; exact g
  | ok hd ρ1 => rw [e] at g; exact fun v B1 H1 s x y => h hd ρ1 v B1 H1 s x y g
  | exc x ρ1 => rw [e] at g; exact fun c d B' H' s x => g c d σ B' H' s x
variable {e : Expr} {te : TE} {fe : EF}
def sRet (fe : EF) : SF := fun ρ => bindES (fe ρ) fun h ρ1 => match h with
  | .bw i => match capH ρ1 (.bw i) with
    | some d => .rt (.sh d) ρ1
    | none => .stuck
  | .sp _ _ => .stuck
  | h => .rt h ρ1
theorem cap_bw (S : Sim C.K ρ σ B H) {i : Nat} {d : D} {v : V} (y : σ[i]? = some (some v)) (e : capH ρ (.bw i) = some d) : Rp C.K B v d := by
  replace e : (match slot ρ i with | some ⟨d, .sh⟩ => some d | _ => none) = some d := e
  split at e
  · rename_i d' e'
    cases e
    obtain ⟨v', q1, q2⟩ := S.sl i _ (slot_some e') (by simp)
    rw [y] at q1
    cases q1
    rcases q2 with ⟨_, q2⟩ | ⟨q, _⟩
    · exact q2
    · exact absurd rfl q
  · cases e
theorem ss_ret (l : SE X C e te fe) : SS X C (.Return (some e) pos) (tRet te) (sRet fe) := ⟨ps_ret l.pe, fun ρ σ B H D S g => by
  refine l.lk.bindS S g fun hd ρ1 v B1 H1 S1 x1 y1 g1 => ?_
  cases hd with
  | sh d => exact g1 v σ B1 H1 S1 x1 y1
  | fr d => exact g1 v σ B1 H1 S1 x1 y1
  | bw i =>
    dsimp only at g1
    split at g1
    · rename_i d ed
      exact g1 v σ B1 H1 S1 x1 (cap_bw S1 y1 ed)
    · exact g1.elim
  | sp _ _ => exact g1.elim⟩
def bindBS (r : RE) (k : Bool → Rho → RS) : RS := match r with
  | .ok (.sh (.bool b)) ρ => k b ρ
  | .exc x ρ => .exc x ρ
  | _ => .stuck
theorem LkT.bindS {tt : TT} {ft : EF} (l : LkT C tt ft) (S : Sim C.K ρ σ B H) {k : Bool → Rho → RS} {Q' : Bool → Hp → Prop} (g : GoodS C ρ σ B H Ed (bindBS (ft ρ) k))
    (h : ∀ b ρ1 B1 H1, Sim C.K ρ1 σ B1 H1 → Ext ρ σ B H ρ1 σ B1 H1 → GoodS C ρ1 σ B1 H1 Ed (k b ρ1) → Q' b H1) : tt σ H Q' := by
  refine l ρ σ B H Q' S ?_
  cases e : ft ρ with
  | stuck => rw [e] at g; exact g
  | exc x ρ1 => rw [e] at g; exact fun c d B' H' s x => g c d σ B' H' s x
  | ok hd ρ1 =>
    rw [e] at g
    cases hd with
    | sh d =>
      cases d with
      | bool b => exact fun B1 H1 s x => h b ρ1 B1 H1 s x (GoodS.ext x g)
      | _ => exact g
    | _ => exact g
def sIf (ft : EF) (f g : SF) : SF := fun ρ => bindBS (ft ρ) fun b ρ1 => if b then f ρ1 else g ρ1
theorem ss_if {c : Expr} {a b : List Stmt} {tt : TT} {ft : EF} (l : ST X C c tt ft) (la : SSs X C a t f) (lb : SSs X C b u g) : SS X C (.If c a b pos) (tIfS tt t u) (sIf ft f g) := ⟨ps_if l.pt la.ps lb.ps, fun ρ σ B H D S gd =>
  l.lk.bindS S gd fun b ρ1 B1 H1 S1 x1 g1 => by
    cases b with
    | true => exact la.lk ρ1 σ B1 H1 D S1 g1
    | false => exact lb.lk ρ1 σ B1 H1 D S1 g1⟩
def ioAt (ρ : Rho) (i : Nat) : Bool := match slot ρ i with
  | some ⟨_, .io⟩ => true
  | some ⟨_, .st⟩ => true
  | _ => false
theorem not_io {i : Nat} (h : ioAt ρ i = false) {c : Cel} (e : ρ[i]? = some (some c)) : c.fl ≠ .io := fun z => by
  unfold ioAt slot at h
  rw [e] at h
  obtain ⟨d, fl⟩ := c
  cases z
  cases h
theorem not_st {i : Nat} (h : ioAt ρ i = false) (d : D) : ρ[i]? ≠ some (some (Cel.mk d .st)) := fun e => by
  unfold ioAt slot at h
  rw [e] at h
  cases h
/-- what may be put into slot i of the state behind -/
theorem store_ok {K : KW} (S : Sim K ρ1 σ B1 H1) (x : Ext ρ σ B H ρ1 σ B1 H1) {i : Nat} {c : Cel} {v : V} (hi : i < ρ1.length) (hn : ioAt ρ1 i = false) (hf : c.fl ≠ .io) (ok : COk K B1 H1 c v)
    (hnew : c.fl ≠ .sh → ∀ a, v = .ref a → New ρ σ H a ∧ ∀ j cj, i ≠ j → ρ1[j]? = some (some cj) → cj.fl ≠ .sh → σ[j]? ≠ some (some (.ref a))) (hst : c.fl ≠ .st := by simp) :
    Sim K (ρ1.set i (some c)) (σ.set i (some v)) B1 H1 ∧ Ext ρ σ B H (ρ1.set i (some c)) (σ.set i (some v)) B1 H1 := by
  have hl := S.len.lt hi (not_st hn)
  have st1 : ∀ (j : Nat) (d : D), (ρ1.set i (some c))[j]? = some (some (Cel.mk d .st)) → ρ1[j]? = some (some (Cel.mk d .st)) := fun j d h => st_set (fun d e => by cases e; exact hst rfl) h
  have ats : (σ.set i (some v))[i]? = some (some v) := by rw [List.getElem?_set, if_pos rfl, if_pos (by omega)]
  have oth : ∀ j, i ≠ j → (σ.set i (some v))[j]? = σ[j]? := fun j h => by rw [List.getElem?_set, if_neg h]
  refine ⟨⟨S.bh, (S.len.set hl).setσ, fun j cj hj hs => ?_, fun j k cj ck a hj hk nj nk ej ek => ?_, S.st.keep (Same.refl _) (fun _ _ _ h => h) (fun _ _ _ _ => rfl) st1 (by rw [List.length_set])⟩, ⟨x.bb, x.nw, x.kp, fun a ha => ?_, fun j cj hj hjf => ?_, fun j cj hj hjf => ?_, x.tx.st st1⟩⟩
  · rcases set_get hj with ⟨rfl, ec⟩ | ⟨ne, hj⟩
    · cases ec; exact ⟨v, ats, ok⟩
    · rw [oth j ne]; exact S.sl j cj hj hs
  · rcases set_get hj with ⟨rfl, ec⟩ | ⟨ne, hj⟩
    · rcases set_get hk with ⟨rfl, _⟩ | ⟨ne', hk⟩
      · rfl
      · cases ec
        rw [ats] at ej
        cases ej
        rw [oth k ne'] at ek
        exact absurd ek ((hnew nj a rfl).2 k ck ne' hk nk)
    · rcases set_get hk with ⟨rfl, ec⟩ | ⟨ne', hk⟩
      · cases ec
        rw [ats] at ek
        cases ek
        rw [oth j ne] at ej
        exact absurd ej ((hnew nk a rfl).2 j cj ne hj nj)
      · rw [oth j ne] at ej
        rw [oth k ne'] at ek
        exact S.dj j k cj ck a hj hk nj nk ej ek
  · obtain ⟨j, cj, hj, nj, ej⟩ := ha
    rcases set_get hj with ⟨rfl, ec⟩ | ⟨ne, hj⟩
    · cases ec
      rw [ats] at ej
      cases ej
      exact (hnew nj a rfl).1
    · rw [oth j ne] at ej
      exact x.sub a ⟨j, cj, hj, nj, ej⟩
  · obtain ⟨e1, c1, q1, q2⟩ := x.io j cj hj hjf
    have ne : i ≠ j := fun z => by subst z; exact not_io hn q1 q2
    exact ⟨(oth j ne).trans e1, c1, (set_other ne).trans q1, q2⟩
  · rcases set_get hj with ⟨rfl, ec⟩ | ⟨ne, hj⟩
    · cases ec; exact absurd hjf hf
    · exact x.oi j cj hj hjf
def setR (ρ : Rho) (i : Nat) (c : Cel) : RS := if i < ρ.length && !ioAt ρ i then .nx (ρ.set i (some c)) else .stuck
def setHd (ρ1 : Rho) (i : Nat) : Hd → RS
  | .sh d => setR ρ1 i ⟨d, .sh⟩
  | .fr d => setR ρ1 i ⟨d, .ow⟩
  | .bw j => match capH ρ1 (.bw j) with
    | some d => setR ρ1 i ⟨d, .sh⟩
    | none => .stuck
  | .sp _ _ => .stuck
def sSet (i : Nat) (fe : EF) : SF := fun ρ => bindES (fe ρ) fun h ρ1 => setHd ρ1 i h
theorem setR_ok {i : Nat} {c : Cel} (g : GoodS C ρ σ B H Ed (setR ρ1 i c)) : i < ρ1.length ∧ ioAt ρ1 i = false ∧ ∀ σ' B' H', Sim C.K (ρ1.set i (some c)) σ' B' H' → Ext ρ σ B H (ρ1.set i (some c)) σ' B' H' → Ed.nx σ' H' := by
  unfold setR at g
  split at g
  · rename_i h
    simp only [Bool.and_eq_true, decide_eq_true_eq, Bool.not_eq_true'] at h
    exact ⟨h.1, h.2, g⟩
  · exact g.elim
/-- storing what an expression gave -/
theorem put_hd (S1 : Sim C.K ρ1 σ B1 H1) (x1 : Ext ρ σ B H ρ1 σ B1 H1) {hd : Hd} {v : V} (y1 : HdOk C.K (New ρ σ H) ρ1 σ B1 H1 v hd) {i : Nat} (g : GoodS C ρ σ B H Ed (setHd ρ1 i hd)) : Ed.nx (σ.set i (some v)) H1 := by
  cases hd with
  | sh d =>
    obtain ⟨h1, h2, h3⟩ := setR_ok g
    obtain ⟨S2, x2⟩ := store_ok S1 x1 (c := ⟨d, .sh⟩) h1 h2 (by simp) (.inl ⟨rfl, y1⟩) fun z => absurd rfl z
    exact h3 _ _ _ S2 x2
  | fr d =>
    obtain ⟨h1, h2, h3⟩ := setR_ok g
    obtain ⟨a, rfl, q1, q2, q3, q4⟩ := y1
    obtain ⟨S2, x2⟩ := store_ok S1 x1 (c := ⟨d, .ow⟩) h1 h2 (by simp) (.inr ⟨by simp, a, rfl, q1, q2⟩) fun _ b e => by
      cases e
      exact ⟨q4, fun j cj _ hj nj ej => q3 ⟨j, cj, hj, nj, ej⟩⟩
    exact h3 _ _ _ S2 x2
  | bw j =>
    unfold setHd at g
    dsimp only at g
    split at g
    · rename_i d ed
      obtain ⟨h1, h2, h3⟩ := setR_ok g
      obtain ⟨S2, x2⟩ := store_ok S1 x1 (c := ⟨d, .sh⟩) h1 h2 (by simp) (.inl ⟨rfl, cap_bw S1 y1 ed⟩) fun z => absurd rfl z
      exact h3 _ _ _ S2 x2
    · exact g.elim
  | sp _ _ => exact g.elim
theorem lk_set {i : Nat} (l : LkE C te fe) : LkS C (tAsg te (gName i)) (sSet i fe) := fun ρ σ B H D S g =>
  l.bindS S g fun hd ρ1 v B1 H1 S1 x1 y1 g1 => put_hd S1 x1 y1 g1
theorem ss_set {i : Nat} {x : Str} {pos' : Pos} (hN : X.N.Nodup) (l : SE X C e te fe) (hi : X.N[i]? = some x := by rfl) (hx : Loc X.env.scope x := by first | exact Or.inl rfl | exact Or.inr rfl) (hs : swapsWith e (some (.Name x pos')) pos.line X.env = pure false := by rfl)
    (hf : X.fn x = true ∨ X.env.scope.names.lookup x = some .local := by first | exact .inl rfl | exact .inr rfl | assumption) : SS X C (.Assign [.Name x pos'] e pos) (tAsg te (gName i)) (sSet i fe) := ⟨ps_set hN hi hx l.pe hs hf, lk_set l.lk⟩
def LkG (C : Ct) (g : TG) (f : D → Rho → Option Rho) : Prop := ∀ ρ σ B H v d ρ' Q, Sim C.K ρ σ B H → Rp C.K B v d → f d ρ = some ρ' → (∀ σ' B' H', Sim C.K ρ' σ' B' H' → Ext ρ σ B H ρ' σ' B' H' → Q σ' H') → g v σ H Q
def LkGs (C : Ct) (g : TGs) (f : List D → Rho → Option Rho) : Prop := ∀ ρ σ B H vs ds ρ' Q, Sim C.K ρ σ B H → RpL C.K B vs ds → f ds ρ = some ρ' → (∀ σ' B' H', Sim C.K ρ' σ' B' H' → Ext ρ σ B H ρ' σ' B' H' → Q σ' H') → g vs σ H Q
structure SG (X : Cx) (C : Ct) (tg : Expr) (t : TG) (f : D → Rho → Option Rho) : Prop where
  pg : PG X tg t
  lk : LkG C t f
structure SGs (X : Cx) (C : Ct) (tg : List Expr) (t : TGs) (f : List D → Rho → Option Rho) : Prop where
  pg : PGs X tg t
  lk : LkGs C t f
def gN (i : Nat) : D → Rho → Option Rho := fun d ρ => if i < ρ.length && !ioAt ρ i then some (ρ.set i (some ⟨d, .sh⟩)) else none
theorem lk_gN {i : Nat} : LkG C (gName i) (gN i) := fun ρ σ B H v d ρ' Q S r e k => by
  unfold gN at e
  obtain ⟨h, rfl⟩ := if_some e
  simp only [Bool.and_eq_true, decide_eq_true_eq, Bool.not_eq_true'] at h
  obtain ⟨S2, x2⟩ := store_ok S Ext.refl (c := ⟨d, .sh⟩) h.1 h.2 (by simp) (.inl ⟨rfl, r⟩) fun z => absurd rfl z
  exact k _ _ _ S2 x2
def gsN : List D → Rho → Option Rho := fun ds ρ => match ds with
  | [] => some ρ
  | _ => none
def gsC (f : D → Rho → Option Rho) (g : List D → Rho → Option Rho) : List D → Rho → Option Rho := fun ds ρ => match ds with
  | d :: ds => (f d ρ).bind (g ds)
  | [] => none
def gT (n : Nat) (f : List D → Rho → Option Rho) : D → Rho → Option Rho := fun d ρ => match d with
  | .tuple ds => if ds.length = n then f ds ρ else none
  | .list ds => if ds.length = n then f ds ρ else none
  | _ => none
/-- a tuple or a list taken apart -/
def gTL (K : PySem.W.Frag) (n : Nat) (t : TGs) : TG := fun v σ H Q => gTup K n t v σ H Q ∨ gUnl K n t v σ H Q
theorem pg_tl {es : List Expr} {k : Nat} {t : TGs} {n : Nat} (hc : X.calm = true) (h : PGs X es t) (hn : (assignEach es X.env).length = n) (hst : (assignEach es X.env).findIdx? (·.1) = none) : PG X (.Tuple es k pos) (gTL X.K n t) :=
  ⟨fun pins s σ H v u Q I r hw => hw.elim ((pg_tup hc h hn hst).run pins s σ H v u Q I r) ((pg_unl hc h hn hst).run pins s σ H v u Q I r)⟩
theorem sg_name {i : Nat} {x : Str} (hN : X.N.Nodup) (hi : X.N[i]? = some x := by rfl) (hx : Loc X.env.scope x := by first | exact Or.inl rfl | exact Or.inr rfl)
    (hf : X.fn x = true ∨ X.env.scope.names.lookup x = some .local := by first | exact .inl rfl | exact .inr rfl | assumption) : SG X C (.Name x pos) (gName i) (gN i) := ⟨pg_name hN hi hx hf, lk_gN⟩
theorem sgs_nil : SGs X C [] gNil gsN := ⟨pgs_nil, fun ρ σ B H vs ds ρ' Q S r e k => by
  cases r with
  | nil => cases e; exact ⟨rfl, k _ _ _ S Ext.refl⟩
  | cons _ _ => cases e⟩
theorem lk_gC {tg : TG} {tgs : TGs} {f : D → Rho → Option Rho} {g : List D → Rho → Option Rho} (a : LkG C tg f) (b : LkGs C tgs g) : LkGs C (gCons tg tgs) (gsC f g) := fun ρ σ B H vs ds ρ' Q S r e k => by
  cases r with
  | nil => cases e
  | cons h t =>
    obtain ⟨ρ1, e1, e2⟩ := Option.bind_eq_some_iff.mp (show (f _ ρ).bind (g _) = some ρ' from e)
    refine ⟨_, _, rfl, a ρ σ B H _ _ ρ1 _ S h e1 fun σ1 B1 H1 S1 x1 => ?_⟩
    exact b ρ1 σ1 B1 H1 _ _ ρ' Q S1 (t.mono x1.bb) e2 fun σ2 B2 H2 S2 x2 => k _ _ _ S2 (x1.trans x2)
theorem sgs_cons {a : Expr} {as : List Expr} {tg : TG} {tgs : TGs} {f : D → Rho → Option Rho} {g : List D → Rho → Option Rho} (h : SG X C a tg f) (t : SGs X C as tgs g) (hs : (assignEach (a :: as) X.env).map (·.2) = assign a X.env :: (assignEach as X.env).map (·.2) := by rfl) : SGs X C (a :: as) (gCons tg tgs) (gsC f g) := ⟨pgs_cons h.pg t.pg hs, lk_gC h.lk t.lk⟩
theorem lk_gT {tgs : TGs} {n : Nat} {g : List D → Rho → Option Rho} (b : LkGs C tgs g) : LkG C (gTL C.K n tgs) (gT n g) := fun ρ σ B H v d ρ' Q S r e k => by
  cases d with
  | tuple ds =>
    replace e : (if ds.length = n then g ds ρ else none) = some ρ' := e
    split at e
    · obtain ⟨a, vs, rfl, ha, ra⟩ := r.tupE
      exact .inl ⟨a, vs, rfl, same_tT S.bh ha, by rw [ra.length]; assumption, b ρ σ B H vs ds ρ' Q S ra e k⟩
    · cases e
  | list ds =>
    replace e : (if ds.length = n then g ds ρ else none) = some ρ' := e
    split at e
    · cases r with
      | lst ha ra => exact .inr ⟨_, _, rfl, same_lT S.bh ha, by rw [ra.length]; assumption, b ρ σ B H _ ds ρ' Q S ra e k⟩
    · cases e
  | _ => cases e
theorem sg_tup {as : List Expr} {tgs : TGs} {n k : Nat} {g : List D → Rho → Option Rho} (hc : X.calm = true) (t : SGs X C as tgs g) (hk : X.K = C.K := by rfl) (hn : (assignEach as X.env).length = n := by rfl) (hst : (assignEach as X.env).findIdx? (·.1) = none := by rfl) : SG X C (.Tuple as k pos) (gTL C.K n tgs) (gT n g) := ⟨by rw [← hk]; exact pg_tl hc t.pg hn hst, lk_gT t.lk⟩
/-- a, b = e -/
def sUnp (f : D → Rho → Option Rho) (fe : EF) : SF := fun ρ => bindES (eCap fe ρ) fun h ρ1 => match h with
  | .sh d => match f d ρ1 with
    | some ρ2 => .nx ρ2
    | none => .stuck
  | _ => .stuck
theorem lk_unp {tg : TG} {f : D → Rho → Option Rho} (l : LkE C te fe) (lg : LkG C tg f) : LkS C (tAsg te tg) (sUnp f fe) := fun ρ σ B H E S g =>
  l.cap.bindS S g fun hd ρ1 v B1 H1 S1 x1 y1 g1 => by
    cases hd with
    | sh d =>
      dsimp only at g1
      split at g1
      · rename_i ρ2 e2
        exact lg ρ1 σ B1 H1 v d ρ2 _ S1 y1 e2 fun σ2 B2 H2 S2 x2 => g1 σ2 B2 H2 S2 (x1.trans x2)
      · exact g1.elim
    | _ => exact g1.elim
theorem ss_unp {tgt : Expr} {tg : TG} {f : D → Rho → Option Rho} (l : SE X C e te fe) (lg : SG X C tgt tg f) (hs : swapsWithSole [tgt] e pos.line X.env = pure false := by rfl) (hw : swappedStores [tgt] e X.env = pure none := by rfl)
    (h1 : (assignEach [tgt] X.env).map (·.2) = [assign tgt X.env] := by rfl) : SS X C (.Assign [tgt] e pos) (tAsg te tg) (sUnp f fe) := ⟨ps_asg l.pe lg.pg hs hw h1, lk_unp l.lk lg.lk⟩
end
end GS
namespace GS
open PySem L2
/-- a list, a tuple, a text: whichever comes -/
def iSeq (K : PySem.W.Frag) (w : World) (te : TE) : TI := fun σ H R => te σ H fun x H1 =>
  (∃ a, x = .ref a ∧ (∃ xs, SqL K H1 a xs) ∧ R (Itl K a) H1) ∨ (∃ a, x = .ref a ∧ (∃ xs, SqT K H1 a xs) ∧ R (Itt K a) H1) ∨ (∃ z, x = .str z ∧ R (Its z) H1) ∨ ∃ a ep xs vs, x = .ref a ∧ H1 a = some (dX w a ep xs) ∧ Vals vs (xs.map (·.2.1)) ∧ R (Itx w a ep xs vs) H1
theorem pi_seq {X : Cx} {tg e : Expr} {te : TE} (he : PE X e te) : PI X tg e (iSeq X.K X.w te) := by
  refine ⟨fun pins s σ H R I h => ?_⟩
  refine thn (he.run pins s σ H _ I h) fun v s1 ⟨x, H1, I1, r1, q1⟩ => ?_
  rcases q1 with ⟨a, e, ⟨xs, hq⟩, q⟩ | ⟨a, e, ⟨xs, hq⟩, q⟩ | ⟨x, ex, q⟩ | ⟨d, ep, xs, vs, ex, hd, rv, q⟩
  · subst e
    cases r1
    obtain ⟨its, rv, p, hz⟩ := I1.list hq
    refine wpAny_pyIter_list p.isList ?_
    exact pi_one (tk := s1.toks) I1 _ (turn_list a _) ⟨_, Heap.get?_push_size _ rfl, rfl, rfl⟩ q
  · subst e
    cases r1
    obtain ⟨its, rv, p, hz⟩ := I1.tuple hq
    refine wpAny_pyIter_tuple (show s1.heap.IsTuple a its.toArray from p) ?_
    exact pi_one (tk := s1.toks) I1 _ (turn_tuple a _) ⟨_, Heap.get?_push_size _ rfl, rfl, rfl⟩ q
  · subst ex
    obtain ⟨t, rfl⟩ := r1
    cases ha : x.cps.all (· < 128)
    · exact wpAny_pyIter_wide ha (pi_one (tk := s1.toks) I1 _ (turn_str _ x t "str_iterator" (.inr rfl)) ⟨_, Heap.get?_push_size _ rfl, rfl, rfl⟩ q)
    · exact wpAny_pyIter_ascii ha (pi_one (tk := s1.toks) I1 _ (turn_str _ x t "str_ascii_iterator" (.inl rfl)) ⟨_, Heap.get?_push_size _ rfl, rfl, rfl⟩ q)
  · subst ex
    obtain rfl : v = Value.ref d := r1
    obtain ⟨es, hm, he, _, hs⟩ := dX_raw I1.hok hd
    have ls : es.size = vs.length := by rw [← Array.length_toList, he, List.length_map, rv.length, List.length_map]
    refine wpAny_pyIter_dict_raw hs hm (pi_one (tk := s1.toks) I1 _ (turn_dX _ rv) ⟨_, Heap.get?_push_size _ rfl, rfl, ?_⟩ q)
    rw [ls] <;> rfl
/-- what the i-th turn gives -/
def YOk (K : KW) (B : Hp) (ds : List D) : Nat → Hp → V → Hp → Prop := fun i H x H' => ∃ d, ds[i]? = some d ∧
  ((H' = H ∧ Rp K B x d) ∨ ∃ T o vs es, x = .ref T ∧ H T = none ∧ o.dict = none ∧ H' = upd H T (.frz o (.tup vs)) ∧ d = .tuple es ∧ RpL K B vs es)
def ItOk (K : KW) (B : Hp) (ds : List D) (J : It) : Prop := Walk J ds.length (fun H => SameT B H) (YOk K B ds)
inductive RI where | stuck | ok (ds : List D) (ρ : Rho) | exc (x : Xc) (ρ : Rho)
abbrev IF := Rho → RI
def GoodI (C : Ct) (ρ : Rho) (σ : St) (B H : Hp) (R : It → Hp → Prop) : RI → Prop
  | .stuck => False
  | .ok ds ρ' => ∀ J B' H', Sim C.K ρ' σ B' H' → Ext ρ σ B H ρ' σ B' H' → ItOk C.K B' ds J → R J H'
  | .exc x ρ' => ∀ cls dct B' H', Sim C.K ρ' σ B' H' → Ext ρ σ B H ρ' σ B' H' → XcOk C B' x cls dct → C.W cls dct σ H'
def LkI (C : Ct) (w : TI) (f : IF) : Prop := ∀ ρ σ B H R, Sim C.K ρ σ B H → GoodI C ρ σ B H R (f ρ) → w σ H R
structure SI (X : Cx) (C : Ct) (tg it : Expr) (w : TI) (f : IF) : Prop where
  pi : PI X tg it w
  lk : LkI C w f
def bindEI (r : RE) (k : Hd → Rho → RI) : RI := match r with
  | .stuck => .stuck
  | .ok h ρ => k h ρ
  | .exc x ρ => .exc x ρ
def items : D → Option (List D)
  | .list ds => some ds
  | .tuple ds => some ds
  | .str z => some (z.cps.toList.map fun c => .str ⟨#[c]⟩)
  | .dict ps => if xnB ps then none else some (ps.map (·.1))
  | _ => none
/-- for over a list, a tuple or a text that is shared -/
def iSq (fe : EF) : IF := fun ρ => bindEI (eCap fe ρ) fun h ρ1 => match h with
  | .sh d => match items d with
    | some ds => .ok ds ρ1
    | none => .stuck
  | _ => .stuck
section
variable {X : Cx} {C : Ct} {ρ ρ1 : Rho} {σ σ1 : St} {B H B1 H1 : Hp} {e tg : Expr} {te : TE} {fe : EF} {pos p : Pos}
theorem LkE.bindI (l : LkE C te fe) (S : Sim C.K ρ σ B H) {k : Hd → Rho → RI} {R : It → Hp → Prop} {Q' : VK} (g : GoodI C ρ σ B H R (bindEI (fe ρ) k))
    (h : ∀ hd ρ1 v B1 H1, Sim C.K ρ1 σ B1 H1 → Ext ρ σ B H ρ1 σ B1 H1 → HdOk C.K (New ρ σ H) ρ1 σ B1 H1 v hd → GoodI C ρ σ B H R (k hd ρ1) → Q' v H1) : te σ H Q' := by
  refine l ρ σ B H Q' S ?_
  cases e : fe ρ with
  | stuck => rw [e] at g; exact g
  | ok hd ρ1 => rw [e] at g; exact fun v B1 H1 s x y => h hd ρ1 v B1 H1 s x y g
  | exc x ρ1 => rw [e] at g; exact g
theorem it_list {K : KW} {a : Addr} {vs : List V} {ds : List D} (h : SqL K B a vs) (r : RpL K B vs ds) : ItOk K B ds (Itl K a) := by
  unfold ItOk
  rw [← r.length]
  refine (walk_list (K := K) (a := a) (xs := vs)).mono (fun H s => same_lT s h) fun i H x H' hi s y => ?_
  obtain ⟨rfl, hv⟩ := y
  obtain ⟨d, q1, q2⟩ := r.getV hv
  exact ⟨d, q1, .inl ⟨rfl, q2⟩⟩
theorem it_tup {K : KW} {a : Addr} {vs : List V} {ds : List D} (h : SqT K B a vs) (r : RpL K B vs ds) : ItOk K B ds (Itt K a) := by
  unfold ItOk
  rw [← r.length]
  refine (walk_tup (K := K) (a := a) (xs := vs)).mono (fun H s => same_tT s h) fun i H x H' hi s y => ?_
  obtain ⟨rfl, hv⟩ := y
  obtain ⟨d, q1, q2⟩ := r.getV hv
  exact ⟨d, q1, .inl ⟨rfl, q2⟩⟩
theorem it_str {K : KW} {z : Str} : ItOk K B (z.cps.toList.map fun c => .str ⟨#[c]⟩) (Its z) := by
  unfold ItOk
  rw [List.length_map, Array.length_toList]
  refine (walk_str (z := z)).mono (fun H _ => trivial) fun i H x H' hi s y => ?_
  obtain ⟨rfl, c, hc, rfl⟩ := y
  refine ⟨.str ⟨#[c]⟩, ?_, .inl ⟨rfl, .str _⟩⟩
  rw [List.getElem?_map, Array.getElem?_toList, hc]
  rfl
theorem rpx_keys {K : KW} {b : Bool} : ∀ {xs : List (NestedKey × Value × Value)} {ps : List (D × D)}, RpX K B b xs ps → ∃ vs, Vals vs (xs.map (·.2.1)) ∧ RpL K B vs (ps.map (·.1))
  | _, _, .nil => ⟨[], .nil, .nil⟩
  | _, _, .cons (kv := kv) _ _ h3 h4 _ _ h7 => by
    obtain ⟨vs, q1, q2⟩ := rpx_keys h7
    exact ⟨kv :: vs, .cons h4 q1, .cons h3 q2⟩
theorem it_dct {K : KW} {a : Addr} {ep : Nat} {xs : List (NestedKey × Value × Value)} {vs : List V} {ds : List D} (h : B a = some (dX K.w a ep xs)) (r : RpL K B vs ds) : ItOk K B ds (Itx K.w a ep xs vs) := by
  unfold ItOk
  rw [← r.length]
  refine walk_dX.mono (fun H s => s.at h (fun _ _ z => by unfold dX at z; cases z)) fun i H x H' hi s y => ?_
  obtain ⟨rfl, hv⟩ := y
  obtain ⟨d, q1, q2⟩ := r.getV hv
  exact ⟨d, q1, .inl ⟨rfl, q2⟩⟩
theorem lk_sq (l : LkE C te fe) : LkI C (iSeq C.K C.K.w te) (iSq fe) := fun ρ σ B H R S g => by
  refine l.cap.bindI S g fun hd ρ1 v B1 H1 S1 x1 y1 g1 => ?_
  cases hd with
  | sh d =>
    dsimp only at g1
    split at g1
    · rename_i ds ed
      cases d with
      | list es =>
        cases ed
        obtain ⟨a, vs, rfl, ha, ra⟩ := Rp.lstE y1
        exact .inl ⟨a, rfl, ⟨vs, same_lT S1.bh ha⟩, g1 _ _ _ S1 x1 (it_list ha ra)⟩
      | tuple es =>
        cases ed
        obtain ⟨a, vs, rfl, ha, ra⟩ := Rp.tupE y1
        exact .inr (.inl ⟨a, rfl, ⟨vs, same_tT S1.bh ha⟩, g1 _ _ _ S1 x1 (it_tup ha ra)⟩)
      | str z =>
        cases ed
        cases (show Rp C.K B1 v (.str z) from y1)
        exact .inr (.inr (.inl ⟨z, rfl, g1 _ _ _ S1 x1 it_str⟩))
      | dict ps =>
        obtain ⟨c, rfl⟩ : xnB ps = false ∧ ds = ps.map (·.1) := by
          replace ed : (if xnB ps then none else some (ps.map (·.1))) = some ds := ed
          split at ed
          · cases ed
          · rename_i c
            exact ⟨by simpa using c, (Option.some.inj ed).symm⟩
        cases (show Rp C.K B1 v (.dict ps) from y1) with
        | dct h r =>
          obtain ⟨vs, q1, q2⟩ := rpx_keys r
          exact .inr (.inr (.inr ⟨_, _, _, vs, rfl, S1.bh.at h (fun _ _ z => by unfold dX at z; cases z), q1, g1 _ _ _ S1 x1 (it_dct h q2)⟩))
        | exn _ _ _ _ => cases c
        | ptr _ _ => cases c
      | _ => cases ed
    · exact g1.elim
  | _ => exact g1.elim
theorem si_sq (l : SE X C e te fe) (hk : X.K = C.K := by rfl) (hw : X.w = C.K.w := by rfl) : SI X C tg e (iSeq C.K C.K.w te) (iSq fe) := ⟨by rw [← hk, ← hw]; exact pi_seq l.pe, lk_sq l.lk⟩
def rgD (lo : Int) (n : Nat) : List D := (List.range n).map fun (i : Nat) => PyData.int (lo + (i : Int))
theorem it_range {K : KW} {lo : Int} {n : Nat} : ItOk K B (rgD lo n) (Itr lo n) := by
  unfold ItOk rgD
  rw [List.length_map, List.length_range]
  refine (walk_range (lo := lo) (n := n)).mono (fun H _ => trivial) fun i H x H' hi s y => ?_
  obtain ⟨rfl, rfl⟩ := y
  refine ⟨.int (lo + i), ?_, .inl ⟨rfl, .int _⟩⟩
  rw [List.getElem?_map, List.getElem?_range hi]
  rfl
def okR (i : Int) : Bool := Nat.ble i.natAbs 1000000000
def iR1 (fe : EF) : IF := fun ρ => bindEI (eSet fe ρ) fun h ρ1 => match getH ρ1 h with
  | some (.int j) => if okR j then .ok (rgD 0 j.toNat) ρ1 else .stuck
  | _ => .stuck
theorem e62 : (2 : Int) ^ 62 = 4611686018427387904 := by decide +kernel
theorem okR_ok {i : Int} (h : okR i = true) : -(2 ^ 62) ≤ i ∧ i < 2 ^ 62 := by
  have := Nat.le_of_ble_eq_true h
  rw [e62]
  omega
theorem si_r1 (l : SE X C e te fe) (hm : X.mg "range" = none) (hg : Gl X "range" := by rfl) (hs : starEach [e] X.env = [(false, eval e X.env)] := by rfl) : SI X C tg (.Call (.Name "range" p) [e] [] pos) (iRng1 (tCons te tNil)) (iR1 fe) := ⟨pi_range1 hg hm (pa_cons l.pe pa_nil hs) hs, fun ρ σ B H R S g => by
  refine l.lk.set.bindI S g fun hd ρ1 v B1 H1 S1 x1 y1 g1 => ?_
  split at g1
  · rename_i j ej
    split at g1
    · rename_i ok
      obtain ⟨h1, h2⟩ := okR_ok ok
      exact ⟨j, by rw [(S1.tp y1 ej).int], h1, h2, g1 _ _ _ S1 x1 it_range⟩
    · exact g1.elim
  · exact g1.elim⟩
theorem GoodI.ext (x : Ext ρ σ B H ρ1 σ B1 H1) {R : It → Hp → Prop} : ∀ {r : RI}, GoodI C ρ σ B H R r → GoodI C ρ1 σ B1 H1 R r
  | .stuck, g => g
  | .ok _ _, g => fun J B' H' s y z => g J B' H' s (x.trans y) z
  | .exc _ _, g => fun c d B' H' s y z => g c d B' H' s (x.trans y) z
def forL (g : D → Rho → Option Rho) (b : SF) : List D → Rho → RS
  | [], ρ => .nx ρ
  | d :: ds, ρ => match g d ρ with
    | none => .stuck
    | some ρ1 => match b ρ1 with
      | .nx ρ2 => forL g b ds ρ2
      | .ct ρ2 => forL g b ds ρ2
      | .bk ρ2 => .nx ρ2
      | r => r
def sFor (fi : IF) (g : D → Rho → Option Rho) (b : SF) : SF := fun ρ => match fi ρ with
  | .stuck => .stuck
  | .exc x ρ1 => .exc x ρ1
  | .ok ds ρ1 => forL g b ds ρ1
theorem lk_for {w : TI} {tgt : TG} {tb : TS} {fi : IF} {g : D → Rho → Option Rho} {b : SF} (li : LkI C w fi) (lg : LkG C tgt g) (lb : LkS C tb b) : LkS C (tFor w tgt tb) (sFor fi g b) := fun ρ σ B H E S gd => by
  refine li ρ σ B H _ S ?_
  unfold sFor at gd
  cases e : fi ρ with
  | stuck => rw [e] at gd; exact gd
  | exc x ρ1 => rw [e] at gd; exact fun c d B' H' s x => gd c d σ B' H' s x
  | ok ds ρ1 =>
    rw [e] at gd
    replace gd : GoodS C ρ σ B H E (forL g b ds ρ1) := gd
    intro J B1 H1 S1 x1 ok
    refine for_it ok (fun i σ' H' => ∃ ρ' B', Sim C.K ρ' σ' B' H' ∧ Ext ρ σ B H ρ' σ' B' H' ∧ Same B1 B' ∧ GoodS C ρ σ B H E (forL g b (ds.drop i) ρ')) ⟨ρ1, B1, S1, x1, Same.refl _, gd⟩ (fun i σ' H' _ ⟨ρ', B', S', _, s', _⟩ => Same.transT s' S'.bh) ?_ ?_
    · rintro i v σ' H' H2 hi ⟨ρ', B', S', x', s', g'⟩ ⟨d, ed, y⟩
      have hd : ds.drop i = d :: ds.drop (i + 1) := by
        have := List.drop_eq_getElem_cons hi
        rw [this]
        congr 1
        exact Option.some.inj ((List.getElem?_eq_getElem hi).symm.trans ed)
      rw [hd] at g'
      have step : ∃ B2, Sim C.K ρ' σ' B2 H2 ∧ Ext ρ σ B H ρ' σ' B2 H2 ∧ Same B1 B2 ∧ Rp C.K B2 v d := by
        rcases y with ⟨rfl, r⟩ | ⟨T, o, vs, es, rfl, hT, ho, rfl, rfl, r⟩
        · exact ⟨B', S', x', s', r.mono s'⟩
        · obtain ⟨S2, x2⟩ := S'.newB hT (.frz o (.tup vs))
          exact ⟨_, S2, x'.trans x2, s'.trans x2.bb, .tup (XT.new ho) (r.mono (s'.trans x2.bb))⟩
      obtain ⟨B2, S2, x2, s2, r2⟩ := step
      unfold forL at g'
      cases eg : g d ρ' with
      | none => rw [eg] at g'; exact g'.elim
      | some ρ3 =>
        rw [eg] at g'
        refine lg ρ' σ' B2 H2 v d ρ3 _ S2 r2 eg fun σ3 B3 H3 S3 x3 => ?_
        refine lb ρ3 σ3 B3 H3 _ S3 ?_
        have x3' := x2.trans x3
        cases eb : b ρ3 with
        | stuck => simp only [eb] at g'; exact g'
        | nx ρ4 => simp only [eb] at g'; exact fun σ4 B4 H4 S4 x4 => ⟨ρ4, B4, S4, x3'.trans x4, (s2.trans x3.bb).trans x4.bb, g'⟩
        | ct ρ4 => simp only [eb] at g'; exact fun σ4 B4 H4 S4 x4 => ⟨ρ4, B4, S4, x3'.trans x4, (s2.trans x3.bb).trans x4.bb, g'⟩
        | bk ρ4 => simp only [eb] at g'; exact fun σ4 B4 H4 S4 x4 => g' σ4 B4 H4 S4 (x3'.trans x4)
        | rt h ρ4 => simp only [eb] at g'; exact GoodS.ext (r := .rt h ρ4) x3' g'
        | exc c ρ4 => simp only [eb] at g'; exact GoodS.ext (r := .exc c ρ4) x3' g'
    · rintro σ' H' ⟨ρ', B', S', x', _, g'⟩
      rw [List.drop_length] at g'
      exact g' σ' B' H' S' x'
theorem ss_for {it : Expr} {body : List Stmt} {w : TI} {tgt : TG} {tb : TS} {fi : IF} {g : D → Rho → Option Rho} {b : SF} (hp : PassesOwn (model X.prog X.w) X.A X.env X.xe) (hc : X.calm = true) (li : SI X C tg it w fi) (lg : SG X C tg tgt g) (lb : SSs X C body tb b)
    (hs : ∀ x, foldedSetIterable it X.env x = pure x := by intro _; rfl) : SS X C (.For tg it body [] pos) (tFor w tgt tb) (sFor fi g b) := ⟨ps_for hp hc li.pi lg.pg lb.ps hs, lk_for li.lk lg.lk lb.lk⟩
def wipeR (ρ : Rho) : List Nat → Rho
  | [] => ρ
  | v :: vs => (wipeR ρ vs).set v none
/-- the turns: acc what is made so far -/
def lcL (vs : List Nat) (g : D → Rho → Option Rho) (ft fe : EF) : List D → List D → Rho → RE
  | [], acc, ρ => .ok (.fr (.list acc)) ρ
  | d :: ds, acc, ρ => match g d ρ with
    | none => .stuck
    | some ρ1 => bindB (ft ρ1) fun c ρ2 => if c then bindE (eCap fe ρ2) fun h ρ3 => match h with
        | .sh y => if acc.length < sizeLine then lcL vs g ft fe ds (acc ++ [y]) (wipeR ρ3 vs) else .stuck
        | _ => .stuck
      else lcL vs g ft fe ds acc (wipeR ρ2 vs)
def eLc (vs : List Nat) (fi : IF) (g : D → Rho → Option Rho) (ft fe : EF) : EF := fun ρ => match fi ρ with
  | .stuck => .stuck
  | .exc x ρ1 => .exc x ρ1
  | .ok ds ρ1 => if vs.all fun i => !ioAt ρ1 i then lcL vs g ft fe ds [] (wipeR ρ1 vs) else .stuck
theorem wipeR_len (ρ : Rho) : ∀ vs : List Nat, (wipeR ρ vs).length = ρ.length
  | [] => rfl
  | v :: vs => by unfold wipeR; rw [List.length_set, wipeR_len ρ vs]
theorem wipeR_some {ρ : Rho} {i : Nat} {c : Cel} : ∀ {vs : List Nat}, (wipeR ρ vs)[i]? = some (some c) → ρ[i]? = some (some c) ∧ i ∉ vs
  | [], h => ⟨h, by simp⟩
  | v :: vs, h => by
    unfold wipeR at h
    rcases set_get h with ⟨_, ec⟩ | ⟨ne, h⟩
    · cases ec
    · obtain ⟨h1, h2⟩ := wipeR_some h
      exact ⟨h1, by simp only [List.mem_cons, not_or]; exact ⟨fun e => ne e.symm, h2⟩⟩
theorem wipeR_keep {ρ : Rho} {i : Nat} : ∀ {vs : List Nat}, i ∉ vs → (wipeR ρ vs)[i]? = ρ[i]?
  | [], _ => rfl
  | v :: vs, h => by
    simp only [List.mem_cons, not_or] at h
    unfold wipeR
    rw [set_other (fun e => h.1 e.symm)]
    exact wipeR_keep h.2
theorem wipe_keep {σ : St} {i : Nat} : ∀ {vs : List Nat}, i ∉ vs → (wipe σ vs)[i]? = σ[i]?
  | [], _ => rfl
  | v :: vs, h => by
    simp only [List.mem_cons, not_or] at h
    unfold wipe
    rw [List.getElem?_set, if_neg (fun e => h.1 e.symm)]
    exact wipe_keep h.2
/-- slots are forgotten on both sides -/
theorem Sim.wipe {K : KW} {σ' : St} (S : Sim K ρ σ B H) (vs : List Nat) (hst : ∀ i ∈ vs, ∀ d : D, ρ[i]? ≠ some (some (Cel.mk d .st))) (hl : σ'.length = σ.length) (he : ∀ i, i ∉ vs → σ'[i]? = σ[i]?) : Sim K (wipeR ρ vs) σ' B H := by
  refine ⟨S.bh, ⟨by rw [wipeR_len, hl]; exact S.len.le, fun i h1 h2 => by
    rw [wipeR_len] at h2
    obtain ⟨d, q⟩ := S.len.ex i (by omega) h2
    exact ⟨d, by rw [wipeR_keep fun m => hst i m d q]; exact q⟩⟩, fun i c h hs => ?_, fun i j ci cj a hi hj ni nj ei ej => ?_, S.st.keep (Same.refl B) (fun _ _ _ h => h) (fun _ _ _ _ => rfl) (fun _ _ h => (wipeR_some h).1) hl⟩
  · obtain ⟨h1, h2⟩ := wipeR_some h
    rw [he i h2]
    exact S.sl i c h1 hs
  · obtain ⟨h1, h2⟩ := wipeR_some hi
    obtain ⟨h3, h4⟩ := wipeR_some hj
    rw [he i h2] at ei
    rw [he j h4] at ej
    exact S.dj i j ci cj a h1 h3 ni nj ei ej
theorem Ext.wipe {σ' : St} (x : Ext ρ σ B H ρ1 σ1 B1 H1) (vs : List Nat) (hn : ∀ i ∈ vs, ∀ c, ρ[i]? = some (some c) → c.fl ≠ .io) (he : ∀ i, i ∉ vs → σ'[i]? = σ1[i]?) : Ext ρ σ B H (wipeR ρ1 vs) σ' B1 H1 := by
  refine ⟨x.bb, x.nw, x.kp, fun a ⟨i, c, h1, h2, h3⟩ => ?_, fun i c h1 h2 => ?_, fun i c h1 h2 => ?_, x.tx.st fun _ _ h => (wipeR_some h).1⟩
  · obtain ⟨q1, q2⟩ := wipeR_some h1
    rw [he i q2] at h3
    exact x.sub a ⟨i, c, q1, h2, h3⟩
  · have ni : i ∉ vs := fun z => hn i z c h1 h2
    obtain ⟨e1, c1, q1, q2⟩ := x.io i c h1 h2
    exact ⟨(he i ni).trans e1, c1, (wipeR_keep ni).trans q1, q2⟩
  · obtain ⟨q1, _⟩ := wipeR_some h1
    exact x.oi i c q1 h2
end
end GS
namespace GS
open PySem L2
section
variable {X : Cx} {C : Ct} {ρ ρ1 : Rho} {σ σ1 σ' : St} {B H B1 H1 : Hp} {e tg : Expr} {te : TE} {fe : EF} {pos p : Pos} {vs : List Nat} {K : KW}
theorem wipe_get (σ : St) (j : Nat) : ∀ vs : List Nat, (wipe σ vs)[j]? = if j ∈ vs then (if j < σ.length then some none else none) else σ[j]?
  | [] => by simp [wipe]
  | v :: vs => by
    unfold wipe
    rw [List.getElem?_set, wipe_get σ j vs, wipe_length]
    by_cases h : v = j
    · subst h; simp
    · have h' : ¬ j = v := fun z => h z.symm
      simp [h, h']
theorem wipe_set {i : Nat} {x : Option V} (h : i ∈ vs) : wipe (σ.set i x) vs = wipe σ vs := by
  apply List.ext_getElem?
  intro j
  rw [wipe_get, wipe_get, List.length_set]
  by_cases hj : j ∈ vs
  · simp [hj]
  · rw [if_neg hj, if_neg hj, List.getElem?_set, if_neg (fun (z : i = j) => hj (z ▸ h))]
theorem of_wipe (h : wipe σ1 vs = wipe σ vs) : σ1.length = σ.length ∧ ∀ i, i ∉ vs → σ1[i]? = σ[i]? := by
  refine ⟨by rw [← wipe_length σ1 vs, h, wipe_length], fun i hi => ?_⟩
  rw [← wipe_keep hi, h, wipe_keep hi]
/-- targets of a comprehension -/
def LkGw (C : Ct) (vs : List Nat) (g : TG) (f : D → Rho → Option Rho) : Prop := ∀ ρ σ B H v d ρ' Q, Sim C.K ρ σ B H → Rp C.K B v d → f d ρ = some ρ' → (∀ σ' B' H', Sim C.K ρ' σ' B' H' → Ext ρ σ B H ρ' σ' B' H' → wipe σ' vs = wipe σ vs → Q σ' H') → g v σ H Q
def LkGws (C : Ct) (vs : List Nat) (g : TGs) (f : List D → Rho → Option Rho) : Prop := ∀ ρ σ B H ws ds ρ' Q, Sim C.K ρ σ B H → RpL C.K B ws ds → f ds ρ = some ρ' → (∀ σ' B' H', Sim C.K ρ' σ' B' H' → Ext ρ σ B H ρ' σ' B' H' → wipe σ' vs = wipe σ vs → Q σ' H') → g ws σ H Q
theorem lkw_N {i : Nat} (hi : i ∈ vs) : LkGw C vs (gName i) (gN i) := fun ρ σ B H v d ρ' Q S r e k => by
  unfold gN at e
  obtain ⟨h, rfl⟩ := if_some e
  simp only [Bool.and_eq_true, decide_eq_true_eq, Bool.not_eq_true'] at h
  obtain ⟨S2, x2⟩ := store_ok S Ext.refl (c := ⟨d, .sh⟩) h.1 h.2 (by simp) (.inl ⟨rfl, r⟩) fun z => absurd rfl z
  exact k _ _ _ S2 x2 (wipe_set hi)
theorem lkw_nil : LkGws C vs gNil gsN := fun ρ σ B H ws ds ρ' Q S r e k => by
  cases r with
  | nil => cases e; exact ⟨rfl, k _ _ _ S Ext.refl rfl⟩
  | cons _ _ => cases e
theorem lkw_C {tg : TG} {tgs : TGs} {f : D → Rho → Option Rho} {g : List D → Rho → Option Rho} (a : LkGw C vs tg f) (b : LkGws C vs tgs g) : LkGws C vs (gCons tg tgs) (gsC f g) := fun ρ σ B H ws ds ρ' Q S r e k => by
  cases r with
  | nil => cases e
  | cons h t =>
    obtain ⟨ρ1, e1, e2⟩ := Option.bind_eq_some_iff.mp (show (f _ ρ).bind (g _) = some ρ' from e)
    refine ⟨_, _, rfl, a ρ σ B H _ _ ρ1 _ S h e1 fun σ1 B1 H1 S1 x1 w1 => ?_⟩
    exact b ρ1 σ1 B1 H1 _ _ ρ' Q S1 (t.mono x1.bb) e2 fun σ2 B2 H2 S2 x2 w2 => k _ _ _ S2 (x1.trans x2) (w2.trans w1)
theorem lkw_T {tgs : TGs} {n : Nat} {g : List D → Rho → Option Rho} (b : LkGws C vs tgs g) : LkGw C vs (gTL C.K n tgs) (gT n g) := fun ρ σ B H v d ρ' Q S r e k => by
  cases d with
  | tuple ds =>
    replace e : (if ds.length = n then g ds ρ else none) = some ρ' := e
    split at e
    · obtain ⟨a, ws, rfl, ha, ra⟩ := r.tupE
      exact .inl ⟨a, ws, rfl, same_tT S.bh ha, by rw [ra.length]; assumption, b ρ σ B H ws ds ρ' Q S ra e k⟩
    · cases e
  | list ds =>
    replace e : (if ds.length = n then g ds ρ else none) = some ρ' := e
    split at e
    · cases r with
      | lst ha ra => exact .inr ⟨_, _, rfl, same_lT S.bh ha, by rw [ra.length]; assumption, b ρ σ B H _ ds ρ' Q S ra e k⟩
    · cases e
  | _ => cases e
/-- without exceptions -/
def eNox (f : EF) : EF := fun ρ => match f ρ with
  | .exc _ _ => .stuck
  | r => r
abbrev Ct.nox (C : Ct) : Ct := { C with W := fun _ _ _ _ => False }
theorem LkE.ofNox {t : TE} {f : EF} (l : LkE C.nox t f) : LkE C t (eNox f) := fun ρ σ B H Q S g => by
  refine l ρ σ B H Q S ?_
  unfold eNox at g
  cases e : f ρ with
  | stuck => rw [e] at g; exact g
  | ok h ρ1 => rw [e] at g; exact g
  | exc x ρ1 => rw [e] at g; exact g.elim
theorem LkT.ofNox {t : TT} {f : EF} (l : LkT C.nox t f) : LkT C t (eNox f) := fun ρ σ B H Q S g => by
  refine l ρ σ B H Q S ?_
  unfold eNox at g
  cases e : f ρ with
  | stuck => rw [e] at g; exact g
  | ok h ρ1 =>
    rw [e] at g
    cases h with
    | sh d => cases d <;> exact g
    | _ => exact g
  | exc x ρ1 => rw [e] at g; exact g.elim
theorem eNox_ne (f : EF) (ρ : Rho) {x : Xc} {ρ1 : Rho} : eNox f ρ ≠ .exc x ρ1 := fun h => by
  unfold eNox at h
  split at h
  · cases h
  · rename_i z; exact z _ _ h
theorem cap_nox_ne (f : EF) (ρ : Rho) {x : Xc} {ρ1 : Rho} : eCap (eNox f) ρ ≠ .exc x ρ1 := fun h => by
  unfold eCap bindE at h
  split at h
  · cases h
  · dsimp only at h
    split at h <;> cases h
  · rename_i e; exact eNox_ne _ _ e
def NoV (ρ : Rho) (vs : List Nat) : Prop := ∀ (i : Nat) (c : Cel), ρ[i]? = some (some c) → i ∉ vs
theorem noV_wipe : NoV (wipeR ρ vs) vs := fun i c h => (wipeR_some h).2
theorem Sim.swap (S : Sim K ρ σ B H) (n : NoV ρ vs) (hl : σ'.length = σ.length) (he : ∀ i, i ∉ vs → σ'[i]? = σ[i]?) : Sim K ρ σ' B H := by
  refine ⟨S.bh, S.len.of hl, fun i c h hs => ?_, fun i j ci cj a hi hj ni nj ei ej => ?_, S.st.keep (Same.refl B) (fun _ _ _ h => h) (fun _ _ _ _ => rfl) (fun _ _ h => h) hl⟩
  · rw [he i (n i c h)]; exact S.sl i c h hs
  · rw [he i (n i ci hi)] at ei
    rw [he j (n j cj hj)] at ej
    exact S.dj i j ci cj a hi hj ni nj ei ej
theorem Sim.tweak (S : Sim K ρ σ B H) {q : Addr} {o : HO} (hb : B q = none) (hn : ¬ OwnA ρ σ q) : Sim K ρ σ B (upd H q o) := by
  refine ⟨fun b u z => ?_, S.len, fun i c h hs => ?_, S.dj, S.st.keep (Same.refl B) (fun _ _ _ h => h) (fun a s g e => upd_ne (ne_of_none e hb)) (fun _ _ h => h) rfl⟩
  · rw [upd_ne (ne_of_none z hb)]; exact S.bh _ _ z
  · obtain ⟨v, ev, ok⟩ := S.sl i c h hs
    refine ⟨v, ev, ok.mono (Same.refl B) fun a hv ha ho hf => ⟨ha, ?_⟩⟩
    have ne : a ≠ q := fun z => by subst z hv; exact hn ⟨i, c, h, hf, ev⟩
    rw [upd_ne ne]
theorem Ext.tweak (x : Ext ρ σ B H ρ1 σ1 B1 H1) {q : Addr} {o : HO} (hn : New ρ σ H q) : Ext ρ σ B H ρ1 σ1 B1 (upd H1 q o) := by
  refine ⟨x.bb, x.nw, fun a u h n => ?_, x.sub, x.io, x.oi, x.tx⟩
  have ne : a ≠ q := fun z => by
    subst z
    rcases hn with z | z
    · rw [h] at z; cases z
    · exact n z
  rw [upd_ne ne]
  exact x.kp a u h n
theorem OwnA.swap {a : Addr} (n : NoV ρ vs) (he : ∀ i, i ∉ vs → σ'[i]? = σ[i]?) (h : OwnA ρ σ' a) : OwnA ρ σ a := by
  obtain ⟨i, c, h1, h2, h3⟩ := h
  exact ⟨i, c, h1, h2, (he i (n i c h1)).symm.trans h3⟩
theorem Ext.swapL (x : Ext ρ σ' B H ρ1 σ1 B1 H1) (n : NoV ρ vs) (he : ∀ i, i ∉ vs → σ'[i]? = σ[i]?) (ho : ∀ (i : Nat) c, ρ[i]? = some (some c) → c.fl = .io → σ1[i]? = σ[i]?) : Ext ρ σ B H ρ1 σ1 B1 H1 := by
  have own : ∀ a, OwnA ρ σ' a → OwnA ρ σ a := fun a h => h.swap n he
  have own' : ∀ a, OwnA ρ σ a → OwnA ρ σ' a := fun a h => h.swap n fun i hi => (he i hi).symm
  exact ⟨x.bb, fun a o h => (x.nw a o h).imp id fun z => z.elim .inl fun z => .inr (own a z), fun a o h z => x.kp a o h (fun w => z (own a w)), fun a h => (x.sub a h).elim .inl fun z => .inr (own a z),
    fun i c h1 h2 => ⟨ho i c h1 h2, (x.io i c h1 h2).2⟩, x.oi, ⟨fun a h => (x.tx.tk a h).imp id fun z => z.elim .inl fun z => .inr (own a z), x.tx.tn, x.tx.kt⟩⟩
theorem lk_lc {w : TI} {tgt : TG} {tt : TT} {fi : IF} {g : D → Rho → Option Rho} {ft : EF} (li : LkI C w fi) (lg : LkGw C vs tgt g) (lt : LkT C.nox tt ft) (le : LkE C.nox te fe) : LkE C (tLc w tgt tt te vs) (eLc vs fi g (eNox ft) (eNox fe)) := fun ρ σ B H Q S gd => by
  have lt' := lt.ofNox
  have le' := le.ofNox
  refine li ρ σ B H _ S ?_
  unfold eLc at gd
  cases e : fi ρ with
  | stuck => rw [e] at gd; exact gd
  | exc x ρ1 => rw [e] at gd; exact gd
  | ok ds ρ1 =>
    rw [e] at gd
    replace gd : GoodE C ρ σ B H Q (if vs.all fun i => !ioAt ρ1 i then lcL vs g (eNox ft) (eNox fe) ds [] (wipeR ρ1 vs) else .stuck) := gd
    by_cases hio : (vs.all fun i => !ioAt ρ1 i) = true
    case neg => rw [if_neg hio] at gd; exact gd.elim
    rw [if_pos hio] at gd
    intro J B1 H1 S1 x1 ok Dd hD
    have hio' : ∀ i ∈ vs, ∀ c, ρ1[i]? = some (some c) → c.fl ≠ .io := fun i hi c hc => by
      have := List.all_eq_true.mp hio i hi
      exact not_io (by simpa using this) hc
    have hst' : ∀ i ∈ vs, ∀ d : D, ρ1[i]? ≠ some (some (Cel.mk d .st)) := fun i hi d hc => by
      have := List.all_eq_true.mp hio i hi
      exact not_st (by simpa using this) d hc
    have hio0 : ∀ i ∈ vs, ∀ c, ρ[i]? = some (some c) → c.fl ≠ .io := fun i hi c hc hf => by
      obtain ⟨_, c', q1, q2⟩ := x1.io i c hc hf
      exact hio' i hi c' q1 q2
    obtain ⟨bD, nD⟩ := S1.free hD
    have newD : New ρ σ H Dd := x1.back (.inl hD)
    have wk : ∀ i, i ∉ vs → (wipe σ vs)[i]? = σ[i]? := fun i hi => wipe_keep hi
    have wl : (wipe σ vs).length = σ.length := wipe_length σ vs
    -- the start
    have S0 : Sim C.K (wipeR ρ1 vs) σ B1 (upd H1 Dd (.lst [])) := (S1.wipe vs hst' rfl fun _ _ => rfl).tweak bD fun ⟨i, c, h1, h2, h3⟩ => nD ⟨i, c, (wipeR_some h1).1, h2, h3⟩
    have x0 : Ext ρ σ B H (wipeR ρ1 vs) σ B1 (upd H1 Dd (.lst [])) := (x1.wipe vs hio0 fun _ _ => rfl).tweak newD
    refine lc_it ok (fun i Hc => ∃ ρ' B' vacc acc, Sim C.K ρ' σ B' Hc ∧ NoV ρ' vs ∧ Ext ρ σ B H ρ' σ B' Hc ∧ Same B1 B' ∧ Hc Dd = some (.lst vacc) ∧ B' Dd = none ∧ ¬ OwnA ρ' σ Dd ∧ RpL C.K B' vacc acc ∧ GoodE C ρ σ B H Q (lcL vs g (eNox ft) (eNox fe) (ds.drop i) acc ρ'))
      ⟨wipeR ρ1 vs, B1, [], [], S0, noV_wipe, x0, Same.refl _, upd_same, bD, fun ⟨i, c, h1, h2, h3⟩ => nD ⟨i, c, (wipeR_some h1).1, h2, h3⟩, .nil, gd⟩ (fun i Hc _ ⟨ρ', B', _, _, S', _, _, s', _⟩ => Same.transT s' S'.bh) ?_ ?_
    · rintro i v Hc H2 hi ⟨ρ', B', vacc, acc, S', nv, x', s', hacc, bacc, nacc, racc, g'⟩ ⟨d, ed, y⟩
      have hd : ds.drop i = d :: ds.drop (i + 1) := by
        have := List.drop_eq_getElem_cons hi
        rw [this]
        congr 1
        exact Option.some.inj ((List.getElem?_eq_getElem hi).symm.trans ed)
      rw [hd] at g'
      -- the turn's item
      have step : ∃ B2, Sim C.K ρ' σ B2 H2 ∧ Ext ρ σ B H ρ' σ B2 H2 ∧ Same B1 B2 ∧ Rp C.K B2 v d ∧ H2 Dd = some (.lst vacc) ∧ B2 Dd = none ∧ RpL C.K B2 vacc acc := by
        rcases y with ⟨rfl, r⟩ | ⟨T, o, ws, es, rfl, hT, ho, rfl, rfl, r⟩
        · exact ⟨B', S', x', s', r.mono s', hacc, bacc, racc⟩
        · obtain ⟨S2, x2⟩ := S'.newB hT (.frz o (.tup ws))
          have ne : Dd ≠ T := ne_of_none hacc hT
          exact ⟨_, S2, x'.trans x2, s'.trans x2.bb, .tup (XT.new ho) (r.mono (s'.trans x2.bb)), by rw [upd_ne ne]; exact hacc, by rw [upd_ne ne]; exact bacc, racc.mono x2.bb⟩
      obtain ⟨B2, S2, x2, s2, r2, hacc2, bacc2, racc2⟩ := step
      unfold lcL at g'
      cases eg : g d ρ' with
      | none => rw [eg] at g'; exact g'.elim
      | some ρ3 =>
        rw [eg] at g'
        have S2w : Sim C.K ρ' (wipe σ vs) B2 H2 := S2.swap nv wl wk
        refine lg ρ' (wipe σ vs) B2 H2 v d ρ3 _ S2w r2 eg fun σ3 B3 H3 S3 x3 w3 => ?_
        have w3' : wipe σ3 vs = wipe σ vs := by
          rw [w3]
          apply List.ext_getElem?
          intro j
          rw [wipe_get, wl, wipe_get]
          by_cases hj : j ∈ vs <;> simp [hj]
        obtain ⟨l3, k3⟩ := of_wipe w3'
        refine ⟨w3', ?_⟩
        have nacc' : ¬ OwnA ρ' (wipe σ vs) Dd := fun z => nacc (z.swap nv wk)
        obtain ⟨hacc3, bacc3, nacc3⟩ := x3.keepN hacc2 bacc2 nacc'
        -- from the start to here, at σ3
        have x3s : Ext ρ σ B H ρ3 σ3 B3 H3 := x2.trans (x3.swapL nv wk fun j c h1 h2 => k3 j (nv j c h1))
        dsimp only at g'
        refine lt' ρ3 σ3 B3 H3 _ S3 ?_
        cases et : eNox ft ρ3 with
        | stuck => rw [et] at g'; exact g'.elim
        | exc c ρ4 => exact absurd et (eNox_ne _ _)
        | ok h ρ4 =>
          rw [et] at g'
          cases h with
          | fr _ => exact g'.elim
          | bw _ => exact g'.elim
          | sp _ _ => exact g'.elim
          | sh dd =>
            cases dd with
            | bool b =>
              replace g' : GoodE C ρ σ B H Q (if b then bindE (eCap (eNox fe) ρ4) fun h ρ3 => match h with
                | .sh y => if acc.length < sizeLine then lcL vs g (eNox ft) (eNox fe) (ds.drop (i + 1)) (acc ++ [y]) (wipeR ρ3 vs) else .stuck
                | _ => .stuck
                else lcL vs g (eNox ft) (eNox fe) (ds.drop (i + 1)) acc (wipeR ρ4 vs)) := g'
              intro B4 H4 S4 x4
              obtain ⟨hacc4, bacc4, nacc4⟩ := x4.keepN hacc3 bacc3 nacc3
              have x4s : Ext ρ σ B H ρ4 σ3 B4 H4 := x3s.trans x4
              have racc4 := (racc2.mono x3.bb).mono x4.bb
              have hst4 : ∀ i ∈ vs, ∀ d : D, ρ4[i]? ≠ some (some (Cel.mk d .st)) := fun i hi d => S4.noSt (x3.trans x4).tx (fun d q => nv i _ q hi) d
              have s4 : Same B1 B4 := (s2.trans x3.bb).trans x4.bb
              cases b with
              | false =>
                rw [if_neg Bool.false_ne_true] at g' ⊢
                exact ⟨wipeR ρ4 vs, B4, vacc, acc, S4.wipe vs hst4 l3.symm fun j hj => (k3 j hj).symm, noV_wipe, x4s.wipe vs hio0 fun j hj => (k3 j hj).symm, s4, hacc4, bacc4,
                  fun ⟨j, c, h1, h2, h3⟩ => nacc4 ⟨j, c, (wipeR_some h1).1, h2, (k3 j (wipeR_some h1).2).trans h3⟩, racc4, g'⟩
              | true =>
                rw [if_pos rfl] at g' ⊢
                refine le'.cap ρ4 σ3 B4 H4 _ S4 ?_
                cases ee : eCap (eNox fe) ρ4 with
                | stuck => rw [ee] at g'; exact g'.elim
                | exc c ρ5 => exact absurd ee (cap_nox_ne _ _)
                | ok h ρ5 =>
                  rw [ee] at g'
                  cases h with
                  | fr _ => exact g'.elim
                  | bw _ => exact g'.elim
                  | sp _ _ => exact g'.elim
                  | sh y =>
                    replace g' : GoodE C ρ σ B H Q (if acc.length < sizeLine then lcL vs g (eNox ft) (eNox fe) (ds.drop (i + 1)) (acc ++ [y]) (wipeR ρ5 vs) else .stuck) := g'
                    intro u B5 H5 S5 x5 y5
                    obtain ⟨hacc5, bacc5, nacc5⟩ := x5.keepN hacc4 bacc4 nacc4
                    by_cases hsz : acc.length < sizeLine
                    case neg => rw [if_neg hsz] at g'; exact g'.elim
                    rw [if_pos hsz] at g'
                    have nown : ¬ OwnA (wipeR ρ5 vs) σ Dd := fun ⟨j, c, h1, h2, h3⟩ => nacc5 ⟨j, c, (wipeR_some h1).1, h2, (k3 j (wipeR_some h1).2).trans h3⟩
                    refine ⟨vacc, hacc5, by rw [racc.length]; exact hsz, wipeR ρ5 vs, B5, vacc ++ [u], acc ++ [y], (S5.wipe vs (fun i hi d => S5.noSt ((x3.trans x4).trans x5).tx (fun d q => nv i _ q hi) d) l3.symm fun j hj => (k3 j hj).symm).tweak bacc5 nown, noV_wipe,
                      ((x4s.trans x5).wipe vs hio0 fun j hj => (k3 j hj).symm).tweak newD, s4.trans x5.bb, upd_same, bacc5, nown, (racc4.mono x5.bb).append (.cons y5 .nil), g'⟩
            | _ => exact g'.elim
    · rintro Hc ⟨ρ', B', vacc, acc, S', nv, x', s', hacc, bacc, nacc, racc, g'⟩
      rw [List.drop_length] at g'
      exact g' _ B' Hc S' x' ⟨Dd, rfl, bacc, ⟨vacc, hacc, racc⟩, nacc, newD⟩
/-- a comprehension with one for -/
theorem se_lc {elt it : Expr} {ifs : List Expr} {scope : Scope} {own : List (Str × Nat)} {w : TI} {tgt : TG} {tt : TT} {fi : IF} {g : D → Rho → Option Rho} {ft : EF} (hc : X.calm = true) (hN : X.N.Nodup) (li : SI X C tg it w fi) (ok : BlkOk X.N X.env.scope scope own)
    (hg : ∀ (s : Shared) (H : Hp) (c : Addr) (cl : List (Str × Addr)) (fp : List Addr), PG (X.blk s H scope (compEnvC scope cl c X.env) fp) tg tgt) (lg : LkGw C (own.map (·.2)) tgt g)
    (ht : ∀ (s : Shared) (H : Hp) (c : Addr) (cl : List (Str × Addr)) (fp : List Addr), PTs (X.blk s H scope (compEnvC scope cl c X.env) fp) ifs tt) (lt : LkT C.nox tt ft)
    (he : ∀ (s : Shared) (H : Hp) (c : Addr) (cl : List (Str × Addr)) (fp : List Addr), PE (X.blk s H scope (compEnvC scope cl c X.env) fp) elt te) (le : LkE C.nox te fe)
    (hs : ∀ x, foldedSetIterable it X.env x = pure x := by intro _; rfl) : SE X C (.ListComp elt [⟨tg, it, ifs, 0⟩] scope pos) (tLc w tgt tt te (own.map (·.2))) (eLc (own.map (·.2)) fi g (eNox ft) (eNox fe)) :=
  ⟨pe_lc hc hN li.pi ok hg ht he hs, lk_lc li.lk lg lt le⟩
end
end GS
namespace GS
open PySem L2
section
variable {X : Cx} {C : Ct} {ρ ρ1 : Rho} {σ σ1 σ' : St} {B H B1 H1 : Hp} {e tg : Expr} {te : TE} {fe : EF} {pos p : Pos} {vs : List Nat} {K : KW}
theorem Sim.mut (S : Sim K ρ σ B H) {i : Nat} {c : Cel} {a : Addr} {o : HO} {d : D} (hi : ρ[i]? = some (some c)) (hf : c.fl ≠ .sh) (ha : σ[i]? = some (some (.ref a))) (ow : Ow K B a (some o) d) :
    Sim K (ρ.set i (some ⟨d, c.fl⟩)) σ B (upd H a o) ∧ Ext ρ σ B H (ρ.set i (some ⟨d, c.fl⟩)) σ B (upd H a o) := by
  have nst := S.nst hi ha
  obtain ⟨v, ev, ok⟩ := S.sl i c hi nst
  rw [ha] at ev
  cases ev
  rcases ok with ⟨z, _⟩ | ⟨_, b, eb, hb, _⟩
  · exact absurd z hf
  cases eb
  have hs : ∀ (j : Nat) (dd : D), (ρ.set i (some ⟨d, c.fl⟩))[j]? = some (some (Cel.mk dd .st)) → ρ[j]? = some (some (Cel.mk dd .st)) := fun j dd h => st_set (fun d' z => nst (by injection z with z; injection z)) h
  refine ⟨⟨fun b u z => ?_, S.len.set (S.ltσ hi nst), fun j cj hj hjn => ?_, fun j k cj ck b hj hk nj nk ej ek => ?_, S.st.keep (Same.refl B) (fun _ _ _ h => h) (fun b s g z => by rw [upd_ne (ne_of_none z hb)]) hs rfl⟩, ⟨Same.refl B, fun b u z => .inl z, fun b u z n => ?_, fun b z => ?_, fun j cj hj hjf => ?_, fun j cj hj hjf => ?_, .r hs⟩⟩
  · rw [upd_ne (ne_of_none z hb)]; exact S.bh _ _ z
  · rcases set_get hj with ⟨rfl, ec⟩ | ⟨ne, hj⟩
    · cases ec
      exact ⟨.ref a, ha, .inr ⟨hf, a, rfl, hb, by rw [upd_same]; exact ow⟩⟩
    · obtain ⟨v, ev, ok⟩ := S.sl j cj hj hjn
      refine ⟨v, ev, ok.mono (Same.refl B) fun b hv hb' ho' hf' => ⟨hb', ?_⟩⟩
      have nb : b ≠ a := fun z => by
        subst z hv
        exact ne (S.dj i j c cj b hi hj hf hf' ha ev)
      rw [upd_ne nb]
  · have f1 : ∃ c1, ρ[j]? = some (some c1) ∧ c1.fl ≠ .sh := by
      rcases set_get hj with ⟨rfl, ec⟩ | ⟨_, hj⟩
      · cases ec; exact ⟨c, hi, hf⟩
      · exact ⟨cj, hj, nj⟩
    have f2 : ∃ c1, ρ[k]? = some (some c1) ∧ c1.fl ≠ .sh := by
      rcases set_get hk with ⟨rfl, ec⟩ | ⟨_, hk⟩
      · cases ec; exact ⟨c, hi, hf⟩
      · exact ⟨ck, hk, nk⟩
    obtain ⟨c1, a1, a2⟩ := f1
    obtain ⟨c2, b1, b2⟩ := f2
    exact S.dj j k c1 c2 b a1 b1 a2 b2 ej ek
  · have nb : b ≠ a := fun q => by subst q; exact n ⟨i, c, hi, hf, ha⟩
    rw [upd_ne nb]; exact .inl z
  · obtain ⟨j, cj, hj, nj, ej⟩ := z
    rcases set_get hj with ⟨rfl, ec⟩ | ⟨_, hj⟩
    · cases ec; exact .inr ⟨i, c, hi, hf, ej⟩
    · exact .inr ⟨j, cj, hj, nj, ej⟩
  · by_cases hij : i = j
    · subst hij
      rw [hi] at hj
      cases hj
      exact ⟨rfl, _, set_at (lt_of hi), hjf⟩
    · exact ⟨rfl, cj, by rw [set_other hij]; exact hj, hjf⟩
  · rcases set_get hj with ⟨rfl, ec⟩ | ⟨_, hj⟩
    · cases ec; exact ⟨c, hi, hjf⟩
    · exact ⟨cj, hj, hjf⟩
/-- the object of an owned slot -/
theorem Sim.own (S : Sim K ρ σ B H) {i : Nat} {c : Cel} (hi : ρ[i]? = some (some c)) (hf : c.fl ≠ .sh) (hn : c.fl ≠ .st) : ∃ a, σ[i]? = some (some (.ref a)) ∧ B a = none ∧ Ow K B a (H a) c.d := by
  obtain ⟨v, ev, ok⟩ := S.sl i c hi hn
  rcases ok with ⟨z, _⟩ | ⟨_, b, rfl, hb, ho⟩
  · exact absurd z hf
  · exact ⟨b, ev, hb, ho⟩
/-- a slot that may be changed -/
def mutS (ρ : Rho) (i : Nat) (k : D → Option D) : RS := match slot ρ i with
  | some ⟨d, .ow⟩ => match k d with
    | some d' => .nx (ρ.set i (some ⟨d', .ow⟩))
    | none => .stuck
  | some ⟨d, .io⟩ => match k d with
    | some d' => .nx (ρ.set i (some ⟨d', .io⟩))
    | none => .stuck
  | _ => .stuck
theorem mutS_ok {E : Ends} {i : Nat} {k : D → Option D} (g : GoodS C ρ σ B H E (mutS ρ1 i k)) : ∃ c d', ρ1[i]? = some (some c) ∧ c.fl ≠ .sh ∧ c.fl ≠ .st ∧ k c.d = some d' ∧ GoodS C ρ σ B H E (.nx (ρ1.set i (some ⟨d', c.fl⟩))) := by
  unfold mutS at g
  split at g
  · rename_i d es
    split at g
    · rename_i d' ek
      exact ⟨_, d', slot_some es, by simp, by simp, ek, g⟩
    · exact g.elim
  · rename_i d es
    split at g
    · rename_i d' ek
      exact ⟨_, d', slot_some es, by simp, by simp, ek, g⟩
    · exact g.elim
  · exact g.elim
def appD (y : D) : D → Option D
  | .list ds => if ds.length < sizeLine then some (.list (ds ++ [y])) else none
  | _ => none
def isL (ρ : Rho) (i : Nat) : Bool := match slot ρ i with
  | some ⟨.list _, _⟩ => true
  | _ => false
def sApp (i : Nat) (fe : EF) : SF := fun ρ => if isL ρ i then bindES (eCap fe ρ) fun h ρ1 => match h with
  | .sh y => mutS ρ1 i (appD y)
  | _ => .stuck else .stuck
theorem isL_ok (S : Sim K ρ σ B H) {i : Nat} (h : isL ρ i = true) : ∃ a vs, σ[i]? = some (some (.ref a)) ∧ SqL K H a vs := by
  unfold isL at h
  split at h
  · rename_i ds fl es
    have nst : fl ≠ .st := fun z => by
      subst z
      obtain ⟨_, s, μ, e, _⟩ := S.st.at' i _ (slot_some es)
      cases e
    obtain ⟨v, ev, ok⟩ := S.sl i _ (slot_some es) nst
    rcases ok with ⟨_, q⟩ | ⟨_, a, rfl, _, vs, q, _⟩
    · obtain ⟨a, vs, rfl, ha, _⟩ := Rp.lstE q
      exact ⟨a, vs, ev, same_lT S.bh ha⟩
    · exact ⟨a, vs, ev, .inl (.inl q)⟩
  · cases h
theorem tyL {a : Addr} {vs : List V} (h : SqL K H a vs) : tyV K "list" (.ref a) H := .inl ⟨rfl, _, h⟩
theorem ss_app {i : Nat} {x : Str} {q1 q2 q3 : Pos} (l : SE X C e te fe) (hN : X.N[i]? = some x := by rfl) (hv : Vis X.env.scope x := by first | exact Or.inl rfl | exact Or.inr (Or.inl rfl) | exact Or.inr (Or.inr rfl)) (hd : (x == ("__debug__" : Str)) = false := by decide)
    (hcd : (x == ("__classdict__" : Str)) = false := by decide) (hk : X.K = C.K := by rfl) (hs : starEach [e] X.env = (false, eval e X.env) :: starEach [] X.env := by rfl)
    (hfew : ((backTo q3 (starEach [e] X.env)).all (fun x => !x.1) && (backToKw q3 (keywordEach [] X.env)).all (fun x => x.1.isSome) && decide ([e].length + ([] : List Keyword).length + (if ([] : List Keyword).isEmpty then 0 else 1) < 30)) = true := by rfl)
    (hline : (q2.endLine == q3.line) = true := by rfl) :
    SS X C (.Expr (.Call (.Attribute (.Name x q1) "append" q2) [e] [] q3) pos) (tDrop (tBM C.K "list" rAppend (tVar i) (tCons te tNil))) (sApp i fe) := by
  refine ⟨by rw [← hk]; exact ps_expr (pe_bm PySem.F.plainAttrs_list PySem.F.slot_list_append PySem.F.type_list_append mt_append (pe_var hN hv hd hcd) (pa_cons l.pe pa_nil hs) rfl hfew hline hs), fun ρ σ B H E S g => ?_⟩
  unfold sApp at g
  by_cases hl : isL ρ i = true
  case neg => rw [if_neg hl] at g; exact g.elim
  rw [if_pos hl] at g
  obtain ⟨a, vs, ea, sq⟩ := isL_ok S hl
  refine ⟨.ref a, ea, tyL sq, ?_⟩
  refine l.lk.cap.bindS S g fun hd ρ1 v B1 H1 S1 x1 y1 g1 => ?_
  cases hd with
  | sh y =>
    obtain ⟨c, d', h1, h2, hst, h3, h4⟩ := mutS_ok g1
    obtain ⟨a', ea', hb, ow⟩ := S1.own h1 h2 hst
    rw [ea] at ea'
    cases ea'
    obtain ⟨d, fl⟩ := c
    cases d with
    | list ds =>
      obtain ⟨hc, rfl⟩ := if_some (show (if ds.length < sizeLine then some (.list (ds ++ [y])) else none) = some d' from h3)
      obtain ⟨ws, ew, rw'⟩ := ow
      have ow' : Ow C.K B1 a (some (.lst (ws ++ [v]))) (.list (ds ++ [y])) := ⟨_, rfl, rw'.append (.cons y1 .nil)⟩
      obtain ⟨S2, x2⟩ := S1.mut h1 h2 ea ow'
      exact ⟨a, ws, v, rfl, rfl, ew, by rw [rw'.length]; exact hc, h4 _ _ _ S2 (x1.trans x2)⟩
    | _ => cases h3
  | _ => exact g1.elim
end
def ioC : Option Cel → Option Cel
  | some ⟨d, .io⟩ => some ⟨d, .io⟩
  | some ⟨d, .st⟩ => some ⟨d, .st⟩
  | _ => none
def outR (ρ : Rho) (n : Nat) : Rho := (List.range n).map fun i => ioC (slot ρ i)
def fnF (m n : Nat) (g : SF) : FF := fun ρ => match g (ρ ++ List.replicate (m - n) none) with
  | .rt (.bw _) _ => .stuck
  | .rt (.sp _ _) _ => .stuck
  | .rt h ρ1 => .ok h (outR ρ1 n)
  | .nx ρ1 => .ok (.sh .none) (outR ρ1 n)
  | .exc x ρ1 => .exc x (outR ρ1 n)
  | _ => .stuck
theorem ioC_some {o : Option Cel} {c : Cel} (h : ioC o = some c) : o = some c ∧ (c.fl = .io ∨ c.fl = .st) := by
  unfold ioC at h
  split at h
  · cases h; exact ⟨rfl, .inl rfl⟩
  · cases h; exact ⟨rfl, .inr rfl⟩
  · cases h
theorem outR_at {ρ : Rho} {n i : Nat} {c : Cel} (h : (outR ρ n)[i]? = some (some c)) : i < n ∧ ρ[i]? = some (some c) ∧ (c.fl = .io ∨ c.fl = .st) := by
  unfold outR at h
  rw [List.getElem?_map] at h
  by_cases hi : i < n
  · rw [List.getElem?_range hi] at h
    obtain ⟨q1, q2⟩ := ioC_some (Option.some.inj h)
    exact ⟨hi, slot_some q1, q2⟩
  · rw [List.getElem?_eq_none (by rw [List.length_range]; omega)] at h
    cases h
theorem slot_of {ρ : Rho} {i : Nat} {c : Cel} (h : ρ[i]? = some (some c)) : slot ρ i = some c := by
  unfold slot
  rw [h]
theorem outR_has {ρ : Rho} {n i : Nat} {c : Cel} (hi : i < n) (h : ρ[i]? = some (some c)) (hf : c.fl = .io) : (outR ρ n)[i]? = some (some c) := by
  unfold outR
  rw [List.getElem?_map, List.getElem?_range hi]
  show some (ioC (slot ρ i)) = _
  rw [slot_of h]
  obtain ⟨d, fl⟩ := c
  cases hf
  rfl
section
variable {K : KW} {ρ ρ1 : Rho} {σ1 : St} {B H B1 H1 : Hp} {N : List Str} {vs : List V} {n : Nat}
theorem start_get {i : Nat} (h : i < vs.length) : (L2.start N vs)[i]? = (vs.map some)[i]? := by
  unfold L2.start
  rw [List.getElem?_append_left (by simpa using h)]
theorem ap_get {m : Nat} {i : Nat} {c : Cel} (h : (ρ ++ List.replicate m none)[i]? = some (some c)) : i < ρ.length ∧ ρ[i]? = some (some c) := by
  by_cases hi : i < ρ.length
  · rw [List.getElem?_append_left hi] at h; exact ⟨hi, h⟩
  · rw [List.getElem?_append_right (by omega), List.getElem?_replicate] at h
    split at h <;> cases h
theorem ap_of {m : Nat} {i : Nat} {c : Cel} (h : ρ[i]? = some (some c)) : (ρ ++ List.replicate m none)[i]? = some (some c) := by
  rw [List.getElem?_append_left (lt_of h)]; exact h
theorem entry_own {m : Nat} (hl : ρ.length = vs.length) {a : Addr} : OwnA (ρ ++ List.replicate m none) (L2.start N vs) a ↔ OwnA ρ (vs.map some) a := by
  constructor
  · rintro ⟨i, c, h1, h2, h3⟩
    obtain ⟨q1, q2⟩ := ap_get h1
    exact ⟨i, c, q2, h2, by rw [← start_get (by omega)]; exact h3⟩
  · rintro ⟨i, c, h1, h2, h3⟩
    exact ⟨i, c, ap_of h1, h2, by rw [start_get (by have := lt_of h1; omega)]; exact h3⟩
theorem args_noSt (S : Sim K ρ (vs.map some) B H) (hl : ρ.length = vs.length) (i : Nat) (d : D) : ρ[i]? ≠ some (some (Cel.mk d .st)) := fun h => by
  have := (S.st.at' i d h).1
  have := lt_of h
  rw [List.length_map] at *
  omega
theorem entry_sim (S : Sim K ρ (vs.map some) B H) (hl : ρ.length = vs.length) (hN : vs.length ≤ N.length) : Sim K (ρ ++ List.replicate (N.length - vs.length) none) (L2.start N vs) B H := by
  refine ⟨S.bh, ⟨?_, fun i h1 h2 => ?_⟩, fun i c h hs => ?_, fun i j ci cj a hi hj ni nj ei ej => ?_, ⟨fun i d h => absurd (ap_get h).2 (args_noSt S hl i d), S.st.id'⟩⟩
  · unfold L2.start
    rw [List.length_append, List.length_append, List.length_replicate, List.length_replicate, List.length_map, hl]
    omega
  · exfalso
    unfold L2.start at h1
    rw [List.length_append, List.length_replicate] at h2
    rw [List.length_append, List.length_replicate, List.length_map] at h1
    omega
  · obtain ⟨q1, q2⟩ := ap_get h
    obtain ⟨v, ev, ok⟩ := S.sl i c q2 hs
    exact ⟨v, by rw [start_get (by omega)]; exact ev, ok⟩
  · obtain ⟨q1, q2⟩ := ap_get hi
    obtain ⟨q3, q4⟩ := ap_get hj
    rw [start_get (by omega)] at ei ej
    exact S.dj i j ci cj a q2 q4 ni nj ei ej
/-- the body's end as the caller sees it -/
theorem exit_sim {m : Nat} (S : Sim K ρ (vs.map some) B H) (hl : ρ.length = vs.length) (hn : ρ.length = n) (S1 : Sim K ρ1 σ1 B1 H1) (x : Ext (ρ ++ List.replicate m none) (L2.start N vs) B H ρ1 σ1 B1 H1) :
    Sim K (outR ρ1 n) (vs.map some) B1 H1 ∧ Ext ρ (vs.map some) B H (outR ρ1 n) (vs.map some) B1 H1 ∧ (∀ a, OwnA (outR ρ1 n) (vs.map some) a → OwnA ρ1 σ1 a) ∧ ∀ a, New (ρ ++ List.replicate m none) (L2.start N vs) H a → New ρ (vs.map some) H a := by
  have hnew : ∀ a, New (ρ ++ List.replicate m none) (L2.start N vs) H a → New ρ (vs.map some) H a := fun a h => h.imp id (entry_own hl).mp
  have noS : ∀ (i : Nat) (d : D), (ρ ++ List.replicate m none)[i]? ≠ some (some (Cel.mk d .st)) := fun i d h => args_noSt S hl i d (ap_get h).2
  -- a lent slot stands as at the entry
  have same : ∀ (i : Nat) (c : Cel), (outR ρ1 n)[i]? = some (some c) → i < vs.length ∧ ρ1[i]? = some (some c) ∧ c.fl = .io ∧ σ1[i]? = (vs.map some)[i]? := fun i c h => by
    obtain ⟨q1, q2, q3⟩ := outR_at h
    replace q3 : c.fl = .io := q3.elim id fun z => by
      obtain ⟨d, fl⟩ := c
      cases z
      exact absurd q2 (S1.noSt x.tx (noS i) d)
    obtain ⟨c', r1, r2⟩ := x.oi i c q2 q3
    obtain ⟨w1, _⟩ := ap_get r1
    have e := (x.io i c' r1 r2).1
    rw [start_get (by omega)] at e
    exact ⟨by omega, q2, q3, e⟩
  have own : ∀ a, OwnA (outR ρ1 n) (vs.map some) a → OwnA ρ1 σ1 a := fun a ⟨i, c, h1, h2, h3⟩ => by
    obtain ⟨_, q2, _, q4⟩ := same i c h1
    exact ⟨i, c, q2, h2, q4.trans h3⟩
  have noO : ∀ (i : Nat) (d : D), (outR ρ1 n)[i]? ≠ some (some (Cel.mk d .st)) := fun i d h => by
    obtain ⟨_, _, q, _⟩ := same i _ h
    cases q
  have tkB : ∀ a s g, B1 a = some (.met s g) → B a = some (.met s g) := fun a s g q => (x.tx.tn a s g q).elim (fun h => h) fun ⟨i, μ, h⟩ => absurd h (noS i _)
  have noT : ∀ a, ¬ TokA (ρ ++ List.replicate m none) B a := fun a ⟨i, s, μ, g, c, q, _⟩ => noS i _ q
  refine ⟨⟨S1.bh, ⟨?_, fun i h1 h2 => ?_⟩, fun i c h hs => ?_, fun i j ci cj a hi hj ni nj ei ej => ?_, ⟨fun i d h => absurd h (noO i d), S1.st.id'⟩⟩, ⟨x.bb, fun a o h => (x.nw a o h).imp id (hnew a), fun a o h z => .inl (x.keepT h (fun w => z ((entry_own hl).mp w)) (noT a)), fun a h => hnew a (x.sub a (own a h)), fun i c h1 h2 => ?_, fun i c h1 h2 => ?_, .of (fun i d h => absurd h (noO i d)) tkB⟩, own, hnew⟩
  · unfold outR
    rw [List.length_map, List.length_map, List.length_range]
    omega
  · exfalso
    unfold outR at h2
    rw [List.length_map, List.length_range] at h2
    rw [List.length_map] at h1
    omega
  · obtain ⟨_, q2, _, q4⟩ := same i c h
    obtain ⟨v, ev, ok⟩ := S1.sl i c q2 hs
    exact ⟨v, q4.symm.trans ev, ok⟩
  · obtain ⟨_, q2, _, q4⟩ := same i ci hi
    obtain ⟨_, r2, _, r4⟩ := same j cj hj
    exact S1.dj i j ci cj a q2 r2 ni nj (q4.trans ei) (r4.trans ej)
  · obtain ⟨_, c', q1, q2⟩ := x.io i c (ap_of h1) h2
    exact ⟨rfl, c', outR_has (by have := lt_of h1; omega) q1 q2, q2⟩
  · obtain ⟨_, q2, q3, _⟩ := same i c h1
    obtain ⟨c', r1, r2⟩ := x.oi i c q2 q3
    exact ⟨c', (ap_get r1).2, r2⟩
end
section
variable {P : Program} {w : World} {K : KW} {mg : Str → Option Value} {base : Heap} {cv : Str → Value}
abbrev cxF (P : Program) (w : World) (K : PySem.W.Frag) (mg : Str → Option Value) (base : Heap) (N : List Str) (qual : Str) (st : Stmt) (f : Addr) (cdv : Value) (A : Around) (outer : List Env) (s : Shared) (H : Hp) (E : XK) : Cx :=
  cxOf (L2.CX P w) P w K mg base N qual (defScope st) f cdv A outer s H E
abbrev ctF (K : KW) (cv : Str → Value) (E : XK) : Ct := ⟨K, cv, fun cls d _ H' => E cls d H'⟩
/-- THE RULE for a def: from its body -/
theorem fn_mk {x qual : Str} {st : Stmt} {f : Addr} {fd : FuncData} {N ps : List Str} {k : Nat} {g : SF} (F : Fun K x qual st f fd) (S : FnScope N ps (defScope st))
    (hb : ∀ (cdv : Value) (A : Around) (outer : List Env) (s : Shared) (H : Hp) (E : XK), Room k (cxF P w K mg base N qual st f cdv A outer s H E).A → Takes (cxF P w K mg base N qual st f cdv A outer s H E) (ctF K cv E).W →
      PassesOwn (model P w) (cxF P w K mg base N qual st f cdv A outer s H E).A (cxF P w K mg base N qual st f cdv A outer s H E).env (cxF P w K mg base N qual st f cdv A outer s H E).xe →
      ∃ t, SSs (cxF P w K mg base N qual st f cdv A outer s H E) (ctF K cv E) (defBody st) t g) :
    FnOk P w K mg base (L2.CX P w) (k + 1) f fd ps (spF K cv ps.length (fnF N.length ps.length g)) := by
  have hpl : ps.length ≤ N.length := by have := congrArg List.length S.pre; rw [List.length_take] at this; omega
  refine F.okX S (fun vs H Q E h => ?_) (fun cdv A outer s H vs Q E hr h => ?_)
  · obtain ⟨ρ, B, hl, Sm, _⟩ := h
    exact hl.1
  · obtain ⟨ρ, B, ⟨hv, hn⟩, Sm, gd⟩ := h
    have hl : ρ.length = vs.length := by omega
    obtain ⟨t, ht⟩ := hb cdv A outer s H E hr (takes_of rfl rfl rfl rfl) (passes_of rfl)
    refine ⟨t, ht.ps, ht.lk (ρ ++ List.replicate (N.length - ps.length) none) _ B H _ (by rw [← hv]; exact entry_sim Sm hl (by omega)) ?_⟩
    unfold fnF at gd
    cases eg : g (ρ ++ List.replicate (N.length - ps.length) none) with
    | stuck => rw [eg] at gd; exact gd
    | bk _ => rw [eg] at gd; exact gd.elim
    | ct _ => rw [eg] at gd; exact gd.elim
    | nx ρ1 =>
      rw [eg] at gd
      intro σ1 B1 H1 S1 x1
      obtain ⟨S2, x2, _, _⟩ := exit_sim Sm hl hn S1 x1
      exact gd .non B1 H1 S2 x2 .non
    | exc c ρ1 =>
      rw [eg] at gd
      intro cls dct σ1 B1 H1 S1 x1 ok
      obtain ⟨S2, x2, _, _⟩ := exit_sim Sm hl hn S1 x1
      exact gd cls dct B1 H1 S2 x2 ok
    | rt h ρ1 =>
      rw [eg] at gd
      intro v σ1 B1 H1 S1 x1 y1
      obtain ⟨S2, x2, n1, n2⟩ := exit_sim Sm hl hn S1 x1
      cases h with
      | sh d => exact gd v B1 H1 S2 x2 y1
      | fr d =>
        obtain ⟨a, r1, r2, r3, r4, r5⟩ := y1
        exact gd v B1 H1 S2 x2 ⟨a, r1, r2, r3, fun z => r4 (n1 a z), n2 a r5⟩
      | bw i => exact gd.elim
      | sp _ _ => exact gd.elim
theorem fn_zero {f : Addr} {fd : FuncData} {ps : List Str} {n : Nat} (hn : n = ps.length) : FnOk P w K mg base (L2.CX P w) 0 f fd ps (spF K cv n fun _ => .stuck) :=
  ⟨fun vs H Q E ⟨_, _, _, _, h⟩ => h.elim, fun A outer s H args us vs Q E _ _ _ _ ⟨_, _, _, _, h⟩ => h.elim⟩
theorem rpl_ints {B : Hp} : ∀ ns : List Int, RpL K B (ns.map V.int) (ns.map PyData.int)
  | [] => .nil
  | n :: ns => .cons (.int n) (rpl_ints ns)
/-- the law's promise from what it computes -/
theorem law_sp {F : FF} {H : Hp} {a : Addr} {ns : List Int} {outs : Rho} (h : SqL K H a (ns.map V.int)) (e : F [some ⟨.list (ns.map .int), .sh⟩] = .ok (.sh (.bool true)) outs) {E : XK} :
    spF K cv 1 F [.ref a] H (fun v _ => v = .bl true) E := by
  let B : Hp := fun b => if b = a then (match H a with | some (.met _ _) => none | o => o) else none
  have bH : Same B H := fun b o q => by
    show H b = some o
    simp only [B] at q
    split at q
    · rename_i e; subst e
      split at q
      · cases q
      · exact q
    · cases q
  have nm : ∀ b s g, B b ≠ some (.met s g) := fun b s g q => by
    simp only [B] at q
    split at q
    · split at q
      · cases q
      · rename_i n; exact n _ _ q
    · cases q
  have hB : SqL K B a (ns.map V.int) := h.elim (fun r => .inl (by
    have q : ∀ o, (∀ s g, o ≠ .met s g) → H a = some o → B a = some o := fun o n q => by
      simp only [B, if_true]
      rw [q]
      cases o <;> first | rfl | exact absurd rfl (n _ _)
    exact Or.imp (q _ (fun _ _ z => by cases z)) (fun ⟨o, z⟩ => ⟨o, q _ (fun _ _ z => by cases z) z⟩) r)) .inr
  refine ⟨[some ⟨.list (ns.map .int), .sh⟩], B, ⟨rfl, rfl⟩, ⟨Same.t bH, ⟨Nat.le_refl _, fun i h1 h2 => ?_⟩, fun i c hi _ => ?_, fun i j ci cj b hi hj ni nj _ _ => ?_, ⟨fun i d hi => ?_, fun b s g q => absurd q (nm b s g)⟩⟩, ?_⟩
  · simp at h1 h2
    omega
  · match i, hi with
    | 0, hi =>
      cases hi
      exact ⟨.ref a, rfl, .inl ⟨rfl, .lst hB (rpl_ints ns)⟩⟩
    | i + 1, hi => simp at hi
  · match i, hi with
    | 0, hi =>
      cases hi
      exact absurd rfl ni
    | i + 1, hi => simp at hi
  · match i, hi with
    | 0, hi => cases hi
    | i + 1, hi => simp at hi
  · rw [e]
    intro v B' H' S x y
    cases (show Rp K B' v (.bool true) from y)
    rfl
end
end GS
namespace GS
open PySem L2
section
variable {X : Cx} {C : Ct} {ρ ρ1 : Rho} {σ σ1 σ' : St} {B H B1 H1 : Hp} {e tg : Expr} {te : TE} {fe : EF} {pos p : Pos} {vs : List Nat} {K : KW}
/-- a name handed back: its own list is given away -/
def eRv (i : Nat) : EF := fun ρ => match slot ρ i with
  | some ⟨d, .sh⟩ => .ok (.sh d) ρ
  | some ⟨d, .ow⟩ => .ok (.fr d) (ρ.set i none)
  | _ => .stuck
theorem lk_rv {i : Nat} : LkE C (tVar i) (eRv i) := fun ρ σ B H Q S g => by
  unfold eRv at g
  cases h : slot ρ i with
  | none => rw [h] at g; exact g.elim
  | some c =>
    rw [h] at g
    obtain ⟨d, fl⟩ := c
    have hi := slot_some h
    cases fl with
    | sh =>
      obtain ⟨v, e, q⟩ := S.sl i _ hi (by simp)
      rcases q with ⟨_, q⟩ | ⟨q, _⟩
      · exact ⟨v, e, g v B H S Ext.refl q⟩
      · exact absurd rfl q
    | ow =>
      obtain ⟨a, e, S1, x1, r⟩ := S.give hi
      exact ⟨.ref a, e, g _ B H S1 x1 r⟩
    | io => exact g.elim
    | st => exact g.elim
theorem se_rv (i : Nat) {x : Str} (hN : X.N[i]? = some x := by rfl) (hv : Vis X.env.scope x := by first | exact Or.inl rfl | exact Or.inr (Or.inl rfl) | exact Or.inr (Or.inr rfl)) (hd : (x == ("__debug__" : Str)) = false := by decide)
    (hcd : (x == ("__classdict__" : Str)) = false := by decide) : SE X C (.Name x pos) (tVar i) (eRv i) := ⟨pe_var hN hv hd hcd, lk_rv⟩
/-- targets and tests of a comprehension -/
structure SGw (X : Cx) (C : Ct) (vs : List Nat) (tg : Expr) (t : TG) (f : D → Rho → Option Rho) : Prop where
  pg : PG X tg t
  lk : LkGw C vs t f
structure SGws (X : Cx) (C : Ct) (vs : List Nat) (tg : List Expr) (t : TGs) (f : List D → Rho → Option Rho) : Prop where
  pg : PGs X tg t
  lk : LkGws C vs t f
theorem sgw_name {i : Nat} {x : Str} (hN : X.N.Nodup) (hm : i ∈ vs := by simp) (hi : X.N[i]? = some x := by rfl) (hx : Loc X.env.scope x := by first | exact Or.inl rfl | exact Or.inr rfl)
    (hf : X.fn x = true ∨ X.env.scope.names.lookup x = some .local := by first | exact .inl rfl | exact .inr rfl | assumption) : SGw X C vs (.Name x pos) (gName i) (gN i) := ⟨pg_name hN hi hx hf, lkw_N hm⟩
theorem sgws_nil : SGws X C vs [] gNil gsN := ⟨pgs_nil, lkw_nil⟩
theorem sgws_cons {a : Expr} {as : List Expr} {tg : TG} {tgs : TGs} {f : D → Rho → Option Rho} {g : List D → Rho → Option Rho} (h : SGw X C vs a tg f) (t : SGws X C vs as tgs g) (hs : (assignEach (a :: as) X.env).map (·.2) = assign a X.env :: (assignEach as X.env).map (·.2) := by rfl) : SGws X C vs (a :: as) (gCons tg tgs) (gsC f g) := ⟨pgs_cons h.pg t.pg hs, lkw_C h.lk t.lk⟩
theorem sgw_tup {as : List Expr} {tgs : TGs} {n k : Nat} {g : List D → Rho → Option Rho} (hc : X.calm = true) (t : SGws X C vs as tgs g) (hk : X.K = C.K := by rfl) (hn : (assignEach as X.env).length = n := by rfl) (hst : (assignEach as X.env).findIdx? (·.1) = none := by rfl) : SGw X C vs (.Tuple as k pos) (gTL C.K n tgs) (gT n g) := ⟨by rw [← hk]; exact pg_tl hc t.pg hn hst, lkw_T t.lk⟩
structure SP (X : Cx) (C : Ct) (ifs : List Expr) (t : TT) (f : EF) : Prop where
  pt : PTs X ifs t
  lk : LkT C t f
def eYes : EF := fun ρ => .ok (.sh (.bool true)) ρ
theorem sp_nil : SP X C [] tYes eYes := ⟨pts_nil, fun ρ σ B H Q S g => g B H S Ext.refl⟩
theorem sp_one {t : TT} {f : EF} (h : ST X C e t f) : SP X C [e] t f := ⟨pts_one h.pt, h.lk⟩
abbrev bk (X : Cx) (scope : Scope) (s : Shared) (H : Hp) (c : Addr) (cl : List (Str × Addr)) (fp : List Addr) : Cx := X.blk s H scope (compEnvC scope cl c X.env) fp
theorem se_comp {elt it : Expr} {ifs : List Expr} {scope : Scope} {own : List (Str × Nat)} {w : TI} {tgt : TG} {tt : TT} {fi : IF} {g : D → Rho → Option Rho} {ft : EF} (hc : X.calm = true) (hN : X.N.Nodup) (ok : BlkOk X.N X.env.scope scope own) (li : SI X C tg it w fi)
    (hg : ∀ s H c cl fp, SGw (bk X scope s H c cl fp) C (own.map (·.2)) tg tgt g) (ht : ∀ s H c cl fp, SP (bk X scope s H c cl fp) C.nox ifs tt ft) (he : ∀ s H c cl fp, SE (bk X scope s H c cl fp) C.nox elt te fe)
    (hs : ∀ x, foldedSetIterable it X.env x = pure x := by intro _; rfl) : SE X C (.ListComp elt [⟨tg, it, ifs, 0⟩] scope pos) (tLc w tgt tt te (own.map (·.2))) (eLc (own.map (·.2)) fi g (eNox ft) (eNox fe)) :=
  se_lc hc hN li ok (fun s H c cl fp => (hg s H c cl fp).pg) (hg X.s_0 X.H_0 0 [] []).lk (fun s H c cl fp => (ht s H c cl fp).pt) (ht X.s_0 X.H_0 0 [] []).lk (fun s H c cl fp => (he s H c cl fp).pe) (he X.s_0 X.H_0 0 [] []).lk hs
/-- x = [..] -/
theorem ss_setLc {i : Nat} {y : Str} {py spos : Pos} {elt it : Expr} {ifs : List Expr} {scope : Scope} {own : List (Str × Nat)} {w : TI} {tgt : TG} {tt : TT} {fi : IF} {g : D → Rho → Option Rho} {ft : EF} (hc : X.calm = true) (hN : X.N.Nodup) (ok : BlkOk X.N X.env.scope scope own) (li : SI X C tg it w fi)
    (hg : ∀ s H c cl fp, SGw (bk X scope s H c cl fp) C (own.map (·.2)) tg tgt g) (ht : ∀ s H c cl fp, SP (bk X scope s H c cl fp) C.nox ifs tt ft) (he : ∀ s H c cl fp, SE (bk X scope s H c cl fp) C.nox elt te fe)
    (hsw : swapsWith (.ListComp elt [⟨tg, it, ifs, 0⟩] scope pos) (some (.Name y py)) spos.line X.env = pure true) (hy : X.N[i]? = some y := by rfl) (hyl : X.env.scope.names.lookup y = some .local := by rfl)
    (hs : ∀ x, foldedSetIterable it X.env x = pure x := by intro _; rfl) : SS X C (.Assign [.Name y py] (.ListComp elt [⟨tg, it, ifs, 0⟩] scope pos) spos) (tAsg (tLc w tgt tt te (own.map (·.2))) (gName i)) (sSet i (eLc (own.map (·.2)) fi g (eNox ft) (eNox fe))) :=
  ⟨ps_setLc hc hN hy hyl hsw li.pi ok (fun s H c cl fp => (hg s H c cl fp).pg) (fun s H c cl fp => (ht s H c cl fp).pt) (fun s H c cl fp => (he s H c cl fp).pe) hs,
    lk_set (lk_lc li.lk (hg X.s_0 X.H_0 0 [] []).lk (ht X.s_0 X.H_0 0 [] []).lk (he X.s_0 X.H_0 0 [] []).lk)⟩
end
theorem fn_of' {P : Program} {w : World} {K : KW} {mg : Str → Option Value} {base : Heap} {cv : Str → Value} {x qual : Str} {st : Stmt} {f : Addr} {fd : FuncData} (N : List Str) {ps : List Str} {k m n : Nat} {g : SF} (hm : N.length = m) (hn : ps.length = n) (F : Fun K x qual st f fd) (S : FnScope N ps (defScope st))
    (hb : ∀ (cdv : Value) (A : Around) (outer : List Env) (s : Shared) (H : Hp) (E : XK), Room k (cxF P w K mg base N qual st f cdv A outer s H E).A → Takes (cxF P w K mg base N qual st f cdv A outer s H E) (ctF K cv E).W →
      PassesOwn (model P w) (cxF P w K mg base N qual st f cdv A outer s H E).A (cxF P w K mg base N qual st f cdv A outer s H E).env (cxF P w K mg base N qual st f cdv A outer s H E).xe →
      ∃ t, SSs (cxF P w K mg base N qual st f cdv A outer s H E) (ctF K cv E) (defBody st) t g) :
    FnOk P w K mg base (L2.CX P w) (k + 1) f fd ps (spF K cv n (fnF m n g)) := by
  subst hm hn
  exact fn_mk F S hb
end GS
namespace GS
open PySem L2
section
variable {ρ ρ1 : Rho} {c : Prop} [Decidable c]
@[simp] theorem bindE_ok (h : Hd) (k : Hd → Rho → RE) : bindE (.ok h ρ) k = k h ρ := rfl
@[simp] theorem bindE_st (k : Hd → Rho → RE) : bindE .stuck k = .stuck := rfl
@[simp] theorem bindE_ex (x : Xc) (k : Hd → Rho → RE) : bindE (.exc x ρ) k = .exc x ρ := rfl
@[simp] theorem bindE_if (a b : RE) (k : Hd → Rho → RE) : bindE (if c then a else b) k = if c then bindE a k else bindE b k := by split <;> rfl
@[simp] theorem bindB_ok (b : Bool) (k : Bool → Rho → RE) : bindB (.ok (.sh (.bool b)) ρ) k = k b ρ := rfl
@[simp] theorem bindB_st (k : Bool → Rho → RE) : bindB .stuck k = .stuck := rfl
@[simp] theorem bindB_ex (x : Xc) (k : Bool → Rho → RE) : bindB (.exc x ρ) k = .exc x ρ := rfl
@[simp] theorem bindB_if (a b : RE) (k : Bool → Rho → RE) : bindB (if c then a else b) k = if c then bindB a k else bindB b k := by split <;> rfl
@[simp] theorem bindA_ok (h : List Hd) (k : List Hd → Rho → RE) : bindA (.ok h ρ) k = k h ρ := rfl
@[simp] theorem bindA_st (k : List Hd → Rho → RE) : bindA .stuck k = .stuck := rfl
@[simp] theorem bindA_ex (x : Xc) (k : List Hd → Rho → RE) : bindA (.exc x ρ) k = .exc x ρ := rfl
@[simp] theorem bindA_if (a b : RA) (k : List Hd → Rho → RE) : bindA (if c then a else b) k = if c then bindA a k else bindA b k := by split <;> rfl
@[simp] theorem bindES_ok (h : Hd) (k : Hd → Rho → RS) : bindES (.ok h ρ) k = k h ρ := rfl
@[simp] theorem bindES_st (k : Hd → Rho → RS) : bindES .stuck k = .stuck := rfl
@[simp] theorem bindES_ex (x : Xc) (k : Hd → Rho → RS) : bindES (.exc x ρ) k = .exc x ρ := rfl
@[simp] theorem bindES_if (a b : RE) (k : Hd → Rho → RS) : bindES (if c then a else b) k = if c then bindES a k else bindES b k := by split <;> rfl
@[simp] theorem bindBS_ok (b : Bool) (k : Bool → Rho → RS) : bindBS (.ok (.sh (.bool b)) ρ) k = k b ρ := rfl
@[simp] theorem bindBS_st (k : Bool → Rho → RS) : bindBS .stuck k = .stuck := rfl
@[simp] theorem bindBS_ex (x : Xc) (k : Bool → Rho → RS) : bindBS (.exc x ρ) k = .exc x ρ := rfl
@[simp] theorem bindBS_if (a b : RE) (k : Bool → Rho → RS) : bindBS (if c then a else b) k = if c then bindBS a k else bindBS b k := by split <;> rfl
@[simp] theorem bindEI_ok (h : Hd) (k : Hd → Rho → RI) : bindEI (.ok h ρ) k = k h ρ := rfl
@[simp] theorem bindEI_st (k : Hd → Rho → RI) : bindEI .stuck k = .stuck := rfl
@[simp] theorem bindEI_ex (x : Xc) (k : Hd → Rho → RI) : bindEI (.exc x ρ) k = .exc x ρ := rfl
@[simp] theorem bindEI_if (a b : RE) (k : Hd → Rho → RI) : bindEI (if c then a else b) k = if c then bindEI a k else bindEI b k := by split <;> rfl
@[simp] theorem bindS_nx (k : Rho → RS) : bindS (.nx ρ) k = k ρ := rfl
@[simp] theorem bindS_st (k : Rho → RS) : bindS .stuck k = .stuck := rfl
@[simp] theorem bindS_rt (h : Hd) (k : Rho → RS) : bindS (.rt h ρ) k = .rt h ρ := rfl
@[simp] theorem bindS_ex (x : Xc) (k : Rho → RS) : bindS (.exc x ρ) k = .exc x ρ := rfl
@[simp] theorem bindS_bk (k : Rho → RS) : bindS (.bk ρ) k = .bk ρ := rfl
@[simp] theorem bindS_ct (k : Rho → RS) : bindS (.ct ρ) k = .ct ρ := rfl
@[simp] theorem bindS_if (a b : RS) (k : Rho → RS) : bindS (if c then a else b) k = if c then bindS a k else bindS b k := by split <;> rfl
@[simp] theorem slot_nil (i : Nat) : slot [] i = none := rfl
@[simp] theorem slot_zero (x : Option Cel) : slot (x :: ρ) 0 = x := by cases x <;> rfl
@[simp] theorem slot_succ (x : Option Cel) (i : Nat) : slot (x :: ρ) (i + 1) = slot ρ i := rfl
@[simp] theorem getH_sh (d : D) : getH ρ (.sh d) = some d := rfl
@[simp] theorem getH_fr (d : D) : getH ρ (.fr d) = some d := rfl
@[simp] theorem getH_bw (i : Nat) : getH ρ (.bw i) = (slot ρ i).map (·.d) := rfl
@[simp] theorem setl_sh (d : D) : setl (.sh d) = .sh d := rfl
@[simp] theorem setl_fr (d : D) : setl (.fr d) = .sh d := rfl
@[simp] theorem setl_bw (i : Nat) : setl (.bw i) = .bw i := rfl
@[simp] theorem capH_sh (d : D) : capH ρ (.sh d) = some d := rfl
@[simp] theorem capH_fr (d : D) : capH ρ (.fr d) = some d := rfl
@[simp] theorem capH_bw (i : Nat) : capH ρ (.bw i) = match slot ρ i with | some ⟨d, .sh⟩ => some d | _ => none := rfl
@[simp] theorem eC_eq (d : D) : eC d ρ = .ok (.sh d) ρ := rfl
@[simp] theorem eVb_eq (i : Nat) : eVb i ρ = match slot ρ i with | some ⟨_, .st⟩ => .stuck | some _ => .ok (.bw i) ρ | none => .stuck := rfl
@[simp] theorem eMv_eq (i : Nat) : eMv i ρ = match slot ρ i with | some ⟨d, .sh⟩ => .ok (.sh d) ρ | some ⟨d, .ow⟩ => .ok (.sh d) (ρ.set i (some ⟨d, .sh⟩)) | _ => .stuck := rfl
@[simp] theorem eRv_eq (i : Nat) : eRv i ρ = match slot ρ i with | some ⟨d, .sh⟩ => .ok (.sh d) ρ | some ⟨d, .ow⟩ => .ok (.fr d) (ρ.set i none) | _ => .stuck := rfl
@[simp] theorem eCap_eq (f : EF) : eCap f ρ = bindE (f ρ) fun h ρ' => match capH ρ' h with | some d => .ok (.sh d) ρ' | none => .stuck := rfl
@[simp] theorem eSet_eq (f : EF) : eSet f ρ = bindE (f ρ) fun h ρ' => .ok (setl h) ρ' := rfl
/-- of two data -/
def resO (o : Option Hd) (ρ : Rho) : RE := match o with | some h => .ok h ρ | none => .stuck
@[simp] theorem resO_s (h : Hd) : resO (some h) ρ = .ok h ρ := rfl
@[simp] theorem resO_n : resO none ρ = .stuck := rfl
@[simp] theorem resO_if (a b : Option Hd) : resO (if c then a else b) ρ = if c then resO a ρ else resO b ρ := by split <;> rfl
def bin2 (o : D → D → Option Hd) (a b : Option D) (ρ : Rho) : RE := match a, b with
  | some x, some y => resO (o x y) ρ
  | _, _ => .stuck
@[simp] theorem bin2_s (o : D → D → Option Hd) (x y : D) : bin2 o (some x) (some y) ρ = resO (o x y) ρ := rfl
@[simp] theorem eBin_eq (o : D → D → Option Hd) (f g : EF) : eBin o f g ρ = bindE (eSet f ρ) fun ha ρ1 => bindE (eSet g ρ1) fun hb ρ2 => bin2 o (getH ρ2 ha) (getH ρ2 hb) ρ2 := by
  unfold eBin bin2 resO
  rfl
def chn (o' : D → D → Option Hd) (hb : Hd) (fc : EF) (r : Option Hd) (ρ2 : Rho) : RE := match r with
  | some (.sh (.bool b)) => if b then bindE (eSet fc ρ2) (fun hc ρ3 => bin2 o' (getH ρ3 hb) (getH ρ3 hc) ρ3) else .ok (.sh (.bool false)) ρ2
  | _ => .stuck
@[simp] theorem chn_b (o' : D → D → Option Hd) (hb : Hd) (fc : EF) (b : Bool) : chn o' hb fc (some (.sh (.bool b))) ρ = if b then bindE (eSet fc ρ) (fun hc ρ3 => bin2 o' (getH ρ3 hb) (getH ρ3 hc) ρ3) else .ok (.sh (.bool false)) ρ := rfl
def chn0 (o o' : D → D → Option Hd) (hb : Hd) (fc : EF) (a b : Option D) (ρ2 : Rho) : RE := match a, b with
  | some x, some y => chn o' hb fc (o x y) ρ2
  | _, _ => .stuck
@[simp] theorem chn0_s (o o' : D → D → Option Hd) (hb : Hd) (fc : EF) (x y : D) : chn0 o o' hb fc (some x) (some y) ρ = chn o' hb fc (o x y) ρ := rfl
@[simp] theorem eChain_eq (o o' : D → D → Option Hd) (fa fb fc : EF) : eChain o o' fa fb fc ρ = bindE (eSet fa ρ) fun ha ρ1 => bindE (eSet fb ρ1) fun hb ρ2 => chn0 o o' hb fc (getH ρ2 ha) (getH ρ2 hb) ρ2 := by
  unfold eChain chn0 chn bin2 resO
  rfl
def tst (d : Option D) (ρ : Rho) : RE := match d with
  | some (.bool b) => .ok (.sh (.bool b)) ρ
  | _ => .stuck
@[simp] theorem tst_b (b : Bool) : tst (some (.bool b)) ρ = .ok (.sh (.bool b)) ρ := rfl
@[simp] theorem eB_eq (f : EF) : eB f ρ = bindE (eSet f ρ) fun h ρ1 => tst (getH ρ1 h) ρ1 := by unfold eB tst; rfl
@[simp] theorem eNot_eq (f : EF) : eNot f ρ = bindB (f ρ) fun b ρ1 => .ok (.sh (.bool (!b))) ρ1 := rfl
@[simp] theorem eAnd_eq (f g : EF) : eAnd f g ρ = bindB (f ρ) fun b ρ1 => if b then g ρ1 else .ok (.sh (.bool false)) ρ1 := rfl
@[simp] theorem eOr_eq (f g : EF) : eOr f g ρ = bindB (f ρ) fun b ρ1 => if b then .ok (.sh (.bool true)) ρ1 else g ρ1 := rfl
@[simp] theorem eIf_eq (f g h : EF) : eIf f g h ρ = bindB (f ρ) fun b ρ1 => if b then g ρ1 else h ρ1 := rfl
@[simp] theorem ePart_n (k : Option Int → Rho → RE) : ePart none ρ k = k none ρ := rfl
def partR (d : Option D) (ρ : Rho) (k : Option Int → Rho → RE) : RE := match d with
  | some (.int i) => k (some i) ρ
  | _ => .stuck
@[simp] theorem partR_i (i : Int) (k : Option Int → Rho → RE) : partR (some (.int i)) ρ k = k (some i) ρ := rfl
@[simp] theorem ePart_s (f : EF) (k : Option Int → Rho → RE) : ePart (some f) ρ k = bindE (eSet f ρ) fun h ρ1 => partR (getH ρ1 h) ρ1 k := by unfold ePart partR; rfl
@[simp] theorem eSl_eq (fe : EF) (fl fh : Option EF) : eSl fe fl fh ρ = bindE (eSet fe ρ) fun h ρ1 => ePart fl ρ1 fun lo ρ2 => ePart fh ρ2 fun hi ρ3 => resO ((getH ρ3 h).bind (slD lo hi)) ρ3 := by unfold eSl resO; rfl
@[simp] theorem aNil_eq : aNil ρ = .ok [] ρ := rfl
def consA (h : Hd) (r : RA) : RA := match r with
  | .stuck => .stuck
  | .exc x ρ2 => .exc x ρ2
  | .ok hs ρ2 => .ok (h :: hs) ρ2
def bindEA (r : RE) (k : Hd → Rho → RA) : RA := match r with
  | .stuck => .stuck
  | .exc x ρ1 => .exc x ρ1
  | .ok h ρ1 => k h ρ1
@[simp] theorem bindEA_ok (h : Hd) (k : Hd → Rho → RA) : bindEA (.ok h ρ) k = k h ρ := rfl
@[simp] theorem bindEA_st (k : Hd → Rho → RA) : bindEA .stuck k = .stuck := rfl
@[simp] theorem bindEA_ex (x : Xc) (k : Hd → Rho → RA) : bindEA (.exc x ρ) k = .exc x ρ := rfl
@[simp] theorem bindEA_if (a b : RE) (k : Hd → Rho → RA) : bindEA (if c then a else b) k = if c then bindEA a k else bindEA b k := by split <;> rfl
@[simp] theorem consA_ok (h : Hd) (hs : List Hd) : consA h (.ok hs ρ) = .ok (h :: hs) ρ := rfl
@[simp] theorem consA_st (h : Hd) : consA h .stuck = .stuck := rfl
@[simp] theorem consA_if (h : Hd) (a b : RA) : consA h (if c then a else b) = if c then consA h a else consA h b := by split <;> rfl
@[simp] theorem aCons_eq (f : EF) (g : AF) : aCons f g ρ = bindEA (eSet f ρ) fun h ρ1 => consA h (g ρ1) := by unfold aCons bindEA consA; rfl
@[simp] theorem shs_nil : shs [] = some [] := rfl
@[simp] theorem shs_cons (d : D) (hs : List Hd) : shs (.sh d :: hs) = (shs hs).map (d :: ·) := rfl
def tupR (d : Option (List D)) (ρ : Rho) : RE := match d with
  | some ds => if ds.length ≤ 1000 then .ok (.sh (.tuple ds)) ρ else .stuck
  | none => .stuck
def lstR (d : Option (List D)) (ρ : Rho) : RE := match d with
  | some ds => if ds.length ≤ 1000 then .ok (.fr (.list ds)) ρ else .stuck
  | none => .stuck
@[simp] theorem tupR_s (ds : List D) : tupR (some ds) ρ = if ds.length ≤ 1000 then .ok (.sh (.tuple ds)) ρ else .stuck := rfl
@[simp] theorem lstR_s (ds : List D) : lstR (some ds) ρ = if ds.length ≤ 1000 then .ok (.fr (.list ds)) ρ else .stuck := rfl
@[simp] theorem eTup_eq (f : AF) : eTup f ρ = bindA (f ρ) fun hs ρ1 => tupR (shs hs) ρ1 := by unfold eTup tupR; rfl
@[simp] theorem eLst_eq (f : AF) : eLst f ρ = bindA (f ρ) fun hs ρ1 => lstR (shs hs) ρ1 := by unfold eLst lstR; rfl
@[simp] theorem gets_nil : gets ρ [] = some [] := rfl
def cons2 (a : Option D) (b : Option (List D)) : Option (List D) := match a, b with
  | some d, some ds => some (d :: ds)
  | _, _ => none
@[simp] theorem cons2_s (d : D) (ds : List D) : cons2 (some d) (some ds) = some (d :: ds) := rfl
@[simp] theorem gets_cons (h : Hd) (hs : List Hd) : gets ρ (h :: hs) = cons2 (getH ρ h) (gets ρ hs) := by
  unfold cons2
  rw [gets]
  try rfl
@[simp] theorem eCB_eq (o : List D → Option Hd) (f : AF) : eCB o f ρ = bindA (f ρ) fun hs ρ1 => resO ((gets ρ1 hs).bind o) ρ1 := by unfold eCB resO; rfl
@[simp] theorem un1_1 (o : D → Option Hd) (d : D) : un1 o [d] = o d := rfl
@[simp] theorem un2_2 (o : D → D → Option Hd) (d e : D) : un2 o [d, e] = o d e := rfl
def isiR (p : D → Bool) (d : Option D) (ρ : Rho) : RE := match d with
  | some d => .ok (.sh (.bool (p d))) ρ
  | none => .stuck
@[simp] theorem isiR_s (p : D → Bool) (d : D) : isiR p (some d) ρ = .ok (.sh (.bool (p d))) ρ := rfl
@[simp] theorem eIsi_eq (p : D → Bool) (f : EF) : eIsi p f ρ = bindE (eSet f ρ) fun h ρ1 => isiR p (getH ρ1 h) ρ1 := by unfold eIsi isiR; rfl
@[simp] theorem isTup_t (ds : List D) : isTup (.tuple ds) = true := rfl
@[simp] theorem isBool_b (b : Bool) : isBool (.bool b) = true := rfl
@[simp] theorem isStr_s (b : Str) : isStr (.str b) = true := rfl
@[simp] theorem sNil_eq : sNil ρ = .nx ρ := rfl
@[simp] theorem sSeq_eq (f g : SF) : sSeq f g ρ = bindS (f ρ) g := rfl
def retR (h : Hd) (ρ : Rho) : RS := match h with
  | .bw i => match capH ρ (.bw i) with
    | some d => .rt (.sh d) ρ
    | none => .stuck
  | .sp _ _ => .stuck
  | h => .rt h ρ
@[simp] theorem retR_sh (d : D) : retR (.sh d) ρ = .rt (.sh d) ρ := rfl
@[simp] theorem retR_fr (d : D) : retR (.fr d) ρ = .rt (.fr d) ρ := rfl
@[simp] theorem sRet_eq (f : EF) : sRet f ρ = bindES (f ρ) retR := by unfold sRet; rfl
@[simp] theorem sIf_eq (ft : EF) (f g : SF) : sIf ft f g ρ = bindBS (ft ρ) fun b ρ1 => if b then f ρ1 else g ρ1 := rfl
@[simp] theorem ioAt_nil (i : Nat) : ioAt [] i = false := rfl
@[simp] theorem ioAt_zn : ioAt (none :: ρ) 0 = false := rfl
@[simp] theorem ioAt_zs (d : D) : ioAt (some ⟨d, .sh⟩ :: ρ) 0 = false := rfl
@[simp] theorem ioAt_zo (d : D) : ioAt (some ⟨d, .ow⟩ :: ρ) 0 = false := rfl
@[simp] theorem ioAt_succ (x : Option Cel) (i : Nat) : ioAt (x :: ρ) (i + 1) = ioAt ρ i := rfl
@[simp] theorem sSet_eq (i : Nat) (f : EF) : sSet i f ρ = bindES (f ρ) fun h ρ1 => setHd ρ1 i h := rfl
@[simp] theorem setHd_sh (i : Nat) (d : D) : setHd ρ i (.sh d) = setR ρ i ⟨d, .sh⟩ := rfl
@[simp] theorem setHd_fr (i : Nat) (d : D) : setHd ρ i (.fr d) = setR ρ i ⟨d, .ow⟩ := rfl
def bindI (r : RI) (k : List D → Rho → RS) : RS := match r with
  | .stuck => .stuck
  | .exc x ρ1 => .exc x ρ1
  | .ok ds ρ1 => k ds ρ1
@[simp] theorem bindI_ok (ds : List D) (k : List D → Rho → RS) : bindI (.ok ds ρ) k = k ds ρ := rfl
@[simp] theorem bindI_st (k : List D → Rho → RS) : bindI .stuck k = .stuck := rfl
@[simp] theorem bindI_if (a b : RI) (k : List D → Rho → RS) : bindI (if c then a else b) k = if c then bindI a k else bindI b k := by split <;> rfl
@[simp] theorem sFor_eq (fi : IF) (g : D → Rho → Option Rho) (b : SF) : sFor fi g b ρ = bindI (fi ρ) fun ds ρ1 => forL g b ds ρ1 := by unfold sFor bindI; rfl
def seqR (h : Hd) (ρ : Rho) : RI := match h with
  | .sh d => match items d with
    | some ds => .ok ds ρ
    | none => .stuck
  | _ => .stuck
@[simp] theorem seqR_l (ds : List D) : seqR (.sh (.list ds)) ρ = .ok ds ρ := rfl
@[simp] theorem seqR_t (ds : List D) : seqR (.sh (.tuple ds)) ρ = .ok ds ρ := rfl
@[simp] theorem seqR_s (z : Str) : seqR (.sh (.str z)) ρ = .ok (z.cps.toList.map fun c => .str ⟨#[c]⟩) ρ := rfl
@[simp] theorem iSq_eq (f : EF) : iSq f ρ = bindEI (eCap f ρ) seqR := by unfold iSq; rfl
def rgR (d : Option D) (ρ : Rho) : RI := match d with
  | some (.int j) => if okR j then .ok (rgD 0 j.toNat) ρ else .stuck
  | _ => .stuck
@[simp] theorem rgR_i (j : Int) : rgR (some (.int j)) ρ = if okR j then .ok (rgD 0 j.toNat) ρ else .stuck := rfl
@[simp] theorem iR1_eq (f : EF) : iR1 f ρ = bindEI (eSet f ρ) fun h ρ1 => rgR (getH ρ1 h) ρ1 := by unfold iR1 rgR; rfl
def bindIE (r : RI) (k : List D → Rho → RE) : RE := match r with
  | .stuck => .stuck
  | .exc x ρ1 => .exc x ρ1
  | .ok ds ρ1 => k ds ρ1
@[simp] theorem bindIE_ok (ds : List D) (k : List D → Rho → RE) : bindIE (.ok ds ρ) k = k ds ρ := rfl
@[simp] theorem bindIE_st (k : List D → Rho → RE) : bindIE .stuck k = .stuck := rfl
@[simp] theorem bindIE_if (a b : RI) (k : List D → Rho → RE) : bindIE (if c then a else b) k = if c then bindIE a k else bindIE b k := by split <;> rfl
@[simp] theorem eLc_eq (vs : List Nat) (fi : IF) (g : D → Rho → Option Rho) (ft fe : EF) : eLc vs fi g ft fe ρ = bindIE (fi ρ) fun ds ρ1 => if vs.all fun i => !ioAt ρ1 i then lcL vs g ft fe ds [] (wipeR ρ1 vs) else .stuck := by unfold eLc bindIE; rfl
@[simp] theorem eNox_eq (f : EF) : eNox f ρ = match f ρ with | .exc _ _ => .stuck | r => r := rfl
@[simp] theorem wipeR_nil : wipeR ρ [] = ρ := rfl
@[simp] theorem wipeR_cons (v : Nat) (vs : List Nat) : wipeR ρ (v :: vs) = (wipeR ρ vs).set v none := rfl
@[simp] theorem addD_i (i j : Int) : addD (.int i) (.int j) = some (.sh (.int (i + j))) := rfl
@[simp] theorem addD_s (i j : Str) : addD (.str i) (.str j) = if i.length + j.length ≤ sizeLine then some (.sh (.str (i ++ j))) else none := rfl
@[simp] theorem addD_t (i j : List D) : addD (.tuple i) (.tuple j) = if i.length + j.length ≤ sizeLine then some (.sh (.tuple (i ++ j))) else none := rfl
@[simp] theorem addD_l (i j : List D) : addD (.list i) (.list j) = if i.length + j.length ≤ sizeLine then some (.fr (.list (i ++ j))) else none := rfl
@[simp] theorem subD_i (i j : Int) : subD (.int i) (.int j) = some (.sh (.int (i - j))) := rfl
theorem mulD_i (i j : Int) : mulD (.int i) (.int j) = if cMul i j then some (.sh (.int (i * j))) else none := rfl
theorem divD_i (i j : Int) : divD (.int i) (.int j) = if decide (0 < j) && Nat.ble j.natAbs 1073741823 then some (.sh (.int (i / j))) else none := rfl
theorem modD_i (i j : Int) : modD (.int i) (.int j) = if decide (0 < j) then some (.sh (.int (i % j))) else none := rfl
@[simp] theorem resO_div {i j : Int} (h0 : 0 < j) (h1 : j < 1073741824) : resO (divD (.int i) (.int j)) ρ = .ok (.sh (.int (i / j))) ρ := by
  rw [divD_i, decide_eq_true h0, Nat.ble_eq_true_of_le (show j.natAbs ≤ 1073741823 by omega)]; rfl
@[simp] theorem resO_mod {i j : Int} (h0 : 0 < j) : resO (modD (.int i) (.int j)) ρ = .ok (.sh (.int (i % j))) ρ := by
  rw [modD_i, decide_eq_true h0]; rfl
@[simp] theorem resO_mul {i j : Int} (h : cMul i j = true) : resO (mulD (.int i) (.int j)) ρ = .ok (.sh (.int (i * j))) ρ := by
  rw [mulD_i, h]; rfl
@[simp] theorem ltI_i (f : Int → Int → Bool) (i j : Int) : ltI f (.int i) (.int j) = some (.sh (.bool (f i j))) := rfl
@[simp] theorem lenD_l (ds : List D) : lenD (.list ds) = some (.sh (.int ds.length)) := rfl
@[simp] theorem lenD_t (ds : List D) : lenD (.tuple ds) = some (.sh (.int ds.length)) := rfl
@[simp] theorem lenD_s (z : Str) : lenD (.str z) = if z.length ≤ sizeLine then some (.sh (.int z.length)) else none := rfl
@[simp] theorem ixD_l (ds : List D) (i : Int) : ixD (.list ds) (.int i) = (atI ds i).map Hd.sh := rfl
@[simp] theorem ixD_t (ds : List D) (i : Int) : ixD (.tuple ds) (.int i) = (atI ds i).map Hd.sh := rfl
@[simp] theorem ixD_s (z : Str) (i : Int) : ixD (.str z) (.int i) = if z.length ≤ sizeLine then (atI z.cps.toList i).map fun c => Hd.sh (.str ⟨#[c]⟩) else none := rfl
@[simp] theorem slD_l (lo hi : Option Int) (ds : List D) : slD lo hi (.list ds) = some (.fr (.list (cutD ds lo hi))) := rfl
@[simp] theorem slD_t (lo hi : Option Int) (ds : List D) : slD lo hi (.tuple ds) = some (.sh (.tuple (cutD ds lo hi))) := rfl
@[simp] theorem slD_s (lo hi : Option Int) (z : Str) : slD lo hi (.str z) = if z.length ≤ sizeLine then some (.sh (.str (cutS z lo hi))) else none := rfl
@[simp] theorem tupleD_l (ds : List D) : tupleD (.list ds) = some (.sh (.tuple ds)) := rfl
@[simp] theorem tupleD_t (ds : List D) : tupleD (.tuple ds) = some (.sh (.tuple ds)) := rfl
@[simp] theorem inD_c (neg : Bool) (c : Nat) (z : Str) : inD neg (.str ⟨#[c]⟩) (.str z) = some (.sh (.bool (neg ^^ decide (c ∈ z.cps.toList)))) := rfl
end
end GS
namespace GS
open PySem L2
section
variable {ρ ρ1 : Rho} {c : Prop} [Decidable c]
/-- a def's end -/
def finR (n : Nat) (r : RS) : RE := match r with
  | .rt (.bw _) _ => .stuck
  | .rt (.sp _ _) _ => .stuck
  | .rt h ρ1 => .ok h (outR ρ1 n)
  | .nx ρ1 => .ok (.sh .none) (outR ρ1 n)
  | .exc x ρ1 => .exc x (outR ρ1 n)
  | _ => .stuck
@[simp] theorem finR_sh (n : Nat) (d : D) : finR n (.rt (.sh d) ρ) = .ok (.sh d) (outR ρ n) := rfl
@[simp] theorem finR_fr (n : Nat) (d : D) : finR n (.rt (.fr d) ρ) = .ok (.fr d) (outR ρ n) := rfl
@[simp] theorem finR_nx (n : Nat) : finR n (.nx ρ) = .ok (.sh .none) (outR ρ n) := rfl
@[simp] theorem finR_ex (n : Nat) (x : Xc) : finR n (.exc x ρ) = .exc x (outR ρ n) := rfl
@[simp] theorem finR_if (n : Nat) (a b : RS) : finR n (if c then a else b) = if c then finR n a else finR n b := by split <;> rfl
theorem fnF_eq (m n : Nat) (g : SF) : fnF m n g ρ = finR n (g (ρ ++ List.replicate (m - n) none)) := by unfold fnF finR; rfl
@[simp] theorem ioC_sh (d : D) : ioC (some ⟨d, .sh⟩) = none := rfl
@[simp] theorem ioC_ow (d : D) : ioC (some ⟨d, .ow⟩) = none := rfl
@[simp] theorem ioC_io (d : D) : ioC (some ⟨d, .io⟩) = some ⟨d, .io⟩ := rfl
@[simp] theorem ioC_st (d : D) : ioC (some ⟨d, .st⟩) = some ⟨d, .st⟩ := rfl
@[simp] theorem ioC_no : ioC none = none := rfl
/-- a call -/
def backR (ρ1 : Rho) (io : Option Nat) (hs : List Hd) (r : RE) : RE := match r with
    | .stuck => .stuck
    | .ok h outs => match h, putB ρ1 io hs outs with
      | .bw _, _ => .stuck
      | .sp _ _, _ => .stuck
      | _, none => .stuck
      | _, some ρ2 => .ok h ρ2
    | .exc x outs => match putB ρ1 io hs outs with
      | none => .stuck
      | some ρ2 => .exc x ρ2
@[simp] theorem backR_sh (d : D) (hs : List Hd) (outs : Rho) : backR ρ none hs (.ok (.sh d) outs) = .ok (.sh d) ρ := rfl
@[simp] theorem backR_fr (d : D) (hs : List Hd) (outs : Rho) : backR ρ none hs (.ok (.fr d) outs) = .ok (.fr d) ρ := rfl
@[simp] theorem backR_ex (x : Xc) (hs : List Hd) (outs : Rho) : backR ρ none hs (.exc x outs) = .exc x ρ := rfl
@[simp] theorem backR_if (io : Option Nat) (hs : List Hd) (a b : RE) : backR ρ io hs (if c then a else b) = if c then backR ρ io hs a else backR ρ io hs b := by split <;> rfl
def callR (n : Nat) (io : Option Nat) (F : FF) (hs : List Hd) (ρ1 : Rho) (a : Option Rho) : RE := match a with
  | none => .stuck
  | some ρ0 => if ρ0.length ≠ n then .stuck else backR ρ1 io hs (F ρ0)
@[simp] theorem callR_s (n : Nat) (io : Option Nat) (F : FF) (hs : List Hd) (ρ0 : Rho) : callR n io F hs ρ (some ρ0) = if ρ0.length ≠ n then .stuck else backR ρ io hs (F ρ0) := rfl
@[simp] theorem eCall_eq (n : Nat) (io : Option Nat) (F : FF) (fs : AF) : eCall n io F fs ρ = bindA (fs ρ) fun hs ρ1 => callR n io F hs ρ1 (args ρ1 io 0 hs) := by
  unfold eCall callR backR
  rfl
@[simp] theorem args_nil (io : Option Nat) (k : Nat) : args ρ io k [] = some [] := rfl
def consC (a : Option Cel) (b : Option Rho) : Option Rho := match a, b with
  | some c, some r => some (some c :: r)
  | _, _ => none
@[simp] theorem consC_s (c : Cel) (r : Rho) : consC (some c) (some r) = some (some c :: r) := rfl
@[simp] theorem args_cons (io : Option Nat) (k : Nat) (h : Hd) (hs : List Hd) : args ρ io k (h :: hs) = consC (argC ρ (decide (io = some k)) h) (args ρ io (k + 1) hs) := by
  unfold consC
  rw [args]
  try rfl
@[simp] theorem argC_shf (d : D) : argC ρ false (.sh d) = some ⟨d, .sh⟩ := rfl
theorem okR_nat {m : Nat} (h : m ≤ 1000000000) : okR (m : Int) = true := by
  unfold okR
  rw [Int.natAbs_natCast]
  exact Nat.ble_eq_true_of_le h
@[simp] theorem forL_nil (g : D → Rho → Option Rho) (b : SF) : forL g b [] ρ = .nx ρ := rfl
/-- one turn's end -/
def turnR (k : Rho → RS) (r : RS) : RS := match r with
  | .nx ρ2 => k ρ2
  | .ct ρ2 => k ρ2
  | .bk ρ2 => .nx ρ2
  | r => r
@[simp] theorem turnR_nx (k : Rho → RS) : turnR k (.nx ρ) = k ρ := rfl
@[simp] theorem turnR_ct (k : Rho → RS) : turnR k (.ct ρ) = k ρ := rfl
@[simp] theorem turnR_bk (k : Rho → RS) : turnR k (.bk ρ) = .nx ρ := rfl
@[simp] theorem turnR_rt (k : Rho → RS) (h : Hd) : turnR k (.rt h ρ) = .rt h ρ := rfl
@[simp] theorem turnR_ex (k : Rho → RS) (x : Xc) : turnR k (.exc x ρ) = .exc x ρ := rfl
@[simp] theorem turnR_st (k : Rho → RS) : turnR k .stuck = .stuck := rfl
@[simp] theorem turnR_if (k : Rho → RS) (a b : RS) : turnR k (if c then a else b) = if c then turnR k a else turnR k b := by split <;> rfl
def optR (o : Option Rho) (k : Rho → RS) : RS := match o with
  | none => .stuck
  | some ρ1 => k ρ1
@[simp] theorem optR_s (k : Rho → RS) : optR (some ρ) k = k ρ := rfl
theorem forL_cons (g : D → Rho → Option Rho) (b : SF) (d : D) (ds : List D) : forL g b (d :: ds) ρ = optR (g d ρ) fun ρ1 => turnR (forL g b ds) (b ρ1) := by
  unfold optR turnR
  rw [forL]
  try rfl
def optE (o : Option Rho) (k : Rho → RE) : RE := match o with
  | none => .stuck
  | some ρ1 => k ρ1
@[simp] theorem optE_s (k : Rho → RE) : optE (some ρ) k = k ρ := rfl
theorem lcL_nil (vs : List Nat) (g : D → Rho → Option Rho) (ft fe : EF) (acc : List D) : lcL vs g ft fe [] acc ρ = .ok (.fr (.list acc)) ρ := rfl
def lcR (acc : List D) (k : List D → Rho → RE) (h : Hd) (ρ3 : Rho) : RE := match h with
  | .sh y => if acc.length < sizeLine then k (acc ++ [y]) ρ3 else .stuck
  | _ => .stuck
@[simp] theorem lcR_s (acc : List D) (k : List D → Rho → RE) (y : D) : lcR acc k (.sh y) ρ = if acc.length < sizeLine then k (acc ++ [y]) ρ else .stuck := rfl
theorem lcL_cons (vs : List Nat) (g : D → Rho → Option Rho) (ft fe : EF) (d : D) (ds acc : List D) : lcL vs g ft fe (d :: ds) acc ρ = optE (g d ρ) fun ρ1 => bindB (ft ρ1) fun c ρ2 => if c then bindE (eCap fe ρ2) (lcR acc fun acc' ρ3 => lcL vs g ft fe ds acc' (wipeR ρ3 vs)) else lcL vs g ft fe ds acc (wipeR ρ2 vs) := by
  unfold optE lcR
  rw [lcL]
  try rfl
@[simp] theorem gN_eq (i : Nat) (d : D) : gN i d ρ = if i < ρ.length && !ioAt ρ i then some (ρ.set i (some ⟨d, .sh⟩)) else none := rfl
@[simp] theorem optR_if (a b : Option Rho) (k : Rho → RS) : optR (if c then a else b) k = if c then optR a k else optR b k := by split <;> rfl
@[simp] theorem optE_if (a b : Option Rho) (k : Rho → RE) : optE (if c then a else b) k = if c then optE a k else optE b k := by split <;> rfl
@[simp] theorem setR_eq (i : Nat) (c : Cel) : setR ρ i c = if i < ρ.length && !ioAt ρ i then .nx (ρ.set i (some c)) else .stuck := rfl
@[simp] theorem atI_zero {α : Type} (x : α) (xs : List α) : atI (x :: xs) 0 = some x := by
  have := atI_nat (xs := x :: xs) (j := 0) (v := x) rfl
  exact this
theorem atI_lt {α : Type} {xs : List α} {i : Int} (h0 : 0 ≤ i) (h1 : i < xs.length) : ∃ x, atI xs i = some x ∧ x ∈ xs := by
  have hk : i.toNat < xs.length := by omega
  have e : i = ((i.toNat : Nat) : Int) := by omega
  have q := atI_nat (xs := xs) (List.getElem?_eq_getElem hk)
  rw [← e] at q
  exact ⟨_, q, List.getElem_mem hk⟩
theorem atI_get {α : Type} {xs : List α} {i : Int} {n : Nat} (e : i = (n : Int)) (h : n < xs.length) : atI xs i = some xs[n] := by
  rw [e]
  exact atI_nat (List.getElem?_eq_getElem h)
end
end GS
namespace GS
open PySem L2
def kEq : D → D → Bool
  | .int i, .int j => decide (i = j)
  | .str i, .str j => decide (i = j)
  | .tuple xs, .tuple ys => match tkD xs, tkD ys with
    | some k, some l => decide (k = l)
    | _, _ => false
  | _, _ => false
/-- ints and texts -/
def isS : D → Bool
  | .int _ => true
  | .str _ => true
  | _ => false
/-- what may be a key -/
def isK : D → Bool
  | .int _ => true
  | .str _ => true
  | .tuple ds => (tkD ds).isSome
  | _ => false
/-- a key of another sort than the dict's first -/
def mixB (ps : List (D × D)) (k : D) : Bool := match ps with
  | [] => false
  | p :: _ => tupB p.1 != tupB k
def dGet : List (D × D) → D → Option D
  | [], _ => none
  | (a, d) :: r, k => if kEq a k then some d else dGet r k
def dPut (ps : List (D × D)) (k v : D) : List (D × D) := if ps.any (fun p => kEq p.1 k) then ps.map (fun p => if kEq p.1 k then (p.1, v) else p) else ps ++ [(k, v)]
theorem isS_k {d : D} (h : isS d = true) : ∃ k, d = kD k := by
  cases d <;> first | (cases h; done) | skip
  · exact ⟨.inl _, rfl⟩
  · exact ⟨.inr _, rfl⟩
theorem tkD_tup {ds : List D} {k : NestedKey} (h : tkD ds = some k) : ∃ ks, k = .tup ks ∧ nkL ds = some ks ∧ k.depth ≤ 8 := by
  obtain ⟨ks, e1, e2⟩ := Option.bind_eq_some_iff.mp h
  obtain ⟨c, rfl⟩ := if_some e2
  exact ⟨ks, rfl, e1, c⟩
theorem isK_key {d : D} (h : isK d = true) : ∃ k, keyD d = some k := by
  cases d <;> first | (cases h; done) | skip
  · exact ⟨_, rfl⟩
  · exact ⟨_, rfl⟩
  · exact ⟨_, Option.some_get h |>.symm⟩
theorem kEq_key {a b : D} {k l : NestedKey} (ha : keyD a = some k) (hb : keyD b = some l) : kEq a b = decide (k = l) := by
  cases a <;> first | (cases ha; done) | skip
  · cases b <;> first | (cases hb; done) | skip
    · cases ha; cases hb; simp [kEq]
    · cases ha; cases hb; simp [kEq]
    · cases ha
      obtain ⟨ks, rfl, _⟩ := tkD_tup hb
      simp [kEq]
  · cases b <;> first | (cases hb; done) | skip
    · cases ha; cases hb; simp [kEq]
    · cases ha; cases hb; simp [kEq]
    · cases ha
      obtain ⟨ks, rfl, _⟩ := tkD_tup hb
      simp [kEq]
  · cases b <;> first | (cases hb; done) | skip
    · cases hb
      obtain ⟨ks, rfl, _⟩ := tkD_tup ha
      simp [kEq]
    · cases hb
      obtain ⟨ks, rfl, _⟩ := tkD_tup ha
      simp [kEq]
    · rename_i xs ys
      show (match tkD xs, tkD ys with | some k, some l => decide (k = l) | _, _ => false) = _
      rw [show tkD xs = some k from ha, show tkD ys = some l from hb]
section
variable {K : KW} {B H : Hp} {ρ : Rho} {σ : St} {x y v : V} {Q : VK} {b : Bool}
theorem Tp.key {k : Key} (h : Tp K B H v (kD k)) : v = kV k := by
  cases k
  · exact h.int
  · exact h.str
theorem rpx_get {kd : D} {k : NestedKey} (hk : keyD kd = some k) : ∀ {xs : List (NestedKey × Value × Value)} {ps : List (D × D)}, RpX K B b xs ps → (∀ d, dGet ps kd = some d → ∃ u v, look xs k = some u ∧ RelV v u ∧ Rp K B v d) ∧ (dGet ps kd = none → look xs k = none)
  | _, _, .nil => ⟨fun d h => (by cases h), fun _ => rfl⟩
  | _, _, .cons (k := k') (ku := ku) (u := u') (v := v') (xs := xs) (kd := kd') (d := d') (ps := ps) h1 h2 h3 h4 h5 h6 h7 => by
    obtain ⟨q1, q2⟩ := rpx_get hk h7
    have e1 : dGet ((kd', d') :: ps) kd = if k' = k then some d' else dGet ps kd := by
      show (if kEq kd' kd then some d' else dGet ps kd) = _
      rw [kEq_key h1 hk]
      by_cases e : k' = k <;> simp [e]
    rw [e1]
    by_cases e : k' = k
    · rw [if_pos e]
      refine ⟨fun d hd => ?_, fun hd => (by cases hd)⟩
      cases hd
      exact ⟨u', v', by simp [look, e], h5, h6⟩
    · rw [if_neg e]
      have e2 : look ((k', ku, u') :: xs) k = look xs k := by simp [look, e]
      rw [e2]
      exact ⟨q1, q2⟩
theorem rpx_is {kd : D} {k : NestedKey} (hk : keyD kd = some k) {xs : List (NestedKey × Value × Value)} {ps : List (D × D)} (h : RpX K B b xs ps) : (look xs k).isSome = (dGet ps kd).isSome := by
  obtain ⟨q1, q2⟩ := rpx_get hk h
  cases e : dGet ps kd with
  | none => rw [q2 e]; rfl
  | some d => obtain ⟨u, v, q, _⟩ := q1 d e; rw [q]; rfl
mutual
theorem nk_of {H : Hp} (s : SameT B H) : ∀ {v : V} (d : D) {k : NestedKey}, Rp K B v d → nkD d = some k → NK H v k
  | _, .none, _, .non, e => by cases e; exact .non
  | _, .bool _, _, .bl b, e => by cases e; exact .bl b
  | _, .int _, _, .int i, e => by cases e; exact .int i
  | _, .str _, _, .str x, e => by cases e; exact .str x
  | _, .tuple ds, _, .tup h t, e => by
    rw [nkD] at e
    obtain ⟨ks, e1, rfl⟩ := Option.map_eq_some_iff.mp e
    exact .tup (same_xT s h) (nks_of s ds t e1)
  | _, .list _, _, .lst _ _, e => by rw [nkD] at e; cases e
  | _, .dict _, _, .dct _ _, e => by rw [nkD] at e; cases e
  | _, .dict _, _, .exn _ _ _ _, e => by rw [nkD] at e; cases e
  | _, .dict _, _, .ptr _ _, e => by rw [nkD] at e; cases e
theorem nks_of {H : Hp} (s : SameT B H) : ∀ {vs : List V} (ds : List D) {ks : List NestedKey}, RpL K B vs ds → nkL ds = some ks → NKs H vs ks
  | _, [], _, .nil, e => by rw [nkL] at e; cases e; exact .nil
  | _, d :: ds, _, .cons h t, e => by
    rw [nkL] at e
    obtain ⟨k, e1, e2⟩ := Option.bind_eq_some_iff.mp e
    obtain ⟨ks, e3, rfl⟩ := Option.map_eq_some_iff.mp e2
    exact .cons (nk_of s d h e1) (nks_of s ds t e3)
end
/-- a key that is a tuple -/
theorem tk_of {H : Hp} (s : SameT B H) {v : V} {kd : D} {k : NestedKey} (h : Rp K B v kd) (e : keyD kd = some k) (ht : tupB kd = true) : ∃ b, KeyAt H v b k := by
  cases kd <;> first | (cases ht; done) | skip
  rename_i ds
  obtain ⟨ks, rfl, e1, c⟩ := tkD_tup (show tkD ds = some k from e)
  cases h with
  | tup q t => exact ⟨_, rfl, .tup (same_xT s q) (nks_of s ds t e1), c⟩
/-- a key that is none -/
theorem sk_of {v : V} {kd : D} {k : NestedKey} (h : Rp K B v kd) (e : keyD kd = some k) (ht : tupB kd = false) : ∃ kk, v = kV kk ∧ kd = kD kk ∧ k = nkK kk := by
  cases kd <;> first | (cases e; done) | (cases ht; done) | skip
  · cases e; cases h; exact ⟨.inl _, rfl, rfl, rfl⟩
  · cases e; cases h; exact ⟨.inr _, rfl, rfl, rfl⟩
theorem rpx_T {H : Hp} (s : SameT B H) : ∀ {xs : List (NestedKey × Value × Value)} {ps : List (D × D)}, RpX K B true xs ps → ∃ ys : List (NestedKey × Addr × Value), xs = ys.map refK ∧ KOk H ys ∧ ∀ y ∈ ys, ∃ kd, Rp K B (.ref y.2.1) kd ∧ keyD kd = some y.1 ∧ tupB kd = true
  | _, _, .nil => ⟨[], rfl, (fun _ m => by cases m), fun _ m => by cases m⟩
  | _, _, .cons (k := k) (u := u) (kd := kd) h1 h2 h3 h4 h5 h6 h7 => by
    obtain ⟨ys, rfl, q2, q3⟩ := rpx_T s h7
    obtain ⟨b, rfl, q4, q5⟩ := tk_of s h3 h1 h2
    cases h4
    refine ⟨(k, b, u) :: ys, rfl, fun y m => ?_, fun y m => ?_⟩
    · cases m with
      | head => exact ⟨q4, q5⟩
      | tail _ m => exact q2 y m
    · cases m with
      | head => exact ⟨kd, h3, h1, h2⟩
      | tail _ m => exact q3 y m
/-- keys that are ints and texts, by key and value -/
def RpS (K : KW) (B : Hp) : List (Key × Value) → List (D × D) → Prop := Paired fun p q => q.1 = kD p.1 ∧ ∃ v, RelV v p.2 ∧ Rp K B v q.2
theorem rpx_S : ∀ {xs : List (NestedKey × Value × Value)} {ps : List (D × D)}, RpX K B false xs ps → ∃ ys, xs = ys.map valK ∧ SOk ys ∧ RpS K B (pairK ys) ps
  | _, _, .nil => ⟨[], rfl, (fun _ m => by cases m), .nil⟩
  | _, _, .cons (ku := ku) (u := u) h1 h2 h3 h4 h5 h6 h7 => by
    obtain ⟨ys, rfl, q2, q3⟩ := rpx_S h7
    obtain ⟨kk, rfl, rfl, rfl⟩ := sk_of h3 h1 h2
    refine ⟨(kk, ku, u) :: ys, rfl, fun y m => ?_, .cons ⟨rfl, _, h5, h6⟩ q3⟩
    cases m with
    | head => exact (by
        cases kk
        · obtain ⟨t, rfl⟩ := h4; exact keyIs_int _ t
        · obtain ⟨t, rfl⟩ := h4; exact keyIs_str _ t)
    | tail _ m => exact q2 y m
theorem rp_kV (k : Key) : Rp K B (kV k) (kD k) := by
  cases k
  · exact .int _
  · exact .str _
theorem relV_key {k : Key} {u : Value} (h : keyIs k u = true) : RelV (kV k) u := by
  rcases keyIs_shape h with ⟨i, t, rfl, rfl⟩ | ⟨x, t, rfl, rfl⟩
  · exact ⟨t, rfl⟩
  · exact ⟨t, rfl⟩
theorem keyD_k (k : Key) : keyD (kD k) = some (nkK k) ∧ tupB (kD k) = false := by cases k <;> exact ⟨rfl, rfl⟩
theorem rps_X : ∀ {ys : List (Key × Value × Value)} {ps : List (D × D)}, SOk ys → RpS K B (pairK ys) ps → RpX K B false (ys.map valK) ps
  | [], _, _, r => by cases r; exact .nil
  | y :: ys, _, h, r => by
    cases r with
    | @cons p q _ qs hq t =>
      obtain ⟨kd, d⟩ := q
      obtain ⟨e1, v, e2, e3⟩ := hq
      simp only at e1
      subst e1
      obtain ⟨e4, e5⟩ := keyD_k y.1
      exact .cons e4 e5 (rp_kV y.1) (relV_key (h y (by simp))) e2 e3 (rps_X (fun z m => h z (by simp [m])) t)
theorem kEq_k (a b : Key) : kEq (kD a) (kD b) = decide (a = b) := by
  cases a <;> cases b <;> simp [kD, kEq]
theorem rps_any {k : Key} : ∀ {vs : List (Key × Value)} {ps : List (D × D)}, RpS K B vs ps → (vs.any fun kv => decide (kv.1 = k)) = ps.any fun p => kEq p.1 (kD k)
  | _, _, .nil => rfl
  | _, _, .cons h t => by rw [List.any_cons, List.any_cons, rps_any t, h.1, kEq_k]
theorem rps_map {k : Key} {d : D} {v : V} {u : Value} (r : RelV v u) (q : Rp K B v d) : ∀ {vs : List (Key × Value)} {ps : List (D × D)}, RpS K B vs ps → RpS K B (vs.map fun kv => if kv.1 = k then (kv.1, u) else kv) (ps.map fun p => if kEq p.1 (kD k) then (p.1, d) else p)
  | _, _, .nil => .nil
  | _, _, .cons (a := p) (b := z) h t => by
    rw [List.map_cons, List.map_cons, h.1, kEq_k]
    by_cases e : p.1 = k
    · simp only [e, if_true, decide_true]
      exact .cons ⟨rfl, v, r, q⟩ (rps_map r q t)
    · simp only [e, if_false, decide_false, Bool.false_eq_true]
      exact .cons h (rps_map r q t)
theorem rps_app {k : Key} {d : D} {v : V} {u : Value} (r : RelV v u) (q : Rp K B v d) : ∀ {vs : List (Key × Value)} {ps : List (D × D)}, RpS K B vs ps → RpS K B (vs ++ [(k, u)]) (ps ++ [(kD k, d)])
  | _, _, .nil => .cons ⟨rfl, v, r, q⟩ .nil
  | _, _, .cons h t => .cons h (rps_app r q t)
theorem rps_put {k : Key} {d : D} {v : V} {u : Value} (r : RelV v u) (q : Rp K B v d) {vs : List (Key × Value)} {ps : List (D × D)} (h : RpS K B vs ps) : RpS K B (stored vs k u) (dPut ps (kD k) d) := by
  unfold stored dPut
  rw [rps_any h]
  split
  · exact rps_map r q h
  · exact rps_app r q h
/-- keys that are tuples, put -/
theorem rpx_any {kd : D} {k : NestedKey} (hk : keyD kd = some k) : ∀ {ys : List (NestedKey × Addr × Value)} {ps : List (D × D)}, RpX K B true (ys.map refK) ps → (ps.any fun p => kEq p.1 kd) = (atKey ys k).isSome
  | [], _, h => by cases h; rfl
  | y :: ys, _, h => by
    cases h with
    | cons h1 h2 h3 h4 h5 h6 h7 =>
      have ih := rpx_any hk h7
      rw [List.any_cons, kEq_key h1 hk, ih]
      by_cases e : y.1 = k <;> simp [atKey, e]
theorem rpx_map {kd d : D} {k : NestedKey} {u : Value} {v : V} (hk : keyD kd = some k) (r : RelV v u) (q : Rp K B v d) : ∀ {ys : List (NestedKey × Addr × Value)} {ps : List (D × D)}, RpX K B true (ys.map refK) ps → RpX K B true ((ys.map (putAt k u)).map refK) (ps.map fun p => if kEq p.1 kd then (p.1, d) else p)
  | [], _, h => by cases h; exact .nil
  | y :: ys, _, h => by
    cases h with
    | cons h1 h2 h3 h4 h5 h6 h7 =>
      have ih := rpx_map hk r q h7
      rw [List.map_cons, List.map_cons, List.map_cons, kEq_key h1 hk]
      by_cases e : y.1 = k
      · simp only [putAt, e, if_true, decide_true]
        exact .cons (e ▸ h1) h2 h3 h4 r q ih
      · simp only [putAt, e, if_false, decide_false, Bool.false_eq_true]
        exact .cons h1 h2 h3 h4 h5 h6 ih
theorem rpx_app {kd d : D} {k : NestedKey} {a : Addr} {u : Value} {v : V} (hk : keyD kd = some k) (ht : tupB kd = true) (ha : Rp K B (.ref a) kd) (r : RelV v u) (q : Rp K B v d) : ∀ {ys : List (NestedKey × Addr × Value)} {ps : List (D × D)}, RpX K B true (ys.map refK) ps → RpX K B true ((ys ++ [(k, a, u)]).map refK) (ps ++ [(kd, d)])
  | [], _, h => by cases h; exact .cons hk ht ha rfl r q .nil
  | y :: ys, _, h => by
    cases h with
    | cons h1 h2 h3 h4 h5 h6 h7 => exact .cons h1 h2 h3 h4 h5 h6 (rpx_app hk ht ha r q h7)
theorem rpx_put {kd d : D} {k : NestedKey} {a : Addr} {u : Value} {v : V} (hk : keyD kd = some k) (ht : tupB kd = true) (ha : Rp K B (.ref a) kd) (r : RelV v u) (q : Rp K B v d) {ys : List (NestedKey × Addr × Value)} {ps : List (D × D)} (h : RpX K B true (ys.map refK) ps) : RpX K B true ((storedH ys k a u).map refK) (dPut ps kd d) := by
  unfold storedH dPut
  rw [rpx_any hk h]
  split
  · exact rpx_map hk r q h
  · exact rpx_app hk ht ha r q h
/-- of the sort of the key asked for -/
theorem rpx_sort {xs : List (NestedKey × Value × Value)} {ps : List (D × D)} {kd : D} (h : RpX K B b xs ps) (m : mixB ps kd = false) : RpX K B (tupB kd) xs ps := by
  cases h with
  | nil => exact .nil
  | cons h1 h2 h3 h4 h5 h6 h7 =>
    have m : (tupB _ != tupB kd) = false := m
    rw [h2] at m
    have e : b = tupB kd := by simpa using m
    subst e
    exact .cons h1 h2 h3 h4 h5 h6 h7
theorem rpx_got {xs : List (NestedKey × Value × Value)} {ps : List (D × D)} {kd d : D} {k : NestedKey} (hk : keyD kd = some k) (h : RpX K B b xs ps) (e : dGet ps kd = some d) : b = tupB kd := by
  induction ps generalizing xs with
  | nil => cases e
  | cons p ps ih =>
    cases h with
    | @cons _ k' _ _ _ _ _ kd' _ _ h1 h2 h3 h4 h5 h6 h7 =>
      by_cases q : k' = k
      · subst q
        rw [← h2]
        cases kd' <;> first | (cases h1; done) | skip
        · cases h1
          cases kd <;> first | (cases hk; done) | rfl | skip
          obtain ⟨ks, z, _⟩ := tkD_tup hk
          cases z
        · cases h1
          cases kd <;> first | (cases hk; done) | rfl | skip
          obtain ⟨ks, z, _⟩ := tkD_tup hk
          cases z
        · obtain ⟨ks, rfl, _⟩ := tkD_tup h1
          cases kd <;> first | (cases hk; done) | rfl
      · refine ih h7 ?_
        have e : (if kEq kd' kd then some _ else dGet ps kd) = some d := e
        rw [kEq_key h1 hk] at e
        simpa [q] using e
/-- y may be asked of it -/
theorem look_of {H : Hp} (s : SameT B H) {a : Addr} {ep : Nat} {xs : List (NestedKey × Value × Value)} {ps : List (D × D)} {kd : D} {k : NestedKey} (e : H a = some (dX K.w a ep xs)) (h : RpX K B (tupB kd) xs ps) (hk : keyD kd = some k) (r : Rp K B y kd) : LookX K.w H a y (look xs k) := by
  refine ⟨ep, xs, k, e, rfl, ?_⟩
  cases ht : tupB kd with
  | true =>
    rw [ht] at h
    obtain ⟨ys, rfl, q2, _⟩ := rpx_T s h
    obtain ⟨b, q⟩ := tk_of s r hk ht
    exact .inl ⟨b, ys, rfl, q2, q⟩
  | false =>
    rw [ht] at h
    obtain ⟨ys, rfl, q2, _⟩ := rpx_S h
    obtain ⟨kk, rfl, rfl, rfl⟩ := sk_of r hk ht
    exact .inr ⟨ys, kk, rfl, q2, rfl, rfl⟩
/-- what a dict stands as -/
theorem Tp.dcs {H : Hp} {v : V} {ps : List (D × D)} (h : Tp K B H v (.dict ps)) (hx : (∃ d, ps = [(.none, d)]) → False) : ∃ a ep b xs, v = .ref a ∧ H a = some (dX K.w a ep xs) ∧ RpX K B b xs ps := by
  rcases h with h | ⟨z, h⟩
  · exact h
  · cases h with
    | dct _ r =>
      cases r with
      | nil => cases z
      | @cons _ _ _ _ _ _ _ kd _ _ h1 _ _ _ _ _ _ => cases kd <;> first | (cases z; done) | cases h1
    | exn _ _ _ _ => exact (hx ⟨_, rfl⟩).elim
    | ptr _ _ => exact (hx ⟨_, rfl⟩).elim
theorem dGet_xn {ps : List (D × D)} (h : ∃ d, ps = [(.none, d)]) (k : D) : dGet ps k = none := by
  obtain ⟨d, rfl⟩ := h
  cases k <;> rfl
/-- a key as it stands -/
theorem Tp.rpK {H : Hp} {v : V} {kd : D} {k : NestedKey} (h : Tp K B H v kd) (hk : keyD kd = some k) : Rp K B v kd := by
  cases kd <;> first | (cases hk; done) | exact h
def dgD : D → D → Option Hd
  | .dict ps, k => if isK k then (dGet ps k).map Hd.sh else none
  | _, _ => none
theorem ol_dg : OpL K (rXG K.w) dgD := fun ρ σ B H x y dx dy h Q S tx ty e k => by
  cases dx <;> first | (cases (show none = some h from e); done) | skip
  rename_i ps
  replace e : (if isK dy then (dGet ps dy).map Hd.sh else none) = some h := e
  split at e
  · rename_i hk
    obtain ⟨d, e1, rfl⟩ := Option.map_eq_some_iff.mp e
    obtain ⟨a, ep, b, xs, rfl, ha, ra⟩ := tx.dcs fun z => by
      rw [dGet_xn z dy] at e1
      cases e1
    obtain ⟨nk, hn⟩ := isK_key hk
    have eb := rpx_got hn ra e1
    subst eb
    obtain ⟨u, v, q1, q2, q3⟩ := (rpx_get hn ra).1 d e1
    have q4 := look_of S.bh ha ra hn (ty.rpK hn)
    rw [q1] at q4
    exact ⟨a, u, v, rfl, q4, q2, now S q3 k⟩
  · cases e
def ixA : D → D → Option Hd
  | .dict ps, k => dgD (.dict ps) k
  | d, k => ixD d k
def rIxA (K : PySem.W.Frag) (w : World) : R2 := fun x y H Q => rIx K x y H Q ∨ rXG w x y H Q
theorem ol_ixA : OpL K (rIxA K K.w) ixA := fun ρ σ B H x y dx dy h Q S tx ty e k => by
  cases dx with
  | dict ps => exact .inr (ol_dg ρ σ B H x y _ dy h Q S tx ty e k)
  | _ => exact .inl (ol_ix ρ σ B H x y _ dy h Q S tx ty e k)
def dinD (neg : Bool) : D → D → Option Hd
  | k, .dict ps => if isK k && !xnB ps && !mixB ps k then some (.sh (.bool (neg ^^ (dGet ps k).isSome))) else none
  | _, _ => none
theorem ol_din {neg : Bool} : OpL K (rXin neg K.w) (dinD neg) := fun ρ σ B H x y dx dy h Q S tx ty e k => by
  cases dy <;> first | (cases dx <;> cases (show none = some h from e); done) | skip
  rename_i ps
  replace e : (if isK dx && !xnB ps && !mixB ps dx then some (Hd.sh (.bool (neg ^^ (dGet ps dx).isSome))) else none) = some h := by cases dx <;> exact e
  obtain ⟨hk, rfl⟩ := if_some e
  rw [Bool.and_eq_true, Bool.and_eq_true] at hk
  obtain ⟨⟨hk, hx⟩, hm⟩ := hk
  have hm : mixB ps dx = false := by simpa using hm
  obtain ⟨a, ep, b, xs, rfl, ha, ra⟩ := ty.dcs fun z => by
    obtain ⟨d, rfl⟩ := z
    cases hx
  obtain ⟨nk, hn⟩ := isK_key hk
  have ra := rpx_sort ra hm
  refine ⟨a, _, rfl, look_of S.bh ha ra hn (tx.rpK hn), ?_⟩
  rw [rpx_is hn ra]
  exact now S (.bl _) k
def inB (neg : Bool) : D → D → Option Hd
  | k, .dict ps => dinD neg k (.dict ps)
  | a, b => inD neg a b
theorem op_inB {X : Cx} (hu : X.A.units + 65 < cLine) : OpR X (compareOp .In) (fun x y H Q => rInA X.K x y H Q ∨ rXin false X.w x y H Q) := OpR.or (op_inA hu) (op_Xin hu)
theorem op_notInB {X : Cx} (hu : X.A.units + 65 < cLine) : OpR X (compareOp .NotIn) (fun x y H Q => rNotInA X.K x y H Q ∨ rXin true X.w x y H Q) := OpR.or (op_notInA hu) (op_Xni hu)
theorem ol_inB : OpL K (fun x y H Q => rInA K x y H Q ∨ rXin false K.w x y H Q) (inB false) := fun ρ σ B H x y dx dy h Q S tx ty e k => by
  cases dy with
  | dict ps => exact .inr (ol_din ρ σ B H x y dx _ h Q S tx ty (by cases dx <;> exact e) k)
  | _ => exact .inl (ol_in ρ σ B H x y dx _ h Q S tx ty (by cases dx <;> exact e) k)
theorem ol_notInB : OpL K (fun x y H Q => rNotInA K x y H Q ∨ rXin true K.w x y H Q) (inB true) := fun ρ σ B H x y dx dy h Q S tx ty e k => by
  cases dy with
  | dict ps => exact .inr (ol_din ρ σ B H x y dx _ h Q S tx ty (by cases dx <;> exact e) k)
  | _ => exact .inl (ol_notIn ρ σ B H x y dx _ h Q S tx ty (by cases dx <;> exact e) k)
end
section
variable {X : Cx} {C : Ct} {a b e : Expr} {ta tb te : TE} {fa fb fe : EF} {pos pos' q1 : Pos} {ρ ρ1 : Rho} {σ : St} {B H B1 H1 : Hp}
theorem se_ixA (hu : X.A.units + 65 < cLine) (la : SE X C a ta fa) (lb : SE X C b tb fb) (hk : X.K = C.K := by rfl) (hw : X.w = C.K.w := by rfl) (hs : PlainIx b := by intro _ _; rfl) : SE X C (.Subscript a b pos) (tOp (rIxA C.K C.K.w) ta tb) (eBin ixA fa fb) :=
  ⟨by rw [← hk, ← hw]; exact pe_ix (IxR.or ix_seq (ix_dX hu)) la.pe lb.pe hs, lk_op ol_ixA la.lk lb.lk⟩
def setD (k y : D) : D → Option D
  | .list ds => match k with
    | .int i => (ixN ds.length i).map fun j => .list (ds.set j y)
    | _ => none
  | .dict ps => if isK k && !mixB ps k && decide (ps.length < sizeLine) then some (.dict (dPut ps k y)) else none
  | _ => none
end
end GS
namespace GS
open PySem L2
inductive RP where | stuck | ok (ps : List (D × D)) (ρ : Rho) | exc (x : Xc) (ρ : Rho)
abbrev PF := Rho → RP
section
variable {X : Cx} {C : Ct} {a b e : Expr} {ta tb te tk tv : TE} {fa fb fe fk fv : EF} {pos pos' q1 : Pos} {ρ ρ1 : Rho} {σ : St} {B H B1 H1 : Hp} {K : KW}
def dNil : PF := fun ρ => .ok [] ρ
def dCons (fk fv : EF) (g : PF) : PF := fun ρ => match eCap fk ρ with
  | .stuck => .stuck
  | .exc x ρ1 => .exc x ρ1
  | .ok (.sh k) ρ1 => (match eCap fv ρ1 with
    | .stuck => .stuck
    | .exc x ρ2 => .exc x ρ2
    | .ok (.sh v) ρ2 => (match g ρ2 with
      | .stuck => .stuck
      | .exc x ρ3 => .exc x ρ3
      | .ok ps ρ3 => if isS k then .ok ((k, v) :: ps) ρ3 else .stuck)
    | .ok _ _ => .stuck)
  | .ok _ _ => .stuck
def GoodP (C : Ct) (ρ : Rho) (σ : St) (B H : Hp) (Q : List (V × V) → Hp → Prop) : RP → Prop
  | .stuck => False
  | .ok ps ρ' => ∀ kvs B' H', Sim C.K ρ' σ B' H' → Ext ρ σ B H ρ' σ B' H' → RpK C.K B' kvs ps → Q (kvs.map fun kv => (kV kv.1, kv.2)) H'
  | .exc x ρ' => ∀ cls dct B' H', Sim C.K ρ' σ B' H' → Ext ρ σ B H ρ' σ B' H' → XcOk C B' x cls dct → C.W cls dct σ H'
structure SD (X : Cx) (C : Ct) (pos : Pos) (keys : List (Option Expr)) (values : List Expr) (trs : List (TE × TE)) (g : PF) : Prop where
  pp : PPs X pos keys values trs
  lk : ∀ ρ σ B H Q, Sim C.K ρ σ B H → GoodP C ρ σ B H Q (g ρ) → tPairs trs σ H Q
theorem GoodP.ext {Q : List (V × V) → Hp → Prop} (x : Ext ρ σ B H ρ1 σ B1 H1) : ∀ {r : RP}, GoodP C ρ σ B H Q r → GoodP C ρ1 σ B1 H1 Q r
  | .stuck, g => g
  | .ok _ _, g => fun vs B' H' s y z => g vs B' H' s (x.trans y) z
  | .exc _ _, g => fun c d B' H' s y z => g c d B' H' s (x.trans y) z
theorem sd_nil : SD X C pos [] [] [] dNil := ⟨pps_nil, fun ρ σ B H Q S g => g [] B H S Ext.refl .nil⟩
theorem sd_cons {ks : List (Option Expr)} {vs : List Expr} {trs : List (TE × TE)} {g : PF} (lk : SE X C a tk fk) (lv : SE X C b tv fv) (r : SD X C pos ks vs trs g) : SD X C pos (some a :: ks) (b :: vs) ((tk, tv) :: trs) (dCons fk fv g) := by
  refine ⟨pps_cons lk.pe lv.pe r.pp, fun ρ σ B H Q S gd => ?_⟩
  refine lk.lk.cap ρ σ B H _ S ?_
  unfold dCons at gd
  cases e1 : eCap fk ρ with
  | stuck => rw [e1] at gd; exact gd
  | exc x ρ1 => rw [e1] at gd; exact gd
  | ok h1 ρ1 =>
    rw [e1] at gd
    cases h1 with
    | sh k =>
      intro x B1 H1 S1 x1 y1
      refine lv.lk.cap ρ1 σ B1 H1 _ S1 ?_
      dsimp only at gd
      cases e2 : eCap fv ρ1 with
      | stuck => rw [e2] at gd; exact gd
      | exc x ρ2 => rw [e2] at gd; exact fun c d B' H' s y z => gd c d B' H' s (x1.trans y) z
      | ok h2 ρ2 =>
        rw [e2] at gd
        cases h2 with
        | sh v =>
          intro y B2 H2 S2 x2 y2
          refine r.lk ρ2 σ B2 H2 _ S2 ?_
          dsimp only at gd
          cases e3 : g ρ2 with
          | stuck => rw [e3] at gd; exact gd
          | exc x ρ3 => rw [e3] at gd; exact fun c d B' H' s y z => gd c d B' H' s ((x1.trans x2).trans y) z
          | ok ps ρ3 =>
            rw [e3] at gd
            dsimp only at gd
            intro kvs B3 H3 S3 x3 y3
            split at gd
            · rename_i hk
              obtain ⟨ky, rfl⟩ := isS_k hk
              have ek : x = kV ky := (Tp.of S1.bh y1).key
              subst ek
              exact gd ((ky, y) :: kvs) B3 H3 S3 ((x1.trans x2).trans x3) (.cons (Rp.mono x3.bb y2) y3)
            · exact gd.elim
        | _ => exact gd.elim
    | _ => exact gd.elim
def dMerge (ps : List (D × D)) : List (D × D) := ps.foldl (fun acc p => dPut acc p.1 p.2) []
theorem rpk_S {kvs : List (Key × V)} {ps : List (D × D)} (h : RpK K B kvs ps) : ∀ {vs : List (Key × Value)}, KV kvs vs → RpS K B vs ps := by
  induction kvs generalizing ps with
  | nil => cases h; intro vs r; cases r; exact .nil
  | cons kv kvs ih =>
    cases h with
    | cons r t =>
      intro vs q
      cases q with
      | cons q1 q2 => exact .cons ⟨by rw [← q1.1], _, q1.2, r⟩ (ih t q2)
theorem rpk_any {k : Key} : ∀ {kvs : List (Key × V)} {ps : List (D × D)}, RpK K B kvs ps → (kvs.any fun kv => decide (kv.1 = k)) = ps.any fun p => kEq p.1 (kD k)
  | _, _, .nil => rfl
  | _, _, .cons h t => by rw [List.any_cons, List.any_cons, rpk_any t, kEq_k]
theorem rpk_map {k : Key} {v : V} {d : D} (r : Rp K B v d) : ∀ {kvs : List (Key × V)} {ps : List (D × D)}, RpK K B kvs ps → RpK K B (kvs.map fun kv => if kv.1 = k then (kv.1, v) else kv) (ps.map fun p => if kEq p.1 (kD k) then (p.1, d) else p)
  | _, _, .nil => .nil
  | _, _, .cons (k := k') h t => by
    rw [List.map_cons, List.map_cons, kEq_k]
    by_cases e : k' = k
    · simp only [e, if_true, decide_true]
      exact .cons r (rpk_map r t)
    · simp only [e, if_false, decide_false, Bool.false_eq_true]
      exact .cons h (rpk_map r t)
theorem rpk_app {k : Key} {v : V} {d : D} (r : Rp K B v d) : ∀ {kvs : List (Key × V)} {ps : List (D × D)}, RpK K B kvs ps → RpK K B (kvs ++ [(k, v)]) (ps ++ [(kD k, d)])
  | _, _, .nil => .cons r .nil
  | _, _, .cons h t => .cons h (rpk_app r t)
theorem rpk_len : ∀ {kvs : List (Key × V)} {ps : List (D × D)}, RpK K B kvs ps → kvs.length = ps.length
  | _, _, .nil => rfl
  | _, _, .cons _ t => by rw [List.length_cons, List.length_cons, rpk_len t]
theorem rpk_put {k : Key} {v : V} {d : D} {kvs : List (Key × V)} {ps : List (D × D)} (h : RpK K B kvs ps) (r : Rp K B v d) : RpK K B (putK kvs k v) (dPut ps (kD k) d) := by
  unfold putK dPut
  rw [rpk_any h]
  split
  · exact rpk_map r h
  · exact rpk_app r h
theorem rpk_merge {kvs : List (Key × V)} {ps : List (D × D)} (h : RpK K B kvs ps) : ∀ {k0 : List (Key × V)} {p0 : List (D × D)}, RpK K B k0 p0 → RpK K B (mergeK k0 kvs) (ps.foldl (fun acc p => dPut acc p.1 p.2) p0) := by
  induction kvs generalizing ps with
  | nil => cases h; exact fun h0 => h0
  | cons kv kvs ih =>
    cases h with
    | cons r t =>
      intro k0 p0 h0
      exact ih t (rpk_put h0 r)
def eDct (g : PF) : EF := fun ρ => match g ρ with
  | .stuck => .stuck
  | .exc x ρ1 => .exc x ρ1
  | .ok ps ρ1 => if ps.length ≤ 15 then .ok (.fr (.dict (dMerge ps))) ρ1 else .stuck
theorem se_dct {keys : List (Option Expr)} {values : List Expr} {trs : List (TE × TE)} {g : PF} (l : SD X C pos keys values trs g) (hall : keys.all (·.isSome) = true := by rfl) (hl : keys.length = values.length := by rfl) (h0 : keys ≠ [] := by intro h; cases h)
    (h15 : keys.length ≤ 15 := by decide) (hw : X.w = C.K.w := by rfl) : SE X C (.Dict keys values pos) (tRe C.K.w (tDisp trs)) (eDct g) := by
  refine ⟨by rw [← hw]; exact pe_re (pe_disp l.pp hall hl h0 h15), fun ρ σ B H Q S gd p hp => ?_⟩
  obtain ⟨S1, x1⟩ := S.newH hp (.dK [])
  obtain ⟨bp, np⟩ := S.free hp
  refine l.lk ρ σ B _ _ S1 ?_
  unfold eDct at gd
  cases e : g ρ with
  | stuck => rw [e] at gd; exact gd
  | exc x ρ1 => rw [e] at gd; exact fun c d B' H' s y z => gd c d B' H' s (x1.trans y) z
  | ok ps ρ1 =>
    rw [e] at gd
    dsimp only at gd
    split at gd
    · rename_i hlen
      intro kvs B2 H2 S2 x2 r2
      have hp1 : (upd H p (.dK [])) p = some (.dK []) := upd_same
      have nown : ¬ OwnA ρ σ p := np
      have h2p : H2 p = some (.dK []) := x2.keepT hp1 nown fun ⟨_, _, _, _, _, _, z, _⟩ => by rw [bp] at z; cases z
      have notnew : ¬ New ρ σ (upd H p (.dK [])) p := fun z => by
        rcases z with z | z
        · rw [hp1] at z; cases z
        · exact nown z
      have b2p : B2 p = none := by
        cases eb : B2 p with
        | none => rfl
        | some o =>
          rcases x2.nw p o eb with z | z
          · rw [bp] at z; cases z
          · exact absurd z notnew
      have n2 : ¬ OwnA ρ1 σ p := fun z => notnew (x2.sub p z)
      refine ⟨h2p, kvs, rfl, by rw [rpk_len r2]; exact hlen, ?_⟩
      refine ⟨p, _, rfl, upd_same, fun ep ys y1 y2 => ?_⟩
      rw [upd_upd]
      have S3 := S2.tweak (o := dX C.K.w p ep (ys.map valK)) b2p n2
      have x3 : Ext ρ σ B H ρ1 σ B2 (upd H2 p (dX C.K.w p ep (ys.map valK))) := (x1.trans x2).tweak (.inl hp)
      exact gd _ _ _ S3 x3 ⟨p, rfl, b2p, ⟨ep, false, _, upd_same, rps_X y1 (rpk_S (rpk_merge r2 .nil) y2)⟩, n2, .inl hp⟩
    · exact gd.elim
end
end GS
namespace GS
open PySem L2
def shCs : List Hd → Option Rho
  | [] => some []
  | .sh d :: hs => (shCs hs).map fun r => some ⟨d, .sh⟩ :: r
  | _ :: _ => none
theorem shCs_ok {K : KW} {σ : St} {B : Hp} : ∀ {vs : List V} {hs : List Hd} {r : Rho}, HdL K σ B vs hs → shCs hs = some r → r.length = vs.length ∧ ∀ (i : Nat) (c : Cel), r[i]? = some (some c) → c.fl = .sh ∧ ∃ v, vs[i]? = some v ∧ Rp K B v c.d
  | _, _, r, .nil, e => by
    cases e
    exact ⟨rfl, fun i c h => by simp at h⟩
  | _, _, r, .cons (v := v) (h := h) (hs := hs) y t, e => by
    cases h with
    | sh d =>
      obtain ⟨r', e1, rfl⟩ := Option.map_eq_some_iff.mp e
      obtain ⟨q1, q2⟩ := shCs_ok t e1
      refine ⟨by rw [List.length_cons, List.length_cons, q1], fun i c hi => ?_⟩
      cases i with
      | zero => simp at hi; subst hi; exact ⟨rfl, v, rfl, y⟩
      | succ i =>
        obtain ⟨w1, v', w2, w3⟩ := q2 i c (by simpa using hi)
        exact ⟨w1, v', by simpa using w2, w3⟩
    | _ => cases e
section
variable {X : Cx} {C : Ct} {e0 : Expr} {es : List Expr} {pos p : Pos} {x : Str} {k n : Nat} {f : Addr} {fd : FuncData} {ps : List Str} {F : FF} {t : TA} {g : AF} {t0 : TE} {f0 : EF}
end
end GS
namespace GS
open PySem L2
section
variable {K : KW} {ρ : Rho} {σ : St} {B H : Hp} {v x y : V} {Q : VK}
def rRepS : R2 := fun x y H Q => ∃ z k, x = .str z ∧ y = .int k ∧ 0 ≤ k ∧ k ≤ 1000 ∧ z.length ≤ 1000 ∧ Q (.str (Txt.mul z k)) H
theorem op_repS {X : Cx} : OpR X (binaryOp .Mult) rRepS := by
  intro pins s σ H x y v u Q I rx ry h
  obtain ⟨z, k, rfl, rfl, h0, h1, hz, q⟩ := h
  obtain ⟨t, rfl⟩ := rx
  obtain ⟨t', rfl⟩ := ry
  refine SB.mul ⟨?_, fun a b => ?_, fun a b => ?_⟩ fun t'' k' => ⟨.str _, H, I.tok _, ⟨_, rfl⟩, q⟩
  · rw [decide_eq_false (by omega), decide_eq_false (by omega)]; rfl
  · have : (1000 : Int) ≤ (2 ^ 63 - 1) / k := by
      apply Int.le_ediv_of_mul_le (by omega)
      omega
    omega
  · have : z.length * k.toNat ≤ 1000 * 1000 := Nat.mul_le_mul hz (by omega)
    unfold Builtin.Str.tooLong
    rw [sizeLine_eq]
    simp
    omega
/-- a tuple so often, told exactly -/
def rRepX (K : PySem.W.Frag) : R2 := fun x y H Q => ∃ m k ys, x = .ref m ∧ y = .int k ∧ SqT K H m ys ∧ (ys ≠ [] ∧ 2 ≤ k ∧ k ≤ 1000 ∧ ys.length ≤ 1000) ∧ ∀ p o, H p = none → o.dict = none → Q (.ref p) (upd H p (.frz o (.tup (List.replicate k.toNat ys).flatten)))
theorem op_repX {X : Cx} : OpR X (binaryOp .Mult) (rRepX X.K) := by
  rintro pins s σ H x y v u Q J rx ry ⟨m, k, ys, rfl, rfl, hT, ⟨ne, k1, k2, hz⟩, q⟩
  cases rx
  obtain ⟨tt, rfl⟩ := ry
  obtain ⟨us, rv, ⟨⟨oc, od, oda, osl⟩, hob, ec, nn, ed⟩, hs⟩ := J.tuple hT
  simp only at ec ed
  subst ec ed
  have ll : us.length = ys.length := rv.length.symm
  have ie : us.toArray.isEmpty = false := by
    cases us with
    | nil => exact absurd (List.eq_nil_of_length_eq_zero ll.symm) ne
    | cons _ _ => rfl
  have sz : us.toArray.size = ys.length := by rw [List.size_toArray, ll]
  have pr : k.toNat * ys.length ≤ 1000 * 1000 := Nat.mul_le_mul (by omega) hz
  have pm : ((us.toArray.size : Nat) : Int) * k ≤ 1000000 := by
    rw [sz]
    have : ((ys.length : Nat) : Int) * k ≤ 1000 * k := Int.mul_le_mul_of_nonneg_right (by omega) (by omega)
    omega
  have fl : (List.replicate k.toNat us).flatten.length ≤ sizeLine := by
    rw [PyProof.Rows.lm_len_rep_flat, ll, sizeLine_eq]
    omega
  have d0 : (decide (k < -(2 ^ 63)) || decide (k ≥ 2 ^ 63)) = false := by rw [decide_eq_false (by omega), decide_eq_false (by omega)] <;> rfl
  have d1 : (us.toArray.isEmpty || k == 1) = false := by rw [ie, Bool.false_or]; exact beq_eq_false_iff_ne.mpr (by omega)
  have d2 : (decide (k ≤ 0) || us.toArray.isEmpty) = false := by rw [ie, Bool.or_false]; exact decide_eq_false (by omega)
  have d4 : Builtin.Tuple.tupleTooMany (((us.toArray.size : Nat) : Int) * k) = false := by
    unfold Builtin.Tuple.tupleTooMany
    rw [sizeLine_eq, decide_eq_false_iff_not]
    omega
  refine wpAny_binaryOp_repeat_ref (T := "tuple") (U := "int") (by decide) ⟨_, hob, rfl⟩ (fun z => typeIs_int z k tt) noFill_tuple_mul F.fills_int_mul F.slot_int_rmul repeat_tuple F.slot_int_index.lookup
    (call_meets F.slot_int_rmul (typeIs_int s k tt) F.entry_int_rmul (F.args_int_rmul_2 _ _) (int_rmul_tuple k tt m us.toArray nn od osl)
      ⟨hob, rfl, ⟨_, hob, rfl⟩, call_meets F.slot_tuple_mul ⟨_, hob, rfl⟩ F.entry_tuple_mul (F.args_tuple_mul_2 _ _) (tuple_mulW m us.toArray nn od osl k tt d0 d1 d2 (by omega) d4 (by rw [size_rep, List.size_toArray]; exact fl)) ⟨hob, ?_⟩⟩)
  rw [size_rep]
  exact ⟨.ref s.heap.objs.size, _, laidX (tk := s.toks) J (rv.rep k.toNat) (by rw [PyProof.Rows.lm_len_rep_flat, sizeLine_eq]; omega), rfl, q _ _ (J.hok.fresh (Nat.le_refl _)) rfl⟩
def mulA : D → D → Option Hd
  | .str z, .int k => if decide (0 ≤ k) && Nat.ble k.natAbs 1000 && Nat.ble z.length 1000 then some (.sh (.str (Txt.mul z k))) else none
  | .tuple ds, .int k => if decide (0 ≤ k) && Nat.ble 2 k.natAbs && Nat.ble k.natAbs 1000 && Nat.ble 1 ds.length && Nat.ble ds.length 1000 then some (.sh (.tuple (List.replicate k.toNat ds).flatten)) else none
  | d, e => mulD d e
def rMulA (K : PySem.W.Frag) : R2 := fun x y H Q => (rI CMul fun i j => .int (i * j)) x y H Q ∨ (rRepS x y H Q ∨ rRepX K x y H Q)
theorem op_mulA {X : Cx} : OpR X (binaryOp .Mult) (rMulA X.K) := OpR.or op_mul (OpR.or op_repS op_repX)
theorem RpL.rep {vs : List V} {ds : List D} (h : RpL K B vs ds) : ∀ n, RpL K B (List.replicate n vs).flatten (List.replicate n ds).flatten
  | 0 => .nil
  | n + 1 => by
    rw [List.replicate_succ, List.replicate_succ, List.flatten_cons, List.flatten_cons]
    exact h.append (RpL.rep h n)
theorem ol_mulA : OpL K (rMulA K) mulA := fun ρ σ B H x y dx dy h Q S tx ty e k => by
  cases dx with
  | str z =>
    cases dy <;> first | (cases (show none = some h from e); done) | skip
    rename_i i
    obtain ⟨c, rfl⟩ := if_some (show (if decide (0 ≤ i) && Nat.ble i.natAbs 1000 && Nat.ble z.length 1000 then some (Hd.sh (.str (Txt.mul z i))) else none) = some h from e)
    simp only [Bool.and_eq_true, decide_eq_true_eq] at c
    have h1 := Nat.le_of_ble_eq_true c.1.2
    rw [tx.str, ty.int]
    exact .inr (.inl ⟨z, i, rfl, rfl, c.1.1, by omega, Nat.le_of_ble_eq_true c.2, now S (.str _) k⟩)
  | tuple ds =>
    cases dy <;> first | (cases (show none = some h from e); done) | skip
    rename_i i
    obtain ⟨c, rfl⟩ := if_some (show (if decide (0 ≤ i) && Nat.ble 2 i.natAbs && Nat.ble i.natAbs 1000 && Nat.ble 1 ds.length && Nat.ble ds.length 1000 then some (Hd.sh (.tuple (List.replicate i.toNat ds).flatten)) else none) = some h from e)
    simp only [Bool.and_eq_true, decide_eq_true_eq] at c
    have h1 := Nat.le_of_ble_eq_true c.1.1.1.2
    have h2 := Nat.le_of_ble_eq_true c.1.1.2
    have h3 := Nat.le_of_ble_eq_true c.1.2
    have h4 := Nat.le_of_ble_eq_true c.2
    obtain ⟨a, vs, rfl, ha, ra⟩ := tx.tup
    have hl := ra.length
    rw [ty.int]
    exact .inr (.inr ⟨a, i, vs, rfl, rfl, same_tT S.bh ha, ⟨fun z => by subst z; cases ra; simp at h3, by omega, by omega, by omega⟩, newT S (ra.rep _) k⟩)
  | _ => exact .inl (ol_mul ρ σ B H x y _ dy h Q S tx ty e k)
def intsL : List D → Option (List Int)
  | [] => some []
  | .int b :: ds => (intsL ds).map (b :: ·)
  | _ :: _ => none
theorem intsL_ok : ∀ {vs : List V} {ds : List D} {bs : List Int}, RpL K B vs ds → intsL ds = some bs → vs = bs.map V.int
  | _, _, _, .nil, e => by cases e; rfl
  | _, d :: ds, _, .cons h t, e => by
    cases d <;> first | (cases e; done) | skip
    obtain ⟨r, er, rfl⟩ := Option.map_eq_some_iff.mp e
    cases h
    rw [intsL_ok t er]; rfl
def sumD : D → Option Hd
  | .list ds => (intsL ds).map fun bs => .sh (.int bs.sum)
  | _ => none
theorem cl_sum : CalL K (rSum K) (un1 sumD) := CalL.one fun ρ σ B H x d h Q S t e k => by
  cases d <;> first | (cases (show none = some h from e); done) | skip
  obtain ⟨bs, e1, rfl⟩ := Option.map_eq_some_iff.mp e
  obtain ⟨a, vs, rfl, ha, ra⟩ := t
  have := intsL_ok ra e1
  subst this
  exact ⟨a, bs, rfl, ha, now S (.int _) k⟩
end
section
variable {X : Cx} {C : Ct} {a b e : Expr} {ta tb te : TE} {fa fb fe : EF} {pos p p1 p2 p3 : Pos}
end
end GS
namespace GS
open PySem L2
def mapR (k : Rho → Rho) : RS → RS
  | .stuck => .stuck
  | .nx ρ => .nx (k ρ)
  | .bk ρ => .bk (k ρ)
  | .ct ρ => .ct (k ρ)
  | .rt h ρ => .rt h (k ρ)
  | .exc x ρ => .exc x (k ρ)
/-- less is known -/
structure Weak (ρ ρ' : Rho) : Prop where
  len : ρ'.length = ρ.length
  sub : ∀ (i : Nat) (c : Cel), ρ'[i]? = some (some c) → ρ[i]? = some (some c)
  io : ∀ (i : Nat) (c : Cel), ρ[i]? = some (some c) → c.fl = .io ∨ c.fl = .st → ρ'[i]? = some (some c)
section
variable {K : KW} {X : Cx} {C : Ct} {ρ ρ1 ρ2 : Rho} {σ σ1 : St} {B H B1 H1 : Hp} {Ed : Ends} {t u : TS} {f g : SF} {st : Stmt} {rest : List Stmt} {pos : Pos}
theorem OwnA.weak (w : Weak ρ ρ1) {a : Addr} (h : OwnA ρ1 σ a) : OwnA ρ σ a := by
  obtain ⟨i, c, h1, h2, h3⟩ := h
  exact ⟨i, c, w.sub i c h1, h2, h3⟩
theorem Sim.weak (S : Sim K ρ σ B H) (w : Weak ρ ρ1) : Sim K ρ1 σ B H :=
  ⟨S.bh, ⟨by rw [w.len]; exact S.len.le, fun i h1 h2 => by
    obtain ⟨d, q⟩ := S.len.ex i h1 (by rw [← w.len]; exact h2)
    exact ⟨d, w.io i _ q (.inr rfl)⟩⟩, fun i c h => S.sl i c (w.sub i c h), fun i j ci cj a hi hj => S.dj i j ci cj a (w.sub i ci hi) (w.sub j cj hj),
    S.st.keep (Same.refl B) (fun _ _ _ h => h) (fun _ _ _ _ => rfl) (fun i d h => w.sub i _ h) rfl⟩
theorem Ext.weak (x : Ext ρ σ B H ρ1 σ1 B1 H1) (w : Weak ρ1 ρ2) : Ext ρ σ B H ρ2 σ1 B1 H1 :=
  ⟨x.bb, x.nw, x.kp, fun a h => x.sub a (OwnA.weak w h), fun i c h1 h2 => by
    obtain ⟨e1, c1, q1, q2⟩ := x.io i c h1 h2
    exact ⟨e1, c1, w.io i c1 q1 (.inl q2), q2⟩, fun i c h1 h2 => x.oi i c (w.sub i c h1) h2, x.tx.st fun i d h => w.sub i _ h⟩
theorem HdOk.weak {N : Addr → Prop} {v : V} (w : Weak ρ ρ1) : ∀ {h : Hd}, HdOk K N ρ σ B H v h → HdOk K N ρ1 σ B H v h
  | .sh _, q => q
  | .fr _, ⟨a, h1, h2, h3, h4, h5⟩ => ⟨a, h1, h2, h3, fun z => h4 (OwnA.weak w z), h5⟩
  | .bw _, q => q
  | .sp _ _, q => q
theorem lk_weak {k : Rho → Rho} {f : SF} (hk : ∀ ρ' σ' B' H', Sim C.K ρ' σ' B' H' → Ext ρ σ B H ρ' σ' B' H' → Weak ρ' (k ρ')) (g : GoodS C ρ σ B H Ed (mapR k (f ρ))) : GoodS C ρ σ B H Ed (f ρ) := by
  cases e : f ρ with
  | stuck => rw [e] at g; exact g
  | nx ρ' => rw [e] at g; exact fun σ' B' H' s x => g σ' B' H' (s.weak (hk _ _ _ _ s x)) (x.weak (hk _ _ _ _ s x))
  | bk ρ' => rw [e] at g; exact fun σ' B' H' s x => g σ' B' H' (s.weak (hk _ _ _ _ s x)) (x.weak (hk _ _ _ _ s x))
  | ct ρ' => rw [e] at g; exact fun σ' B' H' s x => g σ' B' H' (s.weak (hk _ _ _ _ s x)) (x.weak (hk _ _ _ _ s x))
  | rt h ρ' => rw [e] at g; exact fun v σ' B' H' s x y => g v σ' B' H' (s.weak (hk _ _ _ _ s x)) (x.weak (hk _ _ _ _ s x)) (y.weak (hk _ _ _ _ s x))
  | exc y ρ' => rw [e] at g; exact fun c d σ' B' H' s x z => g c d σ' B' H' (s.weak (hk _ _ _ _ s x)) (x.weak (hk _ _ _ _ s x)) z
def sKill (vs : List Nat) (f : SF) : SF := fun ρ => if vs.all fun i => !ioAt ρ i then mapR (fun ρ => wipeR ρ vs) (f ρ) else .stuck
theorem weak_wipe {vs : List Nat} (h : ∀ i ∈ vs, ∀ c, ρ[i]? = some (some c) → c.fl ≠ .io ∧ c.fl ≠ .st) : Weak ρ (wipeR ρ vs) :=
  ⟨wipeR_len _ _, fun i c e => (wipeR_some e).1, fun i c e z => by
    have ni : i ∉ vs := fun q => z.elim (h i q c e).1 (h i q c e).2
    rw [wipeR_keep ni]; exact e⟩
theorem lk_kill {vs : List Nat} (l : LkS C t f) : LkS C t (sKill vs f) := fun ρ σ B H D S g => by
  unfold sKill at g
  split at g
  · rename_i hv
    refine l ρ σ B H D S (lk_weak (fun ρ' σ' B' H' s x => weak_wipe fun i hi c hc => ⟨fun hf => ?_, fun hf => ?_⟩) g)
    · have := List.all_eq_true.mp hv i hi
      obtain ⟨c', q1, q2⟩ := x.oi i c hc hf
      exact not_io (by simpa using this) q1 q2
    · have := List.all_eq_true.mp hv i hi
      obtain ⟨d, fl⟩ := c
      cases hf
      exact s.noSt x.tx (not_st (by simpa using this)) d hc
  · exact g.elim
theorem sss_kill {vs : List Nat} {sts : List Stmt} (l : SSs X C sts t f) : SSs X C sts t (sKill vs f) := ⟨l.ps, lk_kill l.lk⟩
theorem weak_io : Weak ρ (ρ.map ioC) := by
  refine ⟨List.length_map _, fun i c e => ?_, fun i c e z => ?_⟩
  · rw [List.getElem?_map] at e
    obtain ⟨o, h1, h2⟩ := Option.map_eq_some_iff.mp e
    rw [h1, (ioC_some h2).1]
  · rw [List.getElem?_map, e]
    obtain ⟨d, fl⟩ := c
    rcases z with z | z <;> cases z <;> rfl
/-- only what is lent stays -/
def sEnd (f : SF) : SF := fun ρ => mapR (fun ρ => ρ.map ioC) (f ρ)
theorem lk_end (l : LkS C t f) : LkS C t (sEnd f) := fun ρ σ B H D S g => l ρ σ B H D S (lk_weak (fun _ _ _ _ _ _ => weak_io) g)
theorem ss_end (l : SS X C st t f) : SS X C st t (sEnd f) := ⟨l.ps, lk_end l.lk⟩
end
end GS
namespace GS
open PySem L2
def flatEq : D → D → Option Bool
  | .str i, .str j => some (decide (i = j))
  | .int i, .int j => some (decide (i = j))
  | .bool i, .bool j => some (decide (i = j))
  | .none, .none => some true
  | .none, .str _ => some false
  | .str _, .none => some false
  | .none, .int _ => some false
  | .int _, .none => some false
  | _, _ => none
/-- no dicts, at most 190 deep -/
def okW (d : D) : Bool := GS.plain d && PyData.canLay0 d && Nat.ble d.depth 190
def eqB (neg : Bool) : D → D → Option Hd := fun x y => match flatEq x y with
  | some b => some (.sh (.bool (neg ^^ b)))
  | none => if okW x && okW y then some (.sh (.bool (neg ^^ PyData.eqv x y))) else none
def rEqW (K : PySem.W.Frag) : R2 := fun x y H Q => ∃ d e, Dp K H x d ∧ Dp K H y e ∧ PyData.canLay0 d = true ∧ PyData.canLay0 e = true ∧ d.depth ≤ 190 ∧ Q (.bl (PyData.eqv d e)) H
def rNeW (K : PySem.W.Frag) : R2 := fun x y H Q => ∃ d e, Dp K H x d ∧ Dp K H y e ∧ PyData.canLay0 d = true ∧ PyData.canLay0 e = true ∧ d.depth ≤ 190 ∧ Q (.bl (!PyData.eqv d e)) H
theorem op_eqW {X : Cx} (hu : X.A.units + 199 < cLine) : OpR X (compareOp .Eq) (rEqW X.K) := by
  intro pins s σ H x y v u Q I rx ry h
  obtain ⟨d, e, hd, he, sd, se, dp, q⟩ := h
  obtain ⟨as, r1⟩ := Dp.reads I d x v hd rx
  obtain ⟨bs, r2⟩ := Dp.reads I e y u he ry
  exact SeqAt.compareEq_reads r1 r2 sd se (by omega) ⟨.bl _, H, I, rfl, q⟩
theorem op_neW {X : Cx} (hu : X.A.units + 199 < cLine) : OpR X (compareOp .NotEq) (rNeW X.K) := by
  intro pins s σ H x y v u Q I rx ry h
  obtain ⟨d, e, hd, he, sd, se, dp, q⟩ := h
  obtain ⟨as, r1⟩ := Dp.reads I d x v hd rx
  obtain ⟨bs, r2⟩ := Dp.reads I e y u he ry
  exact SeqAt.compareNe_reads r1 r2 sd se (by omega) ⟨.bl _, H, I, rfl, q⟩
section
variable {K : KW}
theorem flatEq_V {B H : Hp} {x y : V} {dx dy : D} {b : Bool} (tx : Tp K B H x dx) (ty : Tp K B H y dy) (e : flatEq dx dy = some b) : scal x y = true ∧ decide (x = y) = b := by
  cases dx <;> cases dy <;> first | (cases (show none = some b from e); done) | skip
  · cases e; rw [tx.non, ty.non]; exact ⟨rfl, rfl⟩
  · cases e; rw [tx.non, ty.int]; exact ⟨rfl, by simp⟩
  · cases e; rw [tx.non, ty.str]; exact ⟨rfl, by simp⟩
  · cases e; rw [tx.bl, ty.bl]; exact ⟨rfl, by simp⟩
  · cases e; rw [tx.int, ty.non]; exact ⟨rfl, by simp⟩
  · cases e; rw [tx.int, ty.int]; exact ⟨rfl, by simp⟩
  · cases e; rw [tx.str, ty.non]; exact ⟨rfl, by simp⟩
  · cases e; rw [tx.str, ty.str]; exact ⟨rfl, by simp⟩
theorem op_eqB {X : Cx} (hu : X.A.units + 199 < cLine) : OpR X (compareOp .Eq) (fun x y H Q => rEq x y H Q ∨ rEqW X.K x y H Q) := OpR.or op_eq (op_eqW hu)
theorem op_neB {X : Cx} (hu : X.A.units + 199 < cLine) : OpR X (compareOp .NotEq) (fun x y H Q => rNe x y H Q ∨ rNeW X.K x y H Q) := OpR.or op_ne (op_neW hu)
theorem okW_ok {d : D} (h : okW d = true) : GS.plain d = true ∧ PyData.canLay0 d = true ∧ d.depth ≤ 190 := by
  unfold okW at h
  rw [Bool.and_eq_true, Bool.and_eq_true] at h
  exact ⟨h.1.1, h.1.2, Nat.le_of_ble_eq_true h.2⟩
theorem ol_eqB : OpL K (fun x y H Q => rEq x y H Q ∨ rEqW K x y H Q) (eqB false) := fun ρ σ B H x y dx dy h Q S tx ty e k => by
  unfold eqB at e
  split at e
  · rename_i b eb
    cases e
    obtain ⟨q1, q2⟩ := flatEq_V tx ty eb
    refine .inl ⟨q1, ?_⟩
    rw [q2]
    have := now (v := .bl (false ^^ b)) S (.bl _) k
    rwa [Bool.false_xor] at this
  · obtain ⟨c, rfl⟩ := if_some e
    rw [Bool.and_eq_true] at c
    obtain ⟨p1, c1, d1⟩ := okW_ok c.1
    obtain ⟨p2, c2, d2⟩ := okW_ok c.2
    refine .inr ⟨dx, dy, tx.dpT S.bh p1, ty.dpT S.bh p2, c1, c2, d1, ?_⟩
    have := now (v := .bl (false ^^ PyData.eqv dx dy)) S (.bl _) k
    rwa [Bool.false_xor] at this
theorem ol_neB : OpL K (fun x y H Q => rNe x y H Q ∨ rNeW K x y H Q) (eqB true) := fun ρ σ B H x y dx dy h Q S tx ty e k => by
  unfold eqB at e
  split at e
  · rename_i b eb
    cases e
    obtain ⟨q1, q2⟩ := flatEq_V tx ty eb
    refine .inl ⟨q1, ?_⟩
    rw [q2]
    have := now (v := .bl (true ^^ b)) S (.bl _) k
    rwa [Bool.true_xor] at this
  · obtain ⟨c, rfl⟩ := if_some e
    rw [Bool.and_eq_true] at c
    obtain ⟨p1, c1, d1⟩ := okW_ok c.1
    obtain ⟨p2, c2, d2⟩ := okW_ok c.2
    refine .inr ⟨dx, dy, tx.dpT S.bh p1, ty.dpT S.bh p2, c1, c2, d1, ?_⟩
    have := now (v := .bl (true ^^ PyData.eqv dx dy)) S (.bl _) k
    rwa [Bool.true_xor] at this
end
end GS
namespace GS
open PySem L2
def stuckF : FF := fun _ => .stuck
section
variable {ρ ρ1 : Rho} {c : Prop} [Decidable c]
@[simp] theorem mapR_st (k : Rho → Rho) : mapR k .stuck = .stuck := rfl
@[simp] theorem mapR_nx (k : Rho → Rho) : mapR k (.nx ρ) = .nx (k ρ) := rfl
@[simp] theorem mapR_bk (k : Rho → Rho) : mapR k (.bk ρ) = .bk (k ρ) := rfl
@[simp] theorem mapR_ct (k : Rho → Rho) : mapR k (.ct ρ) = .ct (k ρ) := rfl
@[simp] theorem mapR_rt (k : Rho → Rho) (h : Hd) : mapR k (.rt h ρ) = .rt h (k ρ) := rfl
@[simp] theorem mapR_ex (k : Rho → Rho) (x : Xc) : mapR k (.exc x ρ) = .exc x (k ρ) := rfl
@[simp] theorem mapR_if (k : Rho → Rho) (a b : RS) : mapR k (if c then a else b) = if c then mapR k a else mapR k b := by split <;> rfl
@[simp] theorem sKill_eq (vs : List Nat) (f : SF) : sKill vs f ρ = if vs.all fun i => !ioAt ρ i then mapR (fun ρ => wipeR ρ vs) (f ρ) else .stuck := rfl
@[simp] theorem sEnd_eq (f : SF) : sEnd f ρ = mapR (fun ρ => ρ.map ioC) (f ρ) := rfl
@[simp] theorem ioAt_zi (d : D) : ioAt (some ⟨d, .io⟩ :: ρ) 0 = true := rfl
@[simp] theorem outR_zero : outR ρ 0 = [] := rfl
@[simp] theorem outR_succ (x : Option Cel) (n : Nat) : outR (x :: ρ) (n + 1) = ioC x :: outR ρ n := by
  unfold outR
  rw [List.range_succ_eq_map, List.map_cons, List.map_map, slot_zero]
  rfl
@[simp] theorem ixA_l (ds : List D) (i : Int) : ixA (.list ds) (.int i) = (atI ds i).map Hd.sh := rfl
@[simp] theorem ixA_t (ds : List D) (i : Int) : ixA (.tuple ds) (.int i) = (atI ds i).map Hd.sh := rfl
@[simp] theorem ixA_s (z : Str) (i : Int) : ixA (.str z) (.int i) = if z.length ≤ sizeLine then (atI z.cps.toList i).map fun c => Hd.sh (.str ⟨#[c]⟩) else none := rfl
@[simp] theorem ixA_d (ps : List (D × D)) (k : D) : ixA (.dict ps) k = if isK k then (dGet ps k).map Hd.sh else none := rfl
@[simp] theorem isS_s (z : Str) : isS (.str z) = true := rfl
@[simp] theorem isS_i (z : Int) : isS (.int z) = true := rfl
@[simp] theorem mixB_nil (k : D) : mixB [] k = false := rfl
@[simp] theorem mixB_ss (z w : Str) (d : D) (ps : List (D × D)) : mixB ((.str z, d) :: ps) (.str w) = false := rfl
@[simp] theorem mixB_ii (z w : Int) (d : D) (ps : List (D × D)) : mixB ((.int z, d) :: ps) (.int w) = false := rfl
@[simp] theorem mixB_tt (z w : List D) (d : D) (ps : List (D × D)) : mixB ((.tuple z, d) :: ps) (.tuple w) = false := rfl
@[simp] theorem xnB_tup (z : List D) (d : D) (ps : List (D × D)) : xnB ((.tuple z, d) :: ps) = false := rfl
@[simp] theorem isK_s (z : Str) : isK (.str z) = true := rfl
@[simp] theorem isK_i (z : Int) : isK (.int z) = true := rfl
@[simp] theorem kEq_s (z w : Str) : kEq (.str z) (.str w) = decide (z = w) := rfl
@[simp] theorem kEq_i (z w : Int) : kEq (.int z) (.int w) = decide (z = w) := rfl
@[simp] theorem dGet_nil (k : D) : dGet [] k = none := rfl
@[simp] theorem dGet_cons (a d : D) (r : List (D × D)) (k : D) : dGet ((a, d) :: r) k = if kEq a k then some d else dGet r k := rfl
@[simp] theorem ofS_inj (a b : String) : (Str.ofString a = Str.ofString b) ↔ a = b := by
  constructor
  · intro h
    rw [Str.ofString_eq_toList, Str.ofString_eq_toList, Str.mk.injEq] at h
    have h2 : a.toList.map Char.toNat = b.toList.map Char.toNat := by
      have := congrArg Array.toList h
      simpa using this
    have h3 : a.toList = b.toList := (List.map_inj_right (fun x y e => Char.toNat_inj.mp e)).mp h2
    exact String.toList_inj.mp h3
  · intro h; rw [h]
theorem ofS_len (a : String) : (Str.ofString a).length = a.toList.length := by
  rw [Str.ofString_eq_toList]
  show (List.toArray _).size = _
  simp
theorem ofS_cps (a : String) : (Str.ofString a).cps.toList = a.toList.map Char.toNat := by
  rw [Str.ofString_eq_toList]
@[simp] theorem xnB_nil : xnB [] = false := rfl
@[simp] theorem xnB_str (x : Str) (d : D) (ps : List (D × D)) : xnB ((.str x, d) :: ps) = false := rfl
@[simp] theorem xnB_int (x : Int) (d : D) (ps : List (D × D)) : xnB ((.int x, d) :: ps) = false := rfl
@[simp] theorem inB_d (neg : Bool) (k : D) (ps : List (D × D)) : inB neg k (.dict ps) = if isK k && !xnB ps && !mixB ps k then some (.sh (.bool (neg ^^ (dGet ps k).isSome))) else none := by cases k <;> rfl
@[simp] theorem inB_c (neg : Bool) (c : Nat) (z : Str) : inB neg (.str ⟨#[c]⟩) (.str z) = some (.sh (.bool (neg ^^ decide (c ∈ z.cps.toList)))) := rfl
@[simp] theorem inB_t (neg : Bool) (d : D) (ds : List D) : inB neg d (.tuple ds) = if flatD d && ds.all flatD then some (.sh (.bool (neg ^^ ds.any fun z => PyData.eqv z d))) else none := by cases d <;> rfl
@[simp] theorem inB_l (neg : Bool) (d : D) (ds : List D) : inB neg d (.list ds) = if okEq d && okEq (.list ds) then some (.sh (.bool (neg ^^ ds.any fun z => PyData.eqv z d))) else none := by cases d <;> rfl
@[simp] theorem mulA_i (i j : Int) : mulA (.int i) (.int j) = mulD (.int i) (.int j) := rfl
theorem mulA_s (z : Str) (k : Int) : mulA (.str z) (.int k) = if decide (0 ≤ k) && Nat.ble k.natAbs 1000 && Nat.ble z.length 1000 then some (.sh (.str (Txt.mul z k))) else none := rfl
@[simp] theorem eqB_i (neg : Bool) (i j : Int) : eqB neg (.int i) (.int j) = some (.sh (.bool (neg ^^ decide (i = j)))) := rfl
@[simp] theorem eqB_s (neg : Bool) (i j : Str) : eqB neg (.str i) (.str j) = some (.sh (.bool (neg ^^ decide (i = j)))) := rfl
@[simp] theorem eqB_b (neg : Bool) (i j : Bool) : eqB neg (.bool i) (.bool j) = some (.sh (.bool (neg ^^ decide (i = j)))) := rfl
@[simp] theorem eqB_nn (neg : Bool) : eqB neg .none .none = some (.sh (.bool (neg ^^ true))) := rfl
@[simp] theorem eqB_ns (neg : Bool) (j : Str) : eqB neg .none (.str j) = some (.sh (.bool (neg ^^ false))) := rfl
@[simp] theorem eqB_sn (neg : Bool) (j : Str) : eqB neg (.str j) .none = some (.sh (.bool (neg ^^ false))) := rfl
@[simp] theorem eqB_ni (neg : Bool) (j : Int) : eqB neg .none (.int j) = some (.sh (.bool (neg ^^ false))) := rfl
@[simp] theorem eqB_in (neg : Bool) (j : Int) : eqB neg (.int j) .none = some (.sh (.bool (neg ^^ false))) := rfl
/-- any two data that can be compared -/
theorem eqB_of {x y : D} (neg : Bool) (hx : okW x = true) (hy : okW y = true) : eqB neg x y = some (.sh (.bool (neg ^^ PyData.eqv x y))) := by
  unfold eqB
  split
  · rename_i b e
    congr 4
    cases x <;> cases y <;> first | (cases (show none = some b from e); done) | (cases e; simp [PyData.eqv]; done) | skip
    · cases e; simp [PyData.eqv]; rw [Bool.eq_iff_iff]; simp
    · cases e; simp [PyData.eqv]; rw [Bool.eq_iff_iff]; simp
    · cases e; simp [PyData.eqv]; rw [Bool.eq_iff_iff]; simp
  · rw [hx, hy]
    rfl
@[simp] theorem isD_nn (neg : Bool) : isD neg .none .none = some (.sh (.bool (!neg))) := rfl
@[simp] theorem isD_bn (neg b : Bool) : isD neg (.bool b) .none = some (.sh (.bool neg)) := rfl
@[simp] theorem isD_in (neg : Bool) (b : Int) : isD neg (.int b) .none = some (.sh (.bool neg)) := rfl
@[simp] theorem isD_sn (neg : Bool) (b : Str) : isD neg (.str b) .none = some (.sh (.bool neg)) := rfl
@[simp] theorem isD_tn (neg : Bool) (b : List D) : isD neg (.tuple b) .none = some (.sh (.bool neg)) := rfl
@[simp] theorem isD_ln (neg : Bool) (b : List D) : isD neg (.list b) .none = some (.sh (.bool neg)) := rfl
@[simp] theorem isD_dn (neg : Bool) (b : List (D × D)) : isD neg (.dict b) .none = some (.sh (.bool neg)) := rfl
@[simp] theorem isD_bb (neg a b : Bool) : isD neg (.bool a) (.bool b) = some (.sh (.bool (neg ^^ decide (a = b)))) := rfl
@[simp] theorem sumD_l (bs : List Int) : sumD (.list (bs.map .int)) = some (.sh (.int bs.sum)) := by
  have : intsL (bs.map .int) = some bs := by
    induction bs with
    | nil => rfl
    | cons b bs ih => rw [List.map_cons]; unfold intsL; rw [ih]; rfl
  unfold sumD
  dsimp only
  rw [this]; rfl
def mutO (fl : Fl) (o : Option D) (ρ : Rho) (i : Nat) : RS := match o with
  | some d' => .nx (ρ.set i (some ⟨d', fl⟩))
  | none => .stuck
def mutC (s : Option Cel) (ρ : Rho) (i : Nat) (k : D → Option D) : RS := match s with
  | some ⟨d, .ow⟩ => mutO .ow (k d) ρ i
  | some ⟨d, .io⟩ => mutO .io (k d) ρ i
  | _ => .stuck
@[simp] theorem mutO_s (fl : Fl) (d : D) (i : Nat) : mutO fl (some d) ρ i = .nx (ρ.set i (some ⟨d, fl⟩)) := rfl
@[simp] theorem mutO_if (fl : Fl) (a b : Option D) (i : Nat) : mutO fl (if c then a else b) ρ i = if c then mutO fl a ρ i else mutO fl b ρ i := by split <;> rfl
@[simp] theorem mutO_n (fl : Fl) (i : Nat) : mutO fl none ρ i = .stuck := rfl
@[simp] theorem mutC_ow (d : D) (i : Nat) (k : D → Option D) : mutC (some ⟨d, .ow⟩) ρ i k = mutO .ow (k d) ρ i := rfl
@[simp] theorem mutC_io (d : D) (i : Nat) (k : D → Option D) : mutC (some ⟨d, .io⟩) ρ i k = mutO .io (k d) ρ i := rfl
@[simp] theorem mutS_eq (i : Nat) (k : D → Option D) : mutS ρ i k = mutC (slot ρ i) ρ i k := by
  unfold mutS mutC mutO
  rfl
@[simp] theorem appD_l (y : D) (ds : List D) : appD y (.list ds) = if ds.length < sizeLine then some (.list (ds ++ [y])) else none := rfl
def isLC : Option Cel → Bool
  | some ⟨.list _, _⟩ => true
  | _ => false
@[simp] theorem isLC_l (ds : List D) (fl : Fl) : isLC (some ⟨.list ds, fl⟩) = true := rfl
@[simp] theorem isL_eq (i : Nat) : isL ρ i = isLC (slot ρ i) := rfl
def appR (i : Nat) (h : Hd) (ρ : Rho) : RS := match h with
  | .sh y => mutS ρ i (appD y)
  | _ => .stuck
@[simp] theorem appR_sh (i : Nat) (y : D) : appR i (.sh y) ρ = mutS ρ i (appD y) := rfl
@[simp] theorem sApp_eq (i : Nat) (f : EF) : sApp i f ρ = if isL ρ i then bindES (eCap f ρ) (appR i) else .stuck := by unfold sApp; rfl
def putK (i : Nat) (y : D) (h : Hd) (ρ : Rho) : RS := match h with
  | .sh k => mutS ρ i (setD k y)
  | _ => .stuck
@[simp] theorem putK_sh (i : Nat) (k y : D) : putK i y (.sh k) ρ = mutS ρ i (setD k y) := rfl
@[simp] theorem setD_d (k y : D) (ps : List (D × D)) : setD k y (.dict ps) = if isK k && !mixB ps k && decide (ps.length < sizeLine) then some (.dict (dPut ps k y)) else none := rfl
@[simp] theorem setD_l (i : Int) (y : D) (ds : List D) : setD (.int i) y (.list ds) = (ixN ds.length i).map fun j => .list (ds.set j y) := rfl
@[simp] theorem gT_t (n : Nat) (f : List D → Rho → Option Rho) (ds : List D) : gT n f (.tuple ds) ρ = if ds.length = n then f ds ρ else none := rfl
@[simp] theorem gT_l (n : Nat) (f : List D → Rho → Option Rho) (ds : List D) : gT n f (.list ds) ρ = if ds.length = n then f ds ρ else none := rfl
@[simp] theorem gsN_n : gsN [] ρ = some ρ := rfl
@[simp] theorem gsC_c (f : D → Rho → Option Rho) (g : List D → Rho → Option Rho) (d : D) (ds : List D) : gsC f g (d :: ds) ρ = (f d ρ).bind (g ds) := rfl
def unpO (o : Option Rho) : RS := match o with
  | some ρ => .nx ρ
  | none => .stuck
def unpR (g : D → Rho → Option Rho) (h : Hd) (ρ : Rho) : RS := match h with
  | .sh d => unpO (g d ρ)
  | _ => .stuck
@[simp] theorem unpO_s : unpO (some ρ) = .nx ρ := rfl
@[simp] theorem unpO_if (a b : Option Rho) : unpO (if c then a else b) = if c then unpO a else unpO b := by split <;> rfl
@[simp] theorem unpR_sh (g : D → Rho → Option Rho) (d : D) : unpR g (.sh d) ρ = unpO (g d ρ) := rfl
@[simp] theorem sUnp_eq (g : D → Rho → Option Rho) (f : EF) : sUnp g f ρ = bindES (eCap f ρ) (unpR g) := by
  unfold sUnp unpR unpO
  rfl
def bindP (r : RP) (k : List (D × D) → Rho → RE) : RE := match r with
  | .stuck => .stuck
  | .exc x ρ1 => .exc x ρ1
  | .ok ps ρ1 => k ps ρ1
@[simp] theorem bindP_ok (ps : List (D × D)) (k : List (D × D) → Rho → RE) : bindP (.ok ps ρ) k = k ps ρ := rfl
@[simp] theorem eDct_eq (g : PF) : eDct g ρ = bindP (g ρ) fun ps ρ1 => if ps.length ≤ 15 then .ok (.fr (.dict (dMerge ps))) ρ1 else .stuck := by unfold eDct bindP; rfl
@[simp] theorem dNil_eq : dNil ρ = .ok [] ρ := rfl
def consP (k v : D) (r : RP) : RP := match r with
  | .stuck => .stuck
  | .exc x ρ3 => .exc x ρ3
  | .ok ps ρ3 => if isS k then .ok ((k, v) :: ps) ρ3 else .stuck
@[simp] theorem consP_ok (k v : D) (ps : List (D × D)) : consP k v (.ok ps ρ) = if isS k then .ok ((k, v) :: ps) ρ else .stuck := rfl
def valP (k : D) (g : PF) (r : RE) : RP := match r with
  | .stuck => .stuck
  | .exc x ρ2 => .exc x ρ2
  | .ok (.sh v) ρ2 => consP k v (g ρ2)
  | .ok _ _ => .stuck
@[simp] theorem valP_ok (k v : D) (g : PF) : valP k g (.ok (.sh v) ρ) = consP k v (g ρ) := rfl
def keyP (fv : EF) (g : PF) (r : RE) : RP := match r with
  | .stuck => .stuck
  | .exc x ρ1 => .exc x ρ1
  | .ok (.sh k) ρ1 => valP k g (eCap fv ρ1)
  | .ok _ _ => .stuck
@[simp] theorem keyP_ok (k : D) (fv : EF) (g : PF) : keyP fv g (.ok (.sh k) ρ) = valP k g (eCap fv ρ) := rfl
@[simp] theorem dCons_eq (fk fv : EF) (g : PF) : dCons fk fv g ρ = keyP fv g (eCap fk ρ) := by
  unfold dCons keyP valP consP
  rfl
@[simp] theorem shCs_n : shCs [] = some [] := rfl
@[simp] theorem shCs_c (d : D) (hs : List Hd) : shCs (.sh d :: hs) = (shCs hs).map fun r => some ⟨d, .sh⟩ :: r := rfl
@[simp] theorem argC_bwo (i : Nat) : argC ρ true (.bw i) = match slot ρ i with
    | some ⟨d, .ow⟩ => some ⟨d, .io⟩
    | some ⟨d, .io⟩ => some ⟨d, .io⟩
    | _ => none := rfl
def putBC (ρ : Rho) (i : Nat) (a b : Option Cel) : Option Rho := match a, b with
  | some c, some c' => some (ρ.set i (some ⟨c'.d, c.fl⟩))
  | _, _ => none
@[simp] theorem putBC_s (i : Nat) (a b : Cel) : putBC ρ i (some a) (some b) = some (ρ.set i (some ⟨b.d, a.fl⟩)) := rfl
theorem putB_bw (i j : Nat) (hs : List Hd) (outs : Rho) (h : hs[j]? = some (.bw i)) : putB ρ (some j) hs outs = putBC ρ i (slot ρ i) (slot outs j) := by
  unfold putB putBC
  dsimp only
  rw [h]
  try rfl
/-- one argument lent, the first one -/
@[simp] theorem backR_io0 (i : Nat) (hs : List Hd) (d : D) (d' : D) (fl : Fl) (outs : Rho) : backR ρ (some 0) (.bw i :: hs) (.ok (.sh d) (some ⟨d', fl⟩ :: outs)) = match slot ρ i with
    | some c => .ok (.sh d) (ρ.set i (some ⟨d', c.fl⟩))
    | none => .stuck := by
  unfold backR
  dsimp only
  rw [putB_bw i 0 _ _ rfl, slot_zero]
  cases slot ρ i <;> rfl
@[simp] theorem backR_io0f (i : Nat) (hs : List Hd) (d : D) (d' : D) (fl : Fl) (outs : Rho) : backR ρ (some 0) (.bw i :: hs) (.ok (.fr d) (some ⟨d', fl⟩ :: outs)) = match slot ρ i with
    | some c => .ok (.fr d) (ρ.set i (some ⟨d', c.fl⟩))
    | none => .stuck := by
  unfold backR
  dsimp only
  rw [putB_bw i 0 _ _ rfl, slot_zero]
  cases slot ρ i <;> rfl
/-- every turn goes on -/
theorem forL_st {S α : Type} {g : D → Rho → Option Rho} {b : SF} (emb : S → Rho) (it : α → D) (step : S → α → S) (P : List α → S → Prop) : ∀ (as pre : List α) (s : S), P pre s →
    (∀ pre a s, a ∈ as → P pre s → (optR (g (it a) (emb s)) b = .nx (emb (step s a)) ∧ P (pre ++ [a]) (step s a))) →
    forL g b (as.map it) (emb s) = .nx (emb (as.foldl step s)) ∧ P (pre ++ as) (as.foldl step s)
  | [], pre, s, h, _ => ⟨rfl, by simpa using h⟩
  | a :: as, pre, s, h, k => by
    obtain ⟨h1, h2⟩ := k pre a s (List.mem_cons_self ..) h
    obtain ⟨q1, q2⟩ := forL_st emb it step P as (pre ++ [a]) (step s a) h2 fun pre a s m hp => k pre a s (List.mem_cons_of_mem _ m) hp
    refine ⟨?_, by simpa using q2⟩
    rw [List.map_cons, forL_cons]
    unfold optR at h1 ⊢
    split at h1
    · cases h1
    · rename_i ρ1 e
      dsimp only
      rw [h1, turnR_nx, q1, List.foldl_cons]
/-- a loop that only looks: it leaves with r at the first item that p does not hold of -/
theorem forL_look {α : Type} {g : D → Rho → Option Rho} {b : SF} (ρ ρ' : Rho) (it : α → D) (p : α → Bool) (r : Hd) : ∀ (as : List α),
    (∀ a, a ∈ as → optR (g (it a) ρ) b = if p a then .nx ρ else .rt r ρ') → forL g b (as.map it) ρ = if as.all p then .nx ρ else .rt r ρ'
  | [], _ => rfl
  | a :: as, k => by
    have h1 := k a (List.mem_cons_self ..)
    have q := forL_look ρ ρ' it p r as fun a m => k a (List.mem_cons_of_mem _ m)
    rw [List.map_cons, forL_cons]
    unfold optR at h1 ⊢
    split at h1
    · split at h1 <;> cases h1
    · dsimp only
      rw [h1]
      cases hp : p a <;> simp [hp, q]
/-- .. of the datum itself -/
theorem forL_lookD {g : D → Rho → Option Rho} {b : SF} (ρ ρ' : Rho) (p : D → Bool) (r : Hd) (ds : List D) (k : ∀ a, a ∈ ds → optR (g a ρ) b = if p a then .nx ρ else .rt r ρ') : forL g b ds ρ = if ds.all p then .nx ρ else .rt r ρ' := by
  have := forL_look (α := D) (g := g) (b := b) ρ ρ' id p r ds k
  simpa using this
/-- a loop by an invariant of its own state -/
theorem forL_by' {S : Type} {g : D → Rho → Option Rho} {b : SF} (emb : S → Rho) {all : List D} (P : List D → S → Prop) : ∀ (ds pre : List D) (s : S), pre ++ ds = all → P pre s →
    (∀ pre d post s, all = pre ++ d :: post → P pre s → ∃ s', optR (g d (emb s)) b = .nx (emb s') ∧ P (pre ++ [d]) s') → ∃ s', forL g b ds (emb s) = .nx (emb s') ∧ P all s'
  | [], pre, s, e, h, _ => ⟨s, rfl, by rw [← e, List.append_nil]; exact h⟩
  | a :: as, pre, s, e, h, k => by
    obtain ⟨s1, h1, h2⟩ := k pre a as s e.symm h
    obtain ⟨s2, q1, q2⟩ := forL_by' emb P as (pre ++ [a]) s1 (by rw [List.append_assoc]; exact e) h2 k
    refine ⟨s2, ?_, q2⟩
    rw [forL_cons]
    unfold optR at h1 ⊢
    split at h1
    · cases h1
    · dsimp only
      rw [h1, turnR_nx, q1]
theorem forL_by {S : Type} {g : D → Rho → Option Rho} {b : SF} (emb : S → Rho) (P : List D → S → Prop) (ds : List D) (s : S) (h : P [] s)
    (k : ∀ pre d post s, ds = pre ++ d :: post → P pre s → ∃ s', optR (g d (emb s)) b = .nx (emb s') ∧ P (pre ++ [d]) s') : ∃ s', forL g b ds (emb s) = .nx (emb s') ∧ P ds s' :=
  forL_by' emb P ds [] s rfl h k
/-- a comprehension over things, by a test and an element -/
theorem lcL_fm {α : Type} {vs : List Nat} {g : D → Rho → Option Rho} {ft fe : EF} (ρ : Rho) (it : α → D) (p : α → Bool) (el : α → D) : ∀ (as : List α) (acc : List D), acc.length + as.length ≤ sizeLine →
    (∀ a, a ∈ as → ∃ ρ1, g (it a) ρ = some ρ1 ∧ (∃ ρ2, ft ρ1 = .ok (.sh (.bool (p a))) ρ2 ∧ wipeR ρ2 vs = ρ ∧ (p a = true → ∃ ρ3, eCap fe ρ2 = .ok (.sh (el a)) ρ3 ∧ wipeR ρ3 vs = ρ))) →
    lcL vs g ft fe (as.map it) acc ρ = .ok (.fr (.list (acc ++ (as.filter p).map el))) ρ
  | [], acc, _, _ => by simp [lcL_nil]
  | a :: as, acc, hl, k => by
    rw [List.length_cons] at hl
    obtain ⟨ρ1, h1, ρ2, h2, h3, h4⟩ := k a (List.mem_cons_self ..)
    rw [List.map_cons, lcL_cons, h1, optE_s, h2, bindB_ok]
    cases hp : p a with
    | true =>
      obtain ⟨ρ3, h5, h6⟩ := h4 hp
      rw [if_pos rfl, h5, bindE_ok, lcR_s, if_pos (by omega), h6, lcL_fm ρ it p el as _ (by rw [List.length_append, List.length_singleton]; omega) fun a m => k a (List.mem_cons_of_mem _ m), List.filter_cons_of_pos hp]
      simp
    | false =>
      rw [if_neg Bool.false_ne_true, h3, lcL_fm ρ it p el as _ (by omega) fun a m => k a (List.mem_cons_of_mem _ m), List.filter_cons_of_neg (by rw [hp]; exact Bool.false_ne_true)]
/-- .. where nothing else changes; up: what a turn sees -/
theorem lcL_up {α : Type} {vs : List Nat} {g : D → Rho → Option Rho} {ft fe : EF} (ρ : Rho) (it : α → D) (up : α → Rho) (p : α → Bool) (el : α → D) (as : List α) (acc : List D) (hl : acc.length + as.length ≤ sizeLine)
    (k : ∀ a, a ∈ as → g (it a) ρ = some (up a) ∧ ft (up a) = .ok (.sh (.bool (p a))) (up a) ∧ wipeR (up a) vs = ρ ∧ (p a = true → eCap fe (up a) = .ok (.sh (el a)) (up a))) :
    lcL vs g ft fe (as.map it) acc ρ = .ok (.fr (.list (acc ++ (as.filter p).map el))) ρ :=
  lcL_fm ρ it p el as acc hl fun a m => by
    obtain ⟨h1, h2, h3, h4⟩ := k a m
    exact ⟨_, h1, _, h2, h3, fun h => ⟨_, h4 h, h3⟩⟩
/-- .. without a test -/
theorem lcL_all {α : Type} {vs : List Nat} {g : D → Rho → Option Rho} {fe : EF} (ρ : Rho) (it : α → D) (up : α → Rho) (el : α → D) (as : List α) (acc : List D) (hl : acc.length + as.length ≤ sizeLine)
    (k : ∀ a, a ∈ as → g (it a) ρ = some (up a) ∧ wipeR (up a) vs = ρ ∧ eCap fe (up a) = .ok (.sh (el a)) (up a)) :
    lcL vs g (eNox eYes) fe (as.map it) acc ρ = .ok (.fr (.list (acc ++ as.map el))) ρ := by
  have := lcL_up (ft := eNox eYes) (fe := fe) ρ it up (fun _ => true) el as acc hl fun a m => by
    obtain ⟨h1, h2, h3⟩ := k a m
    exact ⟨h1, rfl, h2, fun _ => h3⟩
  rw [this, List.filter_eq_self.mpr fun _ _ => rfl]
end
theorem fits {n : Nat} (h : n ≤ 1000000) : n ≤ sizeLine := Nat.le_trans h (by decide)
theorem fitsl {n : Nat} (h : n < 1000000) : n < sizeLine := Nat.lt_of_lt_of_le h (by decide)
theorem len_eq (s : Str) : s.length = s.cps.toList.length := by rw [Array.length_toList]; rfl
theorem cutD_len (ds : List D) (lo hi : Option Int) : (cutD ds lo hi).length ≤ ds.length := by
  unfold cutD
  rw [List.length_take, List.length_drop]
  omega
theorem cutD_mem {ds : List D} {lo hi : Option Int} {d : D} (h : d ∈ cutD ds lo hi) : d ∈ ds := by
  unfold cutD at h
  exact List.mem_of_mem_drop (List.mem_of_mem_take h)
/-- a list of things of one form -/
theorem all_map {α : Type} {f : α → D} {ds : List D} (h : ∀ d ∈ ds, ∃ a, d = f a) : ∃ as : List α, ds = as.map f := by
  induction ds with
  | nil => exact ⟨[], rfl⟩
  | cons d ds ih =>
    obtain ⟨a, rfl⟩ := h d (by simp)
    obtain ⟨as, rfl⟩ := ih fun d m => h d (by simp [m])
    exact ⟨a :: as, rfl⟩
end GS
namespace GM
open PySem L2 GS
end GM
namespace GM
open PySem L2 GS
abbrev GRT : Str := Str.ofString "ABCDEFGHIJKLMNOPQRSTUVWXYZ"
abbrev SML : Str := Str.ofString "abcdefghijklmnopqrstuvwxyz"
abbrev FIG : Str := Str.ofString "0123456789"
def okN (F : Str) (c : Nat) : Bool := decide (c ∈ F.cps) || decide (c ∈ FIG.cps)
def nameL (F : Str) : List Nat → Bool
  | [] => false
  | c :: cs => decide ((c :: cs).length ≤ 24) && decide (c ∈ F.cps) && (c :: cs).all (okN F)
def nameB (s : Str) : Bool := nameL GRT s.cps.toList
def keyB (s : Str) : Bool := nameL SML s.cps.toList
def signB (s : Str) : Bool := decide (1 ≤ s.cps.toList.length) && decide (s.cps.toList.length ≤ 6) && s.cps.toList.all fun c => decide (c ∈ SML.cps)
theorem nameB_len {s : Str} (h : nameB s = true) : 1 ≤ s.length ∧ s.length ≤ 24 := by
  have hl := len_eq s
  unfold nameB at h
  cases hc : s.cps.toList with
  | nil => rw [hc] at h; cases h
  | cons c cs =>
    rw [hc] at h hl
    unfold nameL at h
    simp only [Bool.and_eq_true, decide_eq_true_eq] at h
    rw [hl]
    exact ⟨by simp, h.1.1⟩
end GM
namespace GM
open PySem L2 GS
end GM
namespace GM
open PySem L2 GS
end GM
namespace GM
open PySem L2 GS
inductive Tr where
  | sign (s : Str)
  | void
  | hole (n : Str)
  | foot (n : Str)
  | knot (n : Str) (tk : Option (Str × Bool)) (ks : List Tr)
  deriving Inhabited
def encTk : Option (Str × Bool) → D
  | none => .none
  | some (m, b) => .tuple [.str m, .bool b]
def okTk : Option (Str × Bool) → Bool
  | none => true
  | some (m, _) => nameB m
mutual
def Tr.enc : Tr → D
  | .sign s => .tuple [.str (Str.ofString "sign"), .str s]
  | .void => .tuple [.str (Str.ofString "void")]
  | .hole n => .tuple [.str (Str.ofString "hole"), .str n]
  | .foot n => .tuple [.str (Str.ofString "foot"), .str n]
  | .knot n tk ks => .tuple [.str (Str.ofString "knot"), .str n, encTk tk, .tuple (Tr.encL ks)]
def Tr.encL : List Tr → List D
  | [] => []
  | t :: ts => t.enc :: Tr.encL ts
end
mutual
def Tr.ok : Tr → Bool
  | .sign s => signB s
  | .void => true
  | .hole n => nameB n
  | .foot n => nameB n
  | .knot n tk ks => nameB n && (okTk tk && (decide (1 ≤ ks.length) && (decide (ks.length ≤ 8) && Tr.okL ks)))
def Tr.okL : List Tr → Bool
  | [] => true
  | t :: ts => t.ok && Tr.okL ts
end
mutual
def Tr.ht : Tr → Nat
  | .knot _ _ ks => Tr.htL ks + 1
  | _ => 0
def Tr.htL : List Tr → Nat
  | [] => 0
  | t :: ts => max t.ht (Tr.htL ts)
end
theorem encL_map (ts : List Tr) : Tr.encL ts = ts.map Tr.enc := by
  induction ts with
  | nil => rfl
  | cons t ts ih => rw [Tr.encL, ih, List.map_cons]
theorem okL_mem {ts : List Tr} (h : Tr.okL ts = true) : ∀ t ∈ ts, t.ok = true := by
  induction ts with
  | nil => intro t m; cases m
  | cons e ts ih =>
    rw [Tr.okL, Bool.and_eq_true] at h
    intro t m
    cases m with
    | head => exact h.1
    | tail _ m => exact ih h.2 t m
theorem okL_of {ts : List Tr} (h : ∀ t ∈ ts, t.ok = true) : Tr.okL ts = true := by
  induction ts with
  | nil => rfl
  | cons e ts ih => rw [Tr.okL, h e (by simp), ih fun t m => h t (by simp [m])]; rfl
theorem ht_mem {ts : List Tr} {t : Tr} (m : t ∈ ts) : t.ht ≤ Tr.htL ts := by
  induction ts with
  | nil => cases m
  | cons e ts ih =>
    rw [Tr.htL]
    cases m with
    | head => omega
    | tail _ m => have := ih m; omega
mutual
/-- no dicts, texts of code points -/
def cleanB : D → Bool
  | .str x => PyData.strOk x
  | .list ds => cleanL ds
  | .tuple ds => cleanL ds
  | .dict _ => false
  | _ => true
def cleanL : List D → Bool
  | [] => true
  | d :: ds => cleanB d && cleanL ds
end
mutual
theorem clean_ok : ∀ d : D, cleanB d = true → plain d = true ∧ PyData.canLay0 d = true
  | .none, _ => ⟨rfl, rfl⟩
  | .bool _, _ => ⟨rfl, rfl⟩
  | .int _, _ => ⟨rfl, rfl⟩
  | .str x, h => ⟨rfl, h⟩
  | .list ds, h => by
    rw [cleanB] at h
    obtain ⟨h1, h2⟩ := cleanL_ok ds h
    exact ⟨by rw [GS.plain]; exact h1, by rw [PyData.canLay0]; exact h2⟩
  | .tuple ds, h => by
    rw [cleanB] at h
    obtain ⟨h1, h2⟩ := cleanL_ok ds h
    exact ⟨by rw [GS.plain]; exact h1, by rw [PyData.canLay0]; exact h2⟩
  | .dict _, h => by cases h
theorem cleanL_ok : ∀ ds : List D, cleanL ds = true → plainL ds = true ∧ PyData.canLayAll0 ds = true
  | [], _ => ⟨rfl, rfl⟩
  | d :: ds, h => by
    rw [cleanL, Bool.and_eq_true] at h
    obtain ⟨h1, h2⟩ := clean_ok d h.1
    obtain ⟨h3, h4⟩ := cleanL_ok ds h.2
    exact ⟨by rw [plainL, h1, h3]; rfl, by rw [PyData.canLayAll0, h2, h4]; rfl⟩
end
theorem okEq_of {d : D} (h : cleanB d = true) (hd : d.depth ≤ 64) : okEq d = true := by
  obtain ⟨h1, h2⟩ := clean_ok d h
  unfold okEq SeqAt.shaped
  rw [h1, h2, decide_eq_true hd]; rfl
theorem okW_of {d : D} (h : cleanB d = true) (hd : d.depth ≤ 190) : okW d = true := by
  obtain ⟨h1, h2⟩ := clean_ok d h
  unfold okW
  rw [h1, h2, Nat.ble_eq_true_of_le hd]; rfl
theorem cleanL_of {ds : List D} (h : ∀ d ∈ ds, cleanB d = true) : cleanL ds = true := by
  induction ds with
  | nil => rfl
  | cons e ds ih => rw [cleanL, h e (by simp), ih fun t m => h t (by simp [m])]; rfl
theorem depthAll_of {ds : List D} {n : Nat} (h : ∀ d ∈ ds, d.depth ≤ n) : PyData.depthAll ds ≤ n := by
  induction ds with
  | nil => rw [PyData.depthAll]; omega
  | cons e ds ih =>
    rw [PyData.depthAll]
    have := h e (by simp)
    have := ih fun t m => h t (by simp [m])
    omega
theorem strOk_of {s : Str} (h : ∀ c ∈ s.cps.toList, c < 0x110000) : PyData.strOk s = true := by
  unfold PyData.strOk
  rw [← Array.all_toList, List.all_eq_true]
  intro c m
  exact decide_eq_true (h c m)
theorem nameL_mem {F s : Str} (h : nameL F s.cps.toList = true) : ∀ c ∈ s.cps.toList, c ∈ F.cps.toList ∨ c ∈ FIG.cps.toList := by
  intro c m
  cases hc : s.cps.toList with
  | nil => rw [hc] at m; cases m
  | cons a as =>
    rw [hc] at h m
    simp only [nameL, Bool.and_eq_true] at h
    have := List.all_eq_true.mp h.2 c m
    simpa [okN] using this
end GM
namespace GM
open PySem L2 GS
end GM
namespace GS
open PySem L2
/-- one of a list -/
def pick {α : Type} [Inhabited α] (xs : List α) (i : Int) : α := (atI xs i).getD default
theorem atI_pick {α : Type} [Inhabited α] {xs : List α} {i : Int} (h0 : 0 ≤ i) (h1 : i < xs.length) : atI xs i = some (pick xs i) ∧ pick xs i ∈ xs := by
  obtain ⟨x, h2, h3⟩ := atI_lt h0 h1
  unfold pick
  rw [h2]
  exact ⟨rfl, h3⟩
@[simp] theorem atI_mod {α : Type} [Inhabited α] {xs : List α} {c n : Int} (h0 : 0 < n) (h : n = xs.length) : atI xs (c % n) = some (pick xs (c % n)) :=
  (atI_pick (Int.emod_nonneg _ (by omega)) (by rw [← h]; exact Int.emod_lt_of_pos _ h0)).1
theorem pick_mem {α : Type} [Inhabited α] {xs : List α} {c n : Int} (h0 : 0 < n) (h : n = xs.length) : pick xs (c % n) ∈ xs :=
  (atI_pick (Int.emod_nonneg _ (by omega)) (by rw [← h]; exact Int.emod_lt_of_pos _ h0)).2
@[simp] theorem atI_1 {α : Type} (a b : α) (r : List α) : atI (a :: b :: r) 1 = some b := by
  have := atI_nat (xs := a :: b :: r) (j := 1) (v := b) rfl
  exact this
@[simp] theorem atI_2 {α : Type} (a b c : α) (r : List α) : atI (a :: b :: c :: r) 2 = some c := by
  have := atI_nat (xs := a :: b :: c :: r) (j := 2) (v := c) rfl
  exact this
@[simp] theorem atI_3 {α : Type} (a b c d : α) (r : List α) : atI (a :: b :: c :: d :: r) 3 = some d := by
  have := atI_nat (xs := a :: b :: c :: d :: r) (j := 3) (v := d) rfl
  exact this
instance : Inhabited D := ⟨.none⟩
@[simp] theorem strOk_ofS (a : String) : PyData.strOk (Str.ofString a) = true := by
  unfold PyData.strOk
  rw [← Array.all_toList, ofS_cps, List.all_eq_true]
  intro c m
  obtain ⟨ch, _, rfl⟩ := List.mem_map.mp m
  have := ch.valid
  refine decide_eq_true ?_
  unfold Char.toNat
  rcases this with h | h
  · have : ch.val.toNat < 0xd800 := h
    omega
  · exact h.2
end GS
namespace GM
open PySem L2 GS
/-- the state that cells are drawn from -/
def stD (ns : List Int) (a : Int) : Option Int → D
  | none => .dict [(.str (Str.ofString "script"), .list (ns.map .int)), (.str (Str.ofString "at"), .int a)]
  | some k => .dict [(.str (Str.ofString "script"), .list (ns.map .int)), (.str (Str.ofString "at"), .int a), (.str (Str.ofString "keys"), .int k)]
end GM
namespace GS
open PySem L2
theorem cutD_to (ds : List D) (i : Nat) : cutD ds none (some (i : Int)) = ds.take i := by
  unfold cutD
  rw [HT.sIx_none, HT.sIx_nat]
  simp only [List.drop_zero, Nat.sub_zero]
  by_cases h : i ≤ ds.length
  · rw [Nat.min_eq_left h]
  · rw [Nat.min_eq_right (by omega), List.take_of_length_le (Nat.le_refl _), List.take_of_length_le (by omega)]
theorem cutD_from (ds : List D) (i : Nat) : cutD ds (some (i : Int)) none = ds.drop i := by
  unfold cutD
  rw [HT.sIx_none, HT.sIx_nat]
  by_cases h : i ≤ ds.length
  · rw [Nat.min_eq_left h, List.take_of_length_le (by rw [List.length_drop]; omega)]
  · rw [Nat.min_eq_right (by omega), List.drop_of_length_le (Nat.le_refl _), List.drop_of_length_le (by omega), List.take_nil]
end GS
namespace PySem
open Sem (wp)
open AutoSeq1 (wpAny_loadPart')
theorem meets_enumerate_newT (l : Addr) (items : Array Value) (n : Nat) (dct : Option Addr) (sl : Array (Option Value)) :
    Meets (Builtin.«enumerate.__new__» ⟨[.type "enumerate", .ref l], []⟩) (fun _ R s => s.heap.get? l = some { cls := .type "tuple", dict := dct, data := .seq items n, slots := sl } ∧
      R (.ok (.ret (.ref (s.heap.push { cls := .type "tuple_iterator", data := .fields #[.ref l, .int 0 0] }).objs.size)))
        { s with heap := (s.heap.push { cls := .type "tuple_iterator", data := .fields #[.ref l, .int 0 0] }).push { cls := .type "enumerate", data := .fields #[.none, .bool false, .ref s.heap.objs.size, rawInt 0, .none, .none] } }) :=
  .of_wp fun prog w A R s h => by
    obtain ⟨hp, g, d, tk, os⟩ := s; obtain ⟨hl, h⟩ := h
    have hsub := sub_enumerate
    have hL : Heap.IsTuple (Shared.heap ⟨hp, g, d, tk, os⟩) l items := ⟨_, hl, rfl, n, rfl⟩
    wp_walk using wpAny_loadPart' hl
    refine wpAny_stack_any fun st => wpAny_pure ?_
    split
    · rename_i c _ _ _ _ _
      cases (c == Value.type "enumerate")
      · wp_walk using wpAny_loadPart' hl, wpAny_pyIter_tuple hL
        exact ⟨_, rfl, h⟩
      · wp_walk using wpAny_loadPart' hl, wpAny_pyIter_tuple hL
        exact ⟨_, rfl, h⟩
    · wp_walk using wpAny_loadPart' hl, wpAny_pyIter_tuple hL
      exact ⟨_, rfl, h⟩
section
variable {prog : Program} {w : World} {A : Around} {E : Value → Shared → Prop} {s : Shared}
theorem call_enumerate_tuple {l : Addr} {items : Array Value} {Q : Value → Shared → Prop} (hL : s.heap.IsTuple l items)
    (h : ∀ h', IsEnum h' (s.heap.objs.size + 1) s.heap.objs.size 0 .none → h'.IsTupleIter s.heap.objs.size l 0 → h'.objs.size = s.heap.objs.size + 2 →
      (∀ b o, s.heap.get? b = some o → h'.get? b = some o) → Q (.ref (s.heap.objs.size + 1)) { s with heap := h' }) :
    wpAny (model prog w) A (call (.type "enumerate") [.ref l]) Q E s := by
  obtain ⟨⟨c, dct, dt, sl⟩, hl, hc, n, hd⟩ := hL
  replace hc : c = .type "tuple" := hc
  replace hd : dt = .seq items n := hd
  subst hc hd
  refine callType_new F.called_enumerate (by decide) (F.typeCall_enumerate_1 _) (F.newCall_enumerate_1 _) (fun obj => F.args_object_init_2 obj _) F.entry_enumerate_new
    (meets_enumerate_newT l items n dct sl) ⟨hl, ?_⟩
  have hz : (s.heap.push { cls := .type "tuple_iterator", data := .fields #[.ref l, .int 0 0] }).objs.size = s.heap.objs.size + 1 := Heap.size_push ..
  show _ ∧ _
  rw [hz]
  have he : IsEnum ((s.heap.push { cls := .type "tuple_iterator", data := .fields #[.ref l, .int 0 0] }).push
      { cls := .type "enumerate", data := .fields #[.none, .bool false, .ref s.heap.objs.size, rawInt 0, .none, .none] }) (s.heap.objs.size + 1) s.heap.objs.size 0 .none := by
    have := Heap.get?_push_size (s.heap.push { cls := .type "tuple_iterator", data := .fields #[.ref l, .int 0 0] })
      (o := { cls := .type "enumerate", data := .fields #[.none, .bool false, .ref s.heap.objs.size, rawInt 0, .none, .none] }) rfl
    rw [hz] at this; exact this
  refine ⟨⟨_, he, rfl⟩, h _ he ⟨_, Heap.get?_push_of_some _ (Heap.get?_push_size _ rfl), rfl, rfl⟩ (by rw [Heap.size_push, hz]) fun b o x => Heap.get?_push_of_some _ (Heap.get?_push_of_some _ x)⟩
theorem wpAny_pyNext_enumT_end {e it l : Addr} {i : Nat} {items : Array Value} {old : Value} {Q : Option Value → Shared → Prop} (hh : A.handled = none)
    (he : IsEnum s.heap e it i old) (hit : s.heap.IsTupleIter it l i) (hl : s.heap.IsTuple l items) (hx : items[i]? = none)
    (hQ : ∀ h', Heap.ExtBut it s.heap h' → Q none { s with heap := h' }) : wpAny (model prog w) A (pyNext (.ref e)) Q E s := by
  have hT : s.TypeIs (.ref e) "enumerate" := ⟨_, he, rfl⟩
  unfold pyNext
  refine wpAny_bind (wpAny_attempt (wpAny_callSpecial?_slot (name := Str.ofString "__next__") hT F.slot_enumerate_next
    (wpAny_call_entry F.slot_enumerate_next hT F.entry_enumerate_next ?_ (F.args_enumerate_next_1 _))))
  show wpAny _ _ (field (.ref e) 2 >>= _) _ _ _
  refine wpAny_bind (wpAny_field he rfl (x := .ref it) rfl ?_)
  refine wpAny_bind (wpAny_nextOf_tuple_end hh hit hl hx fun h' x he' hx' => ?_)
  obtain ⟨o, ho, hc⟩ := hx'
  refine wpAny_bind (wpAny_isInstance (T := "StopIteration") (b := true) ⟨o, ho, hc⟩ isSubtype_stop ?_)
  exact wpAny_pure (hQ _ he')
end
end PySem
namespace L2
open PySem PySem.Spec PyProof.Rows
def Iet (K : PySem.W.Frag) (a : Addr) : It :=
  ⟨fun i H => ∃ (xs : List V) (x : V), SqT K H a xs ∧ xs[i]? = some x, fun i H v H' => ∃ T o x, v = .ref T ∧ H T = none ∧ o.dict = none ∧ H' = upd H T (.frz o (.tup [.int (i : Nat), x])) ∧ ∀ xs, SqT K H a xs → xs[i]? = some x, fun i H => ∃ xs : List V, SqT K H a xs ∧ xs.length ≤ i⟩
theorem turn_enumT {P : Program} {w : World} {K : PySem.W.Frag} {elts : List Expr} {kk : Nat} {tpos : Pos} (a e it : Addr) :
    Turn P w K (.Tuple elts kk tpos) (Iet K a) [e, it] e (fun i h => (∃ old, IsEnum h e it ((i : Nat) : Int) old) ∧ h.IsTupleIter it a i ∧ e ≠ it) where
  mem := by simp
  obj := fun i h st b hb => by
    obtain ⟨⟨old, he⟩, ⟨o, ho, hc, hd⟩, _⟩ := st
    have e' : b = e ∨ b = it := by simpa using hb
    rcases e' with z | z
    · rw [z]; exact ⟨_, he, fun v q => nomatch q⟩
    · rw [z]; exact ⟨o, ho, fun v q => by rw [hd] at q; cases q⟩
  keep := fun i h h' st k => let ⟨⟨old, he⟩, hi, hne⟩ := st; ⟨⟨old, k e (by simp) _ he⟩, hi.at fun o q => k it (by simp) o q, hne⟩
  item := by
    intro X hP hw hK hc i pins s σ H E I hf st hg
    subst hP hw hK
    obtain ⟨⟨old, he⟩, hit, hne⟩ := st
    obtain ⟨xs, x, hq, hx⟩ := hg
    obtain ⟨its, rv, p, hz⟩ := I.tuple hq
    obtain ⟨u, hu, ru⟩ := rv.get hx
    have hel : e < s.heap.objs.size := Heap.lt_size he
    have hil : it < s.heap.objs.size := by obtain ⟨_, q, _⟩ := hit; exact Heap.lt_size q
    have pt : s.heap.IsTuple a its.toArray := p
    have hea : e ≠ a := fun z => by
      obtain ⟨o, ho, hc', _⟩ := pt
      rw [← z] at ho
      have he' : s.heap.get? e = _ := he
      rw [he'] at ho
      cases ho
      simp at hc'
    have hai : a ≠ it := fun z => by
      obtain ⟨o, ho, hc', _⟩ := pt
      obtain ⟨o2, ho2, hc2, _⟩ := hit
      rw [z, ho2] at ho
      cases ho
      rw [hc2] at hc'
      simp at hc'
    have hlen : i < its.toArray.size := by
      have := (List.getElem?_eq_some_iff.mp hu).1
      simpa using this
    refine wpAny_pyNext_enum_itemD (Draws.tuple (show X.A.in1.handled = none from I.ok.hd hc) it a hai its.toArray) he ⟨hit, pt⟩ hlen hne (by simp; exact ⟨hne, hea⟩) fun u' h' tk hu' ho hst hT hsz hk => ?_
    have eu : u' = u := by
      have h1 : its.toArray[i]? = some u' := hu'
      have h2 : its[i]? = some u' := by simpa using h1
      rw [hu] at h2
      cases h2; rfl
    subst eu
    obtain ⟨hit', _⟩ := hst
    refine ⟨_, rfl, wpAny_letOwnedTupleGo_enum (s := { s with heap := h', toks := tk + 1 }) ho fun h'' he' sb => ?_⟩
    have hT2 : h''.get? s.heap.objs.size = some { cls := .type "tuple", data := .seq #[.int i tk, u'] } := (sb.2 _ (Nat.ne_of_gt hel)).trans hT
    have new : ObjOk X.prog X.w (upd H s.heap.objs.size (.frz { cls := .type "tuple", data := .seq #[.int i tk, u'] } (.tup [.int (i : Nat), x]))) h'' s.heap.objs.size (.frz { cls := .type "tuple", data := .seq #[.int i tk, u'] } (.tup [.int (i : Nat), x])) :=
      ⟨hT2, by show 2 ≤ sizeLine; decide, [.int i tk, u'], .cons ⟨_, rfl⟩ (.cons ru .nil), ⟨_, hT2, rfl, _, rfl⟩⟩
    have I1 : Inv X pins σ (upd H s.heap.objs.size (.frz { cls := .type "tuple", data := .seq #[.int i tk, u'] } (.tup [.int (i : Nat), x]))) { s with heap := h'', toks := tk + 1 } :=
      I.turnedNew (ch := [e, it]) (fun b ob nb q => (sb.2 b (fun z => nb (by simp [z]))).trans (hk b ob (fun z => nb (by simp [z])) (fun z => nb (by simp [z])) q)) hf (Nat.le_refl _) new
    refine ⟨.ref s.heap.objs.size, _, I1, rfl, ⟨_, _, x, rfl, I.hok.fresh (Nat.le_refl _), rfl, rfl, fun ys hy => by rw [I.tuple_inj hy hq]; exact hx⟩, ⟨⟨u', ?_⟩, hit'.at fun o q => (sb.2 it (Ne.symm hne)).trans q, hne⟩, fun b hb => ?_⟩
    · have e1 : ((i + 1 : Nat) : Int) = (i : Int) + 1 := by omega
      rw [e1]; exact he'
    · have hb' : b < s.heap.objs.size := by
        have e' : b = e ∨ b = it := by simpa using hb
        rcases e' with z | z
        · rw [z]; exact hel
        · rw [z]; exact hil
      rw [upd_ne (Nat.ne_of_lt hb')]
      exact (hf b hb).1
  done := by
    intro X hP hw hK hc i pins s σ H E I hf st hg
    subst hP hw hK
    obtain ⟨⟨old, he⟩, hit, hne⟩ := st
    obtain ⟨xs, hq, hx⟩ := hg
    obtain ⟨its, rv, p, hz⟩ := I.tuple hq
    obtain ⟨f0, f1, f2, f3, f4, f5⟩ := hf it (by simp)
    have hl := rv.length
    exact wpAny_pyNext_enumT_end (I.ok.hd hc) he hit (show s.heap.IsTuple a its.toArray from p) (by simp; omega) fun h' eb => ⟨rfl, I.turned (t' := s.toks) (fun b o hb q => eb b o hb q) f0 f1 f3 f4 f5⟩
  self := fun A i s Q E st h => let ⟨⟨_, he⟩, _⟩ := st; wpAny_pyIter_enum he h
def IetL (K : PySem.W.Frag) (a : Addr) : It :=
  ⟨fun i H => ∃ (xs : List V) (x : V), SqL K H a xs ∧ xs[i]? = some x, fun i H v H' => ∃ T o x, v = .ref T ∧ H T = none ∧ o.dict = none ∧ H' = upd H T (.frz o (.tup [.int (i : Nat), x])) ∧ ∀ xs, SqL K H a xs → xs[i]? = some x, fun i H => ∃ xs : List V, SqL K H a xs ∧ xs.length ≤ i⟩
theorem turn_enumL {P : Program} {w : World} {K : PySem.W.Frag} {elts : List Expr} {kk : Nat} {tpos : Pos} (a e it : Addr) :
    Turn P w K (.Tuple elts kk tpos) (IetL K a) [e, it] e (fun i h => (∃ old, IsEnum h e it ((i : Nat) : Int) old) ∧ h.IsListIter it a i ∧ e ≠ it) where
  mem := by simp
  obj := fun i h st b hb => by
    obtain ⟨⟨old, he⟩, ⟨o, ho, hc, hd⟩, _⟩ := st
    have e' : b = e ∨ b = it := by simpa using hb
    rcases e' with z | z
    · rw [z]; exact ⟨_, he, fun v q => nomatch q⟩
    · rw [z]; exact ⟨o, ho, fun v q => by rw [hd] at q; cases q⟩
  keep := fun i h h' st k => let ⟨⟨old, he⟩, hi, hne⟩ := st; ⟨⟨old, k e (by simp) _ he⟩, hi.at fun o q => k it (by simp) o q, hne⟩
  item := by
    intro X hP hw hK hc i pins s σ H E I hf st hg
    subst hP hw hK
    obtain ⟨⟨old, he⟩, hit, hne⟩ := st
    obtain ⟨xs, x, hq, hx⟩ := hg
    obtain ⟨its, rv, p, hz⟩ := I.list hq
    obtain ⟨u, hu, ru⟩ := rv.get hx
    have hel : e < s.heap.objs.size := Heap.lt_size he
    have hil : it < s.heap.objs.size := by obtain ⟨_, q, _⟩ := hit; exact Heap.lt_size q
    have pt : s.heap.IsList a its.toArray := p.isList
    have hea : e ≠ a := fun z => by
      obtain ⟨o, ho, hc', _⟩ := pt
      rw [← z] at ho
      have he' : s.heap.get? e = _ := he
      rw [he'] at ho
      cases ho
      simp at hc'
    have hai : a ≠ it := fun z => by
      obtain ⟨o, ho, hc', _⟩ := pt
      obtain ⟨o2, ho2, hc2, _⟩ := hit
      rw [z, ho2] at ho
      cases ho
      rw [hc2] at hc'
      simp at hc'
    have hlen : i < its.toArray.size := by
      have := (List.getElem?_eq_some_iff.mp hu).1
      simpa using this
    refine wpAny_pyNext_enum_itemD (Draws.list (show X.A.in1.handled = none from I.ok.hd hc) it a hai its.toArray) he ⟨hit, pt⟩ hlen hne (by simp; exact ⟨hne, hea⟩) fun u' h' tk hu' ho hst hT hsz hk => ?_
    have eu : u' = u := by
      have h1 : its.toArray[i]? = some u' := hu'
      have h2 : its[i]? = some u' := by simpa using h1
      rw [hu] at h2
      cases h2; rfl
    subst eu
    obtain ⟨hit', _⟩ := hst
    refine ⟨_, rfl, wpAny_letOwnedTupleGo_enum (s := { s with heap := h', toks := tk + 1 }) ho fun h'' he' sb => ?_⟩
    have hT2 : h''.get? s.heap.objs.size = some { cls := .type "tuple", data := .seq #[.int i tk, u'] } := (sb.2 _ (Nat.ne_of_gt hel)).trans hT
    have new : ObjOk X.prog X.w (upd H s.heap.objs.size (.frz { cls := .type "tuple", data := .seq #[.int i tk, u'] } (.tup [.int (i : Nat), x]))) h'' s.heap.objs.size (.frz { cls := .type "tuple", data := .seq #[.int i tk, u'] } (.tup [.int (i : Nat), x])) :=
      ⟨hT2, by show 2 ≤ sizeLine; decide, [.int i tk, u'], .cons ⟨_, rfl⟩ (.cons ru .nil), ⟨_, hT2, rfl, _, rfl⟩⟩
    have I1 : Inv X pins σ (upd H s.heap.objs.size (.frz { cls := .type "tuple", data := .seq #[.int i tk, u'] } (.tup [.int (i : Nat), x]))) { s with heap := h'', toks := tk + 1 } :=
      I.turnedNew (ch := [e, it]) (fun b ob nb q => (sb.2 b (fun z => nb (by simp [z]))).trans (hk b ob (fun z => nb (by simp [z])) (fun z => nb (by simp [z])) q)) hf (Nat.le_refl _) new
    refine ⟨.ref s.heap.objs.size, _, I1, rfl, ⟨_, _, x, rfl, I.hok.fresh (Nat.le_refl _), rfl, rfl, fun ys hy => by rw [I.list_inj hy hq]; exact hx⟩, ⟨⟨u', ?_⟩, hit'.at fun o q => (sb.2 it (Ne.symm hne)).trans q, hne⟩, fun b hb => ?_⟩
    · have e1 : ((i + 1 : Nat) : Int) = (i : Int) + 1 := by omega
      rw [e1]; exact he'
    · have hb' : b < s.heap.objs.size := by
        have e' : b = e ∨ b = it := by simpa using hb
        rcases e' with z | z
        · rw [z]; exact hel
        · rw [z]; exact hil
      rw [upd_ne (Nat.ne_of_lt hb')]
      exact (hf b hb).1
  done := by
    intro X hP hw hK hc i pins s σ H E I hf st hg
    subst hP hw hK
    obtain ⟨⟨old, he⟩, hit, hne⟩ := st
    obtain ⟨xs, hq, hx⟩ := hg
    obtain ⟨its, rv, p, hz⟩ := I.list hq
    obtain ⟨f0, f1, f2, f3, f4, f5⟩ := hf it (by simp)
    have hl := rv.length
    exact wpAny_pyNext_enum_end (I.ok.hd hc) he hit p.isList (by simp; omega) fun h' eb => ⟨rfl, I.turned (t' := s.toks) (fun b o hb q => eb b o hb q) f0 f1 f3 f4 f5⟩
  self := fun A i s Q E st h => let ⟨⟨_, he⟩, _⟩ := st; wpAny_pyIter_enum he h
/-- enumerate of a list or a tuple -/
def iEnumA (K : PySem.W.Frag) (ta : TA) : TI := fun σ H R => ta σ H fun vs H1 => (∃ a, vs = [.ref a] ∧ (∃ xs, SqL K H1 a xs) ∧ R (IetL K a) H1) ∨ (∃ a, vs = [.ref a] ∧ (∃ xs, SqT K H1 a xs) ∧ R (Iet K a) H1)
theorem pi_enumA {X : Cx} {e : Expr} {ta : TA} {p pos tpos : Pos} {elts : List Expr} {kk : Nat} (hg : Gl X "enumerate") (hm : X.mg "enumerate" = none) (ha : PA X [e] ta) (hs : starEach [e] X.env = [(false, eval e X.env)] := by rfl) :
    PI X (.Tuple elts kk tpos) (.Call (.Name "enumerate" p) [e] [] pos) (iEnumA X.K ta) := by
  refine ⟨fun pins s σ H R I h => ?_⟩
  refine Call_ (ld_blt I hg hm boot_enumerate (PyProof.Rows.callWith_type1 (thn (ha.run pos pins s σ H _ I h) fun us s1 ⟨vs, H1, I1, r1, q1⟩ => ?_) hs rfl))
  rcases q1 with ⟨a, ex, ⟨xs, hq⟩, q⟩ | ⟨a, ex, ⟨xs, hq⟩, q⟩
  all_goals
    subst ex
    cases r1 with
    | cons r rr =>
      cases rr
      cases r
      first
        | (obtain ⟨its, rv, p', hz⟩ := I1.list hq
           refine call_enumerate_list p'.isList fun h' he hit hsz hk => wpAny_pyIter_enum he ?_
           have I2 : Inv X pins σ H1 { s1 with heap := h' } := I1.kept (t' := s1.toks) hk
           refine ⟨s1.heap.objs.size + 1, [s1.heap.objs.size + 1, s1.heap.objs.size], _, _, H1, rfl, I2, turn_enumL a (s1.heap.objs.size + 1) s1.heap.objs.size, ⟨⟨.none, he⟩, hit, Nat.succ_ne_self _⟩, fun b hb => ?_, q⟩)
        | (obtain ⟨its, rv, p', hz⟩ := I1.tuple hq
           refine call_enumerate_tuple (show s1.heap.IsTuple a its.toArray from p') fun h' he hit hsz hk => wpAny_pyIter_enum he ?_
           have I2 : Inv X pins σ H1 { s1 with heap := h' } := I1.kept (t' := s1.toks) hk
           refine ⟨s1.heap.objs.size + 1, [s1.heap.objs.size + 1, s1.heap.objs.size], _, _, H1, rfl, I2, turn_enumT a (s1.heap.objs.size + 1) s1.heap.objs.size, ⟨⟨.none, he⟩, hit, Nat.succ_ne_self _⟩, fun b hb => ?_, q⟩)
      have e' : b = s1.heap.objs.size + 1 ∨ b = s1.heap.objs.size := by simpa using hb
      have hle : s1.heap.objs.size ≤ b := by
        rcases e' with z | z
        · rw [z]; exact Nat.le_add_right _ _
        · rw [z]; exact Nat.le_refl _
      exact I1.fpOk hle (I1.hok.fresh hle)
/-- pairs in new tuples -/
def YPairX (f g : Nat → Option V) : Nat → Hp → V → Hp → Prop := fun i H v H' => ∃ T o x y, v = .ref T ∧ H T = none ∧ o.dict = none ∧ H' = upd H T (.frz o (.tup [x, y])) ∧ f i = some x ∧ g i = some y
theorem walk_enumT {K : PySem.W.Frag} {a : Addr} {xs : List V} : Walk (Iet K a) xs.length (fun H => SqT K H a xs) (YPairX (fun i => some (.int (i : Nat))) (fun i => xs[i]?)) := by
  refine ⟨fun i _ hi q => ⟨xs, xs[i], q, by simp [hi]⟩, fun _ q => ⟨xs, q, Nat.le_refl _⟩, fun i H v H' _ q y => ?_⟩
  obtain ⟨T, o, x, h1, h2, h0, h3, h4⟩ := y
  exact ⟨T, o, .int (i : Nat), x, h1, h2, h0, h3, rfl, h4 xs q⟩
theorem walk_enumL {K : PySem.W.Frag} {a : Addr} {xs : List V} : Walk (IetL K a) xs.length (fun H => SqL K H a xs) (YPairX (fun i => some (.int (i : Nat))) (fun i => xs[i]?)) := by
  refine ⟨fun i _ hi q => ⟨xs, xs[i], q, by simp [hi]⟩, fun _ q => ⟨xs, q, Nat.le_refl _⟩, fun i H v H' _ q y => ?_⟩
  obtain ⟨T, o, x, h1, h2, h0, h3, h4⟩ := y
  exact ⟨T, o, .int (i : Nat), x, h1, h2, h0, h3, rfl, h4 xs q⟩
end L2
namespace GS
open PySem L2
/-- numbered -/
def enD (ds : List D) : List D := ds.mapIdx fun i d => .tuple [.int (i : Int), d]
def seqs : D → Option (List D)
  | .list ds => some ds
  | .tuple ds => some ds
  | _ => none
def iEn (fe : EF) : IF := fun ρ => bindEI (eCap fe ρ) fun h ρ1 => match h with
  | .sh d => match seqs d with
    | some ds => .ok (enD ds) ρ1
    | none => .stuck
  | _ => .stuck
section
variable {X : Cx} {C : Ct} {ρ ρ1 : Rho} {σ σ1 : St} {B H B1 H1 : Hp} {e tg : Expr} {te : TE} {fe : EF} {pos p tpos : Pos}
theorem enD_get (ds : List D) (i : Nat) (d : D) (h : ds[i]? = some d) : (enD ds)[i]? = some (.tuple [.int (i : Int), d]) := by
  unfold enD
  rw [List.getElem?_mapIdx, h]
  rfl
theorem it_en {K : KW} {J : It} {xs : List V} {ds : List D} {G : Hp → Prop} (w : Walk J xs.length G (YPairX (fun i => some (.int (i : Nat))) (fun i => xs[i]?))) (hG : ∀ H, SameT B H → G H) (r : RpL K B xs ds) : ItOk K B (enD ds) J := by
  unfold ItOk
  rw [show (enD ds).length = xs.length by unfold enD; rw [List.length_mapIdx, r.length]]
  refine w.mono hG fun i H x H' hi s y => ?_
  obtain ⟨T, o, a, b, h1, h2, h0, h3, h4, h5⟩ := y
  cases h4
  obtain ⟨d, q1, q2⟩ := r.getV h5
  exact ⟨_, enD_get ds i d q1, .inr ⟨T, o, _, _, h1, h2, h0, h3, rfl, .cons (.int _) (.cons q2 .nil)⟩⟩
theorem lk_en (l : LkE C te fe) : LkI C (iEnumA C.K (tCons te tNil)) (iEn fe) := fun ρ σ B H R S g => by
  refine l.cap.bindI S g fun hd ρ1 v B1 H1 S1 x1 y1 g1 => ?_
  cases hd with
  | sh d =>
    cases d with
    | list ds =>
      obtain ⟨a, vs, rfl, ha, ra⟩ := Rp.lstE y1
      exact .inl ⟨a, rfl, ⟨vs, same_lT S1.bh ha⟩, g1 _ B1 H1 S1 x1 (it_en walk_enumL (fun H s => same_lT s ha) ra)⟩
    | tuple ds =>
      obtain ⟨a, vs, rfl, ha, ra⟩ := Rp.tupE y1
      exact .inr ⟨a, rfl, ⟨vs, same_tT S1.bh ha⟩, g1 _ B1 H1 S1 x1 (it_en walk_enumT (fun H s => same_tT s ha) ra)⟩
    | _ => exact g1.elim
  | _ => exact g1.elim
theorem si_en {elts : List Expr} {kk : Nat} (l : SE X C e te fe) (hm : X.mg "enumerate" = none) (hg : Gl X "enumerate" := by rfl) (hk : X.K = C.K := by rfl) (hs : starEach [e] X.env = [(false, eval e X.env)] := by rfl) :
    SI X C (.Tuple elts kk tpos) (.Call (.Name "enumerate" p) [e] [] pos) (iEnumA C.K (tCons te tNil)) (iEn fe) := ⟨by rw [← hk]; exact pi_enumA hg hm (pa_cons l.pe pa_nil hs) hs, lk_en l.lk⟩
end
end GS
namespace GS
open PySem L2
section
variable {K : KW} {X : Cx} {C : Ct} {ρ ρ1 : Rho} {σ σ1 : St} {B H B1 H1 : Hp} {e e2 : Expr} {te ti : TE} {fe fi : EF} {pos : Pos} {st : Stmt}
def extD (zs : List D) : D → Option D
  | .list ds => if ds.length + zs.length ≤ sizeLine then some (.list (ds ++ zs)) else none
  | _ => none
def sExt (i : Nat) (fe : EF) : SF := fun ρ => if isL ρ i then bindES (fe ρ) fun h ρ1 => match h with
  | .fr (.list zs) => mutS ρ1 i (extD zs)
  | _ => .stuck else .stuck
theorem ss_ext {i : Nat} {x : Str} {q1 q2 q3 : Pos} (l : SE X C e te fe) (hN : X.N[i]? = some x := by rfl) (hv : Vis X.env.scope x := by first | exact Or.inl rfl | exact Or.inr (Or.inl rfl) | exact Or.inr (Or.inr rfl)) (hd : (x == ("__debug__" : Str)) = false := by decide)
    (hcd : (x == ("__classdict__" : Str)) = false := by decide) (hk : X.K = C.K := by rfl) (hs : starEach [e] X.env = (false, eval e X.env) :: starEach [] X.env := by rfl)
    (hfew : ((backTo q3 (starEach [e] X.env)).all (fun x => !x.1) && (backToKw q3 (keywordEach [] X.env)).all (fun x => x.1.isSome) && decide ([e].length + ([] : List Keyword).length + (if ([] : List Keyword).isEmpty then 0 else 1) < 30)) = true := by rfl)
    (hline : (q2.endLine == q3.line) = true := by rfl) :
    SS X C (.Expr (.Call (.Attribute (.Name x q1) "extend" q2) [e] [] q3) pos) (tDrop (tBM C.K "list" rExtend (tVar i) (tCons te tNil))) (sExt i fe) := by
  refine ⟨by rw [← hk]; exact ps_expr (pe_bm PySem.F.plainAttrs_list PySem.F.slot_list_extend PySem.F.type_list_extend mt_extend (pe_var hN hv hd hcd) (pa_cons l.pe pa_nil hs) rfl hfew hline hs), fun ρ σ B H E S g => ?_⟩
  unfold sExt at g
  by_cases hl : isL ρ i = true
  case neg => rw [if_neg hl] at g; exact g.elim
  rw [if_pos hl] at g
  obtain ⟨a, vs, ea, sq⟩ := isL_ok S hl
  refine ⟨.ref a, ea, tyL sq, ?_⟩
  refine l.lk.bindS S g fun hd ρ1 v B1 H1 S1 x1 y1 g1 => ?_
  cases hd with
  | fr y =>
    cases y with
    | list zs =>
      obtain ⟨c, d', h1, h2, hst, h3, h4⟩ := mutS_ok g1
      obtain ⟨a', ea', hb, ow⟩ := S1.own h1 h2 hst
      rw [ea] at ea'
      cases ea'
      obtain ⟨b, rfl, bb, owb, nb, _⟩ := y1
      obtain ⟨us, eu, ru⟩ := owb
      obtain ⟨d, fl⟩ := c
      cases d with
      | list ds =>
        obtain ⟨hc, rfl⟩ := if_some (show (if ds.length + zs.length ≤ sizeLine then some (.list (ds ++ zs)) else none) = some d' from h3)
        obtain ⟨ws, ew, rw'⟩ := ow
        have ow' : Ow C.K B1 a (some (.lst (ws ++ us))) (.list (ds ++ zs)) := ⟨_, rfl, rw'.append ru⟩
        obtain ⟨S2, x2⟩ := S1.mut h1 h2 ea ow'
        exact ⟨a, b, ws, us, rfl, rfl, ew, eu, by rw [rw'.length, ru.length]; exact hc, h4 _ _ _ S2 (x1.trans x2)⟩
      | _ => cases h3
    | _ => exact g1.elim
  | _ => exact g1.elim
end
end GS
namespace GS
open PySem L2
section
variable {ρ ρ1 : Rho} {c : Prop} [Decidable c]
def enR (h : Hd) (ρ : Rho) : RI := match h with
  | .sh d => match seqs d with
    | some ds => .ok (enD ds) ρ
    | none => .stuck
  | _ => .stuck
@[simp] theorem enR_l (ds : List D) : enR (.sh (.list ds)) ρ = .ok (enD ds) ρ := rfl
@[simp] theorem enR_t (ds : List D) : enR (.sh (.tuple ds)) ρ = .ok (enD ds) ρ := rfl
@[simp] theorem iEn_eq (f : EF) : iEn f ρ = bindEI (eCap f ρ) enR := by unfold iEn enR; rfl
theorem enD_len (ds : List D) : (enD ds).length = ds.length := by unfold enD; rw [List.length_mapIdx]
theorem enD_mid {ds pre post : List D} {d : D} (h : enD ds = pre ++ d :: post) : ∃ x, ds[pre.length]? = some x ∧ d = .tuple [.int (pre.length : Int), x] := by
  have h2 : (enD ds)[pre.length]? = some d := by rw [h, List.getElem?_append_right (Nat.le_refl _), Nat.sub_self]; rfl
  have h3 : pre.length < ds.length := by rw [← enD_len ds]; exact (List.getElem?_eq_some_iff.mp h2).1
  have h4 : ds[pre.length]? = some ds[pre.length] := List.getElem?_eq_getElem h3
  rw [enD_get ds _ _ h4] at h2
  exact ⟨_, h4, (Option.some.inj h2).symm⟩
def extR (i : Nat) (h : Hd) (ρ : Rho) : RS := match h with
  | .fr (.list zs) => mutS ρ i (extD zs)
  | _ => .stuck
@[simp] theorem extR_l (i : Nat) (zs : List D) : extR i (.fr (.list zs)) ρ = mutS ρ i (extD zs) := rfl
@[simp] theorem sExt_eq (i : Nat) (f : EF) : sExt i f ρ = if isL ρ i then bindES (f ρ) (extR i) else .stuck := by unfold sExt; rfl
@[simp] theorem extD_l (zs ds : List D) : extD zs (.list ds) = if ds.length + zs.length ≤ sizeLine then some (.list (ds ++ zs)) else none := rfl
/-- a loop that appends -/
theorem forL_app {α : Type} {g : D → Rho → Option Rho} {b : SF} (emb : List D → Rho) (it : α → D) (f : α → D) : ∀ (as : List α) (acc : List D), acc.length + as.length ≤ sizeLine →
    (∀ a acc, a ∈ as → acc.length < sizeLine → optR (g (it a) (emb acc)) b = .nx (emb (acc ++ [f a]))) → forL g b (as.map it) (emb acc) = .nx (emb (acc ++ as.map f))
  | [], acc, _, _ => by simp
  | a :: as, acc, hl, k => by
    rw [List.length_cons] at hl
    have h1 := k a acc (List.mem_cons_self ..) (by omega)
    have q := forL_app emb it f as (acc ++ [f a]) (by rw [List.length_append, List.length_singleton]; omega) fun a acc m => k a acc (List.mem_cons_of_mem _ m)
    rw [List.map_cons, forL_cons]
    unfold optR at h1 ⊢
    split at h1
    · cases h1
    · dsimp only
      rw [h1, turnR_nx, q]
      simp
end
end GS
namespace GS
open PySem L2
section
variable {K : KW} {X : Cx} {C : Ct} {a b : Expr} {ta tb : TE} {fa fb : EF} {apos pos : Pos}
def joinOk (a : Str) (ys : List Str) : Bool := Nat.ble ((ys.map (·.length)).sum + ys.length * a.length) 16777216
end
end GS
namespace GS
open PySem L2
section
variable {ρ ρ1 : Rho} {c : Prop} [Decidable c]
end
end GS
namespace GS
open PySem L2 PySem.Spec PyProof.Rows
section
variable {X : Cx} {pins : List (Addr × Obj)} {σ : L2.St} {H : Hp} {s : Shared}
end
section
variable {X : Cx} {x n : Str} {c : Value} {i : Nat} {body suite : List Stmt} {b₀ : Stmt} {np pos pos' : Pos} {R : TS} {ts : TS} {Wout : WX}
end
end GS
namespace GS
open PySem L2
section
variable {K : KW} {ρ ρ1 : Rho} {σ σ1 : St} {B H B1 H1 : Hp}
end
section
variable {X : Cx} {C : Ct} {x n : Str} {c : Value} {i : Nat} {body suite : List Stmt} {b₀ : Stmt} {np pos pos' : Pos} {ts : TS} {fb fh : SF} {ns cs : List Str}
def tTry (C : Ct) (f : SF) : TS := fun D σ H => ∃ ρ B, Sim C.K ρ σ B H ∧ GoodS C ρ σ B H D (f ρ)
end
end GS
namespace GS
open PySem L2
section
variable {X : Cx} {C : Ct} {e : Expr} {te : TE} {fe : EF} {pos : Pos} {ns cs : List Str}
end
end GS
namespace GS
open PySem L2
/-- what the written part says of G, whose __init__ is ValueError's -/
def giB (K : PySem.W.Frag) (G : Addr) : Bool := decide (PySem.W.specialIn K (.ref G) "__getattribute__" = some (some (.builtin "type.__getattribute__"))) && (PySem.W.readsIn K G (.type "type") && match PySem.W.findCls K (.ref G) (.type "type") "__init__" with
  | some (.val v) => decide (v = .builtin "ValueError.__init__")
  | _ => false)
theorem giB_ok {K : PySem.W.Frag} {G : Addr} (h : giB K G = true) : PySem.W.specialIn K (.ref G) "__getattribute__" = some (some (.builtin "type.__getattribute__")) ∧ PySem.W.readsIn K G (.type "type") = true ∧ PySem.W.findCls K (.ref G) (.type "type") "__init__" = some (.val (.builtin "ValueError.__init__")) := by
  unfold giB at h
  rw [Bool.and_eq_true, Bool.and_eq_true, decide_eq_true_eq] at h
  obtain ⟨h1, h2, h3⟩ := h
  refine ⟨h1, h2, ?_⟩
  split at h3
  · rename_i v e
    rw [e, of_decide_eq_true h3]
  · cases h3
section
variable {X : Cx} {e : Expr} {es : List Expr} {ta : TA} {p1 p2 pos : Pos} {x : Str} {G : Addr}
open PySem.Spec PyProof.Rows in
theorem pe_ginit {pl : Sem Bool} (hgi : giB X.K G = true) (hm : X.mg x = some (.ref G)) (ha : PA X (e :: es) ta) (hg : Gl X x := by rfl) (hdb : (x == ("__debug__" : Str)) = false := by decide)
    (hc : eval (.Call (.Attribute (.Name x p1) "__init__" p2) (e :: es) [] pos) X.env = (do
      let ov ← eval (.Name x p1) X.env
      standAt p2.atName
      let (f, first) ← holding [ov] (getMethod ov "__init__" pl)
      callWith pos f first (backTo pos (starEach (e :: es) X.env)) (backToKw pos (keywordEach [] X.env))) := by rfl)
    (he : starEach (e :: es) X.env = (false, eval e X.env) :: starEach es X.env := by rfl) (hpl : (backTo pos (starEach es X.env)).any (·.1) = false := by rfl) :
    PE X (.Call (.Attribute (.Name x p1) "__init__" p2) (e :: es) [] pos) (tVeI X.K ta) := by
  obtain ⟨h1, h2, h3⟩ := giB_ok hgi
  refine ⟨fun pins s σ H Q I h => ?_⟩
  refine PySem.W.methodCall_KW (ld_glob I hg hm ?_ hdb) hc
  refine PySem.W.method_cls I.kIn h1 (PySem.W.cls_value I.kIn h2 h3 (by decide +kernel) ?_)
  show wpAny _ _ (callWith pos (Value.builtin "ValueError.__init__") [] (backTo pos (starEach (e :: es) X.env)) []) _ _ _
  refine PyProof.Rows.callWith_method1 (thn (ha.run pos pins _ σ H _ (I.tok _) h) fun us s1 ⟨vs, H1, I1, r1, a, C, ws, ev, hl, T, ea, q⟩ => ?_) he hpl
  subst ev
  cases r1 with
  | @cons _ u0 _ ur ra rw' =>
    obtain rfl : u0 = Value.ref a := ra
    have hlen : ur.length ≤ sizeLine := by
      rw [← Paired.length rw', sizeLine_eq]
      omega
    exact oinit_ok T I1 ea hlen fun s' J => ⟨.non, H1, J, rfl, q⟩
end
/-- what an own __init__ that sets the fields fns keeps -/
def spI (K : PySem.W.Frag) (fns : List Str) : Sp := fun vs H Q _ => ∃ (a C : Addr) (ys : List V), vs = .ref a :: ys ∧ ys.length = fns.length ∧ H a = some (exo a C none) ∧ OexC K C ∧ (∀ f ∈ fns, PySem.W.findIn K (.ref C) f = some none) ∧
  ∀ (dx : Addr) (H' : Hp), H dx = none → dx ≠ a → H' a = some (exo a C (some dx)) → H' dx = some (exd dx (fns.zip ys).reverse) → (∀ b, b ≠ a → b ≠ dx → H' b = H b) → Q .non H'
section
variable {P : Program} {w : World} {K : PySem.W.Frag} {mg : Str → Option Value} {base : Heap}
theorem fn_init1 {f qual msg : Str} {st : Stmt} {fI : Addr} {fd : FuncData} {k : Nat} (F : Fun K "__init__" qual st fI fd) (S : FnScope ["self", f] ["self", f] (defScope st))
    (hok : ∀ cdv A outer s H E, PSs (cxOf (L2.CX P w) P w K mg base ["self", f] qual (defScope st) fI cdv A outer s H E) (defBody st) (tSeq (tDrop (tVeI K (tCons (tVar 0) (tCons (tC (.str msg)) tNil)))) (tOst K f (tVar 0) (tVar 1)))) :
    FnOk P w K mg base (L2.CX P w) (k + 1) fI fd ["self", f] (spI K [f]) := by
  refine F.okX S (fun vs H Q E h => ?_) (fun cdv A outer s H vs Q E hr h => ⟨_, hok cdv A outer s H E, ?_⟩)
  · obtain ⟨a, C, ys, rfl, hl, _⟩ := h
    rw [List.length_cons, hl]; rfl
  · obtain ⟨a, C, ys, rfl, hl, ea, T, hno, q⟩ := h
    match ys, hl with
    | [y], _ =>
      refine ⟨.ref a, rfl, a, C, [.str msg], rfl, by rw [List.length_singleton]; omega, T, ea, ?_⟩
      refine ⟨y, rfl, .ref a, rfl, a, C, rfl, T, hno f (List.mem_singleton.mpr rfl), .inl ⟨ea, fun dx n ne => q dx _ n ne upd_same ?_ fun b h1 h2 => ?_⟩⟩
      · rw [upd_ne ne, upd_same]; rfl
      · rw [upd_ne h1, upd_ne h2]
end
end GS
namespace GS
open PySem L2
abbrev spFv (K : KW) (n : Nat) (F : FF) : Sp := spF K (cvK K) n F
/-- the __init__ as a row of the table: it says only that there is room for it -/
def iniF (k : Nat) : FF := fun _ => if k < 2 then .stuck else .ok (.sh .none) []
/-- .. and what stands behind the row -/
def IniOk (P : Program) (w : World) (K : PySem.W.Frag) (mg : Str → Option Value) (base : Heap) (k : Nat) (fI : Addr) (fd : FuncData) (fns : List Str) (F : FF) : Prop := F [] = .stuck ∨ ∃ k', k = k' + 1 ∧ FnOk P w K mg base (L2.CX P w) k' fI fd ("self" :: fns) (spI K fns)
/-- what the written part says of a class C with its own __init__ at fI -/
def oeB (K : PySem.W.Frag) (C fI : Addr) (fns : List Str) : Bool := decide (PySem.W.findIn K (.ref C) "__setattr__" = some (some (.builtin "object.__setattr__"))) && (decide (PySem.W.subIn K (.ref C) (.type "BaseException") = some true) && (decide (PySem.W.typeIn K (.ref C) = some (.type "type")) &&
  (PySem.W.keepIn K (.ref C) && (decide (PySem.W.findIn K (.ref C) "__init__" = some (some (.ref fI))) && (decide (PySem.W.typeIn K (.ref fI) = some (.type "function")) && fns.all fun f => decide (PySem.W.findIn K (.ref C) f = some none))))))
theorem oeB_ok {K : PySem.W.Frag} {C fI : Addr} {fns : List Str} (h : oeB K C fI fns = true) : PySem.W.findIn K (.ref C) "__setattr__" = some (some (.builtin "object.__setattr__")) ∧ PySem.W.subIn K (.ref C) (.type "BaseException") = some true ∧ PySem.W.typeIn K (.ref C) = some (.type "type") ∧
    PySem.W.keepIn K (.ref C) = true ∧ PySem.W.findIn K (.ref C) "__init__" = some (some (.ref fI)) ∧ PySem.W.typeIn K (.ref fI) = some (.type "function") ∧ ∀ f ∈ fns, PySem.W.findIn K (.ref C) f = some none := by
  unfold oeB at h
  simp only [Bool.and_eq_true, decide_eq_true_eq] at h
  obtain ⟨h1, h2, h3, h4, h5, h6, h7⟩ := h
  exact ⟨h1, h2, h3, h4, h5, h6, fun f hf => of_decide_eq_true (List.all_eq_true.mp h7 f hf)⟩
def sRaise (F : FF) (c : Str) (fns : List Str) (fa : AF) : SF := fun ρ => match F [] with
  | .stuck => .stuck
  | _ => match fa ρ with
    | .stuck => .stuck
    | .exc x ρ1 => .exc x ρ1
    | .ok hs ρ1 => match shs hs with
      | some ds => if ds.length = fns.length ∧ ds.length ≤ 1000 then .exc ⟨c, (fns.zip ds).reverse⟩ ρ1 else .stuck
      | none => .stuck
theorem zip_fst {α β : Type} : ∀ (l : List α) (m : List β), l.length = m.length → (l.zip m).map (·.1) = l
  | [], [], _ => rfl
  | [], _ :: _, h => by cases h
  | _ :: _, [], h => by cases h
  | a :: l, b :: m, h => by
    rw [List.zip_cons_cons, List.map_cons, zip_fst l m (by simpa using h)]
theorem zip_snd {α β : Type} : ∀ (l : List α) (m : List β), l.length = m.length → (l.zip m).map (·.2) = m
  | [], [], _ => rfl
  | [], _ :: _, h => by cases h
  | _ :: _, [], h => by cases h
  | a :: l, b :: m, h => by
    rw [List.zip_cons_cons, List.map_cons, zip_snd l m (by simpa using h)]
section
variable {X : Cx} {C : Ct} {e : Expr} {es : List Expr} {ta : TA} {fa : AF} {p pos pos' : Pos} {x : Str} {fns : List Str}
def tRse (W : WX) (A : Addr) (K : PySem.W.Frag) (fns : List Str) (ta : TA) : TS := fun _ σ H => tMkO A (spI K fns) [] ta σ H fun cls d H' => W cls d σ H'
theorem lk_raise {F : FF} {A fI : Addr} (T : OexC C.K A) (hob : oeB C.K A fI fns = true) (hcx : C.cv x = .ref A) (hF : F [] ≠ .stuck) (l : LkA C ta fa) : LkS C (tRse C.W A C.K fns ta) (sRaise F x fns fa) := fun ρ σ B H D S g => by
  obtain ⟨_, _, _, _, _, _, hno⟩ := oeB_ok hob
  unfold sRaise at g
  have g : GoodS C ρ σ B H D (match fa ρ with
    | .stuck => .stuck
    | .exc x ρ1 => .exc x ρ1
    | .ok hs ρ1 => match shs hs with
      | some ds => if ds.length = fns.length ∧ ds.length ≤ 1000 then .exc ⟨x, (fns.zip ds).reverse⟩ ρ1 else .stuck
      | none => .stuck) := by
    cases eF : F [] with
    | stuck => exact absurd eF hF
    | ok h r => rw [eF] at g; exact g
    | exc y r => rw [eF] at g; exact g
  refine l ρ σ B H _ S ?_
  cases ea : fa ρ with
  | stuck => rw [ea] at g; exact g
  | exc y ρ1 => rw [ea] at g; exact fun cls d B' H' s z => g cls d σ B' H' s z
  | ok hs ρ1 =>
    rw [ea] at g
    dsimp only at g
    intro vs B1 H1 S1 x1 y1
    split at g
    · rename_i ds eds
      split at g
      · rename_i hl
        have r := shs_ok y1 eds
        have hvl : vs.length = fns.length := by rw [r.length]; exact hl.1
        refine ⟨by rw [r.length]; exact hl.2, fun a na => ⟨a, A, vs, by rw [List.append_nil], hvl, upd_same, T, hno, fun dx H' ndx ne e1 e2 e3 => ⟨rfl, dx, _, e1, e2, ?_, ?_⟩⟩⟩
        · rw [upd_ne ne] at ndx; exact ndx
        · rw [upd_ne ne] at ndx
          have eH : upd (del H' a) dx (.xd (fns.zip vs).reverse) = upd H1 dx (.xd (fns.zip vs).reverse) := by
            funext b
            by_cases hb : b = dx
            · rw [hb, upd_same, upd_same]
            · rw [upd_ne hb, upd_ne hb]
              by_cases hb2 : b = a
              · rw [hb2, del_same, na]
              · rw [del_ne hb2, e3 b hb2 hb, upd_ne hb2]
          rw [eH]
          obtain ⟨S2, x2⟩ := S1.newB ndx (.xd (fns.zip vs).reverse)
          refine g (.ref A) (some dx) σ _ _ S2 (x1.trans x2) ⟨hcx.symm, .inr ⟨dx, _, rfl, upd_same, ?_, ?_⟩⟩
          · show ((fns.zip vs).reverse).map (·.1) = ((fns.zip ds).reverse).map (·.1)
            rw [List.map_reverse, List.map_reverse, zip_fst _ _ hvl.symm, zip_fst _ _ hl.1.symm]
          · show RpL C.K _ (((fns.zip vs).reverse).map (·.2)) (((fns.zip ds).reverse).map (·.2))
            rw [List.map_reverse, List.map_reverse, zip_snd _ _ hvl.symm, zip_snd _ _ hl.1.symm]
            exact (r.mono x2.bb).reverse
      · exact g.elim
    · exact g.elim
theorem ss_sem {st : Stmt} {f : SF} (h : ∃ t, SS X C st t f) : SS X C st (tTry C f) f := by
  obtain ⟨t, ht⟩ := h
  refine ⟨⟨fun pins s σ H D I q => ?_⟩, fun ρ σ B H D S g => ⟨ρ, B, S, g⟩⟩
  obtain ⟨ρ, B, S, g⟩ := q
  exact ht.ps.run pins s σ H D I (ht.lk ρ σ B H D S g)
theorem ss_raise0 {F : FF} {A fI : Addr} {fd : FuncData} {k : Nat} (hi : IniOk X.prog X.w X.K X.mg X.base k fI fd fns F) (T : OexC C.K A) (hob : oeB C.K A fI fns = true) (hcx : C.cv x = .ref A) (hm : X.mg x = some (.ref A)) (hb : Binds X.K fd ("self" :: fns) []) (hr : Room k X.A) (tk : Takes X C.W) (hc : X.calm = true) (l : SA X C (e :: es) ta fa)
    (hk : X.K = C.K := by rfl) (hg : Gl X x := by rfl) (hdb : (x == ("__debug__" : Str)) = false := by decide) (he : starEach (e :: es) X.env = (false, eval e X.env) :: starEach es X.env := by rfl) (hpl : (backTo pos (starEach es X.env)).any (·.1) = false := by rfl) :
    ∃ t, SS X C (.Raise (some (.Call (.Name x p) (e :: es) [] pos)) none pos') t (sRaise F x fns fa) := by
  rcases hi with hi | ⟨k', rfl, FO⟩
  · refine ⟨fun _ _ _ => False, ⟨fun pins s σ H D I h => h.elim⟩, fun ρ σ B H D S g => ?_⟩
    unfold sRaise at g
    rw [hi] at g
    exact g
  · by_cases hF : F [] = .stuck
    · refine ⟨fun _ _ _ => False, ⟨fun pins s σ H D I h => h.elim⟩, fun ρ σ B H D S g => ?_⟩
      unfold sRaise at g
      rw [hF] at g
      exact g
    · obtain ⟨h1, h2, h3, h4, h5, h6, h7⟩ := oeB_ok hob
      refine ⟨_, ps_raise hc tk (pmk_oex (sp := spI C.K fns) (dvs := []) (ds := []) (by rw [hk]; exact T) (by rw [hk]; exact h5) (by rw [hk]; exact h6) (by rw [← hk]; exact FO) hr hb .nil (passes_call tk fun _ _ _ _ z => z.elim) hg hm l.pa hdb he hpl), lk_raise T hob hcx hF l.lk⟩
theorem ss_raise {F : FF} {A fI : Addr} {fd : FuncData} {k : Nat} (hi : IniOk X.prog X.w X.K X.mg X.base k fI fd fns F) (T : OexC C.K A) (hob : oeB C.K A fI fns = true) (hcx : C.cv x = .ref A) (hm : X.mg x = some (.ref A)) (hb : Binds X.K fd ("self" :: fns) []) (hr : Room k X.A) (tk : Takes X C.W) (hc : X.calm = true) (l : SA X C (e :: es) ta fa)
    (hk : X.K = C.K := by rfl) (hg : Gl X x := by rfl) (hdb : (x == ("__debug__" : Str)) = false := by decide) (he : starEach (e :: es) X.env = (false, eval e X.env) :: starEach es X.env := by rfl) (hpl : (backTo pos (starEach es X.env)).any (·.1) = false := by rfl) :
    SS X C (.Raise (some (.Call (.Name x p) (e :: es) [] pos)) none pos') (tTry C (sRaise F x fns fa)) (sRaise F x fns fa) := ss_sem (ss_raise0 hi T hob hcx hm hb hr tk hc l hk hg hdb he hpl)
end
end GS
namespace GS
open PySem L2 PySem.Spec PyProof.Rows
end GS
namespace GS
open PySem L2
section
variable {ρ ρ1 : Rho} {c : Prop} [Decidable c]
@[simp] theorem bindBS_ok' (d : D) (b : Bool) (k : Bool → Rho → RS) (h : d = .bool b) : bindBS (.ok (.sh d) ρ) k = k b ρ := by subst h; rfl
@[simp] theorem bindI_ex (x : Xc) (k : List D → Rho → RS) : bindI (.exc x ρ) k = .exc x ρ := rfl
@[simp] theorem bindIE_ex (x : Xc) (k : List D → Rho → RE) : bindIE (.exc x ρ) k = .exc x ρ := rfl
@[simp] theorem consA_ex (h : Hd) (x : Xc) : consA h (.exc x ρ) = .exc x ρ := rfl
/-- a class of exceptions that is raised -/
def Raises (F : FF) : Prop := F [] ≠ .stuck
theorem raises_ini {k : Nat} (h : 2 ≤ k) : Raises (iniF k) := by
  unfold Raises iniF
  rw [if_neg (by omega)]
  exact RE.noConfusion
end
end GS
namespace GM
open PySem L2 GS
end GM
namespace GM
open PySem L2 GS
end GM
namespace GM
open PySem L2 GS
/-- kids_of(tree); slots 0:tree -/
def m_kids_of : SF := (sEnd (sRet (eIf (eB (eBin (eqB false) (eBin ixA (eVb 0) (eC (.int 0))) (eC (.str (Str.ofString "knot"))))) (eBin ixA (eVb 0) (eC (.int 3))) (eTup aNil))))
theorem m_kids_of_eq (ρ : Rho) : fnF 1 1 (m_kids_of) ρ = finR 1 (m_kids_of (ρ ++ [])) := fnF_eq 1 1 _
/-- places(tree); slots 0:tree 1:found 2:k 3:kid 4:place -/
def m_places_b1 (F_kids_of F_places : FF) : SF := (sKill [4] (sApp 1 (eBin addD (eTup (aCons (eMv 2) aNil)) (eVb 4))))
def m_places_b2 (F_kids_of F_places : FF) : SF := (sKill [2, 3, 4] (sFor (iSq (eCall 1 none F_places (aCons (eMv 3) aNil))) (gN 4) (m_places_b1 F_kids_of F_places)))
def m_places (F_kids_of F_places : FF) : SF := (sSeq (sSet 1 (eLst (aCons (eTup aNil) aNil))) (sSeq (sFor (iEn (eCall 1 none F_kids_of (aCons (eMv 0) aNil))) (gT 2 (gsC (gN 2) (gsC (gN 3) gsN))) (m_places_b2 F_kids_of F_places)) (sEnd (sRet (eRv 1)))))
theorem m_places_eq (F_kids_of F_places : FF) (ρ : Rho) : fnF 5 1 (m_places F_kids_of F_places) ρ = finR 1 (m_places F_kids_of F_places (ρ ++ [none, none, none, none])) := fnF_eq 5 1 _
/-- feet_of(tree); slots 0:tree 1:pieces 2:place 3:piece -/
def m_feet_of_ct1 (F_places F_piece_at : FF) : EF := (eB (eBin (eqB false) (eBin ixA (eVb 3) (eC (.int 0))) (eC (.str (Str.ofString "foot")))))
def m_feet_of_ce2 (F_places F_piece_at : FF) : EF := (eBin ixA (eVb 3) (eC (.int 1)))
def m_feet_of_ce3 (F_places F_piece_at : FF) : EF := (eCall 2 none F_piece_at (aCons (eMv 0) (aCons (eMv 2) aNil)))
def m_feet_of (F_places F_piece_at : FF) : SF := (sSeq (sSet 1 (eLc [2] (iSq (eCall 1 none F_places (aCons (eMv 0) aNil))) (gN 2) (eNox eYes) (eNox (m_feet_of_ce3 F_places F_piece_at)))) (sEnd (sRet (eLc [3] (iSq (eMv 1)) (gN 3) (eNox (m_feet_of_ct1 F_places F_piece_at)) (eNox (m_feet_of_ce2 F_places F_piece_at))))))
theorem m_feet_of_eq (F_places F_piece_at : FF) (ρ : Rho) : fnF 4 1 (m_feet_of F_places F_piece_at) ρ = finR 1 (m_feet_of F_places F_piece_at (ρ ++ [none, none, none])) := fnF_eq 4 1 _
/-- is_graft(tree); slots 0:tree -/
def m_is_graft (F_feet_of : FF) : SF := (sEnd (sRet (eBin (eqB false) (eCB (un1 lenD) (aCons (eCall 1 none F_feet_of (aCons (eMv 0) aNil)) aNil)) (eC (.int 1)))))
theorem m_is_graft_eq (F_feet_of : FF) (ρ : Rho) : fnF 1 1 (m_is_graft F_feet_of) ρ = finR 1 (m_is_graft F_feet_of (ρ ++ [])) := fnF_eq 1 1 _
/-- name_of(tree); slots 0:tree 1:feet -/
def m_name_of (F_feet_of : FF) : SF := (sSeq (sSet 1 (eCall 1 none F_feet_of (aCons (eMv 0) aNil))) (sEnd (sRet (eIf (eB (eBin (eqB false) (eCB (un1 lenD) (aCons (eVb 1) aNil)) (eC (.int 1)))) (eBin ixA (eVb 1) (eC (.int 0))) (eBin ixA (eVb 0) (eC (.int 1)))))))
theorem m_name_of_eq (F_feet_of : FF) (ρ : Rho) : fnF 2 1 (m_name_of F_feet_of) ρ = finR 1 (m_name_of F_feet_of (ρ ++ [none])) := fnF_eq 2 1 _
end GM
namespace GM
open PySem L2 GS
def Tr.kids : Tr → List Tr
  | .knot _ _ ks => ks
  | _ => []
def Tr.isKnot : Tr → Bool
  | .knot _ _ _ => true
  | _ => false
mutual
def Tr.pieces : Tr → List Tr
  | .knot n tk ks => .knot n tk ks :: Tr.piecesL ks
  | t => [t]
def Tr.piecesL : List Tr → List Tr
  | [] => []
  | t :: ts => t.pieces ++ Tr.piecesL ts
end
mutual
def Tr.places : Tr → List (List Nat)
  | .knot _ _ ks => [] :: Tr.placesL 0 ks
  | _ => [[]]
def Tr.placesL : Nat → List Tr → List (List Nat)
  | _, [] => []
  | k, t :: ts => t.places.map (k :: ·) ++ Tr.placesL (k + 1) ts
end
def Tr.at : Tr → List Nat → Option Tr
  | t, [] => some t
  | t, k :: p => (t.kids[k]?).bind fun u => u.at p
def encP (p : List Nat) : D := .tuple (p.map fun n : Nat => PyData.int (n : Int))
theorem piecesL_flat (ts : List Tr) : Tr.piecesL ts = ts.flatMap Tr.pieces := by
  induction ts with
  | nil => rfl
  | cons t ts ih => rw [Tr.piecesL, ih, List.flatMap_cons]
theorem pieces_kids (t : Tr) : t.pieces = t :: t.kids.flatMap Tr.pieces := by
  cases t <;> simp [Tr.pieces, Tr.kids, piecesL_flat]
theorem places_kids (t : Tr) : t.places = [] :: Tr.placesL 0 t.kids := by
  cases t <;> simp [Tr.places, Tr.kids, Tr.placesL]
theorem ht_kids {t k : Tr} (h : k ∈ t.kids) : k.ht + 1 ≤ t.ht := by
  cases t with
  | knot n tk ks => have := ht_mem (show k ∈ ks from h); rw [Tr.ht]; omega
  | _ => cases h
theorem placesL_snoc (t : Tr) : ∀ (k : Nat) (ts : List Tr), Tr.placesL k (ts ++ [t]) = Tr.placesL k ts ++ t.places.map ((k + ts.length) :: ·)
  | k, [] => by simp [Tr.placesL]
  | k, u :: ts => by
    rw [List.cons_append, Tr.placesL, Tr.placesL, placesL_snoc t (k + 1) ts, List.append_assoc, List.length_cons]
    rw [show k + 1 + ts.length = k + (ts.length + 1) by omega]
mutual
theorem places_len : ∀ t : Tr, t.places.length = t.pieces.length
  | .sign _ => rfl
  | .void => rfl
  | .hole _ => rfl
  | .foot _ => rfl
  | .knot _ _ ks => by rw [Tr.places, Tr.pieces, List.length_cons, List.length_cons, placesL_len ks 0]
theorem placesL_len : ∀ (ts : List Tr) (k : Nat), (Tr.placesL k ts).length = (Tr.piecesL ts).length
  | [], _ => rfl
  | t :: ts, k => by rw [Tr.placesL, Tr.piecesL, List.length_append, List.length_append, List.length_map, places_len t, placesL_len ts (k + 1)]
end
theorem pieces_kid_le {t k : Tr} (h : k ∈ t.kids) : k.pieces.length ≤ t.pieces.length := by
  rw [pieces_kids t, List.length_cons]
  have : ∀ ts : List Tr, k ∈ ts → k.pieces.length ≤ (ts.flatMap Tr.pieces).length := by
    intro ts
    induction ts with
    | nil => intro m; cases m
    | cons u ts ih =>
      intro m
      rw [List.flatMap_cons, List.length_append]
      cases m with
      | head => omega
      | tail _ m => have := ih m; omega
  have := this _ h
  omega
mutual
theorem place_len : ∀ (t : Tr) (p : List Nat), p ∈ t.places → p.length ≤ t.ht
  | .sign _, p, m => by simp [Tr.places] at m; subst m; simp
  | .void, p, m => by simp [Tr.places] at m; subst m; simp
  | .hole _, p, m => by simp [Tr.places] at m; subst m; simp
  | .foot _, p, m => by simp [Tr.places] at m; subst m; simp
  | .knot n tk ks, p, m => by
    rw [Tr.places] at m
    rw [Tr.ht]
    rcases List.mem_cons.mp m with rfl | m
    · simp
    · exact placeL_len ks 0 p m
theorem placeL_len : ∀ (ts : List Tr) (k : Nat) (p : List Nat), p ∈ Tr.placesL k ts → p.length ≤ Tr.htL ts + 1
  | [], _, p, m => by cases m
  | t :: ts, k, p, m => by
    rw [Tr.placesL] at m
    rw [Tr.htL]
    rcases List.mem_append.mp m with m | m
    · obtain ⟨q, hq, rfl⟩ := List.mem_map.mp m
      have := place_len t q hq
      rw [List.length_cons]; omega
    · have := placeL_len ts (k + 1) p m
      omega
end
mutual
theorem at_places : ∀ t : Tr, t.places.map t.at = t.pieces.map some
  | .sign _ => rfl
  | .void => rfl
  | .hole _ => rfl
  | .foot _ => rfl
  | .knot n tk ks => by
    rw [Tr.places, Tr.pieces, List.map_cons, List.map_cons]
    congr 1
    exact at_placesL ks [] n tk ks rfl
theorem at_placesL : ∀ (ts pre : List Tr) (n : Str) (tk : Option (Str × Bool)) (ks : List Tr), pre ++ ts = ks → (Tr.placesL pre.length ts).map (Tr.knot n tk ks).at = (Tr.piecesL ts).map some
  | [], _, _, _, _, _ => rfl
  | t :: ts, pre, n, tk, ks, e => by
    rw [Tr.placesL, Tr.piecesL, List.map_append, List.map_append]
    have h1 := at_placesL ts (pre ++ [t]) n tk ks (by rw [List.append_assoc]; exact e)
    rw [List.length_append, List.length_singleton] at h1
    rw [h1, List.map_map]
    congr 1
    rw [← at_places t]
    apply List.map_congr_left
    intro p _
    show (Tr.at (.knot n tk ks) (pre.length :: p)) = t.at p
    rw [Tr.at, Tr.kids, ← e, List.getElem?_append_right (Nat.le_refl _), Nat.sub_self]
    rfl
end
theorem enc_word (t : Tr) : ∃ w r, t.enc = .tuple (.str w :: r) := by cases t <;> exact ⟨_, _, rfl⟩
def KidsSp (F : FF) : Prop := ∀ t : Tr, F [some ⟨t.enc, .sh⟩] = .ok (.sh (.tuple (t.kids.map Tr.enc))) [none]
theorem kids_of_ok : KidsSp (fnF 1 1 m_kids_of) := fun t => by
  rw [m_kids_of_eq]
  cases t <;> simp [m_kids_of, Tr.enc, Tr.kids, encL_map]
def PlacesSp (n : Nat) (F : FF) : Prop := ∀ t : Tr, t.ht ≤ n → t.pieces.length ≤ 100000 → F [some ⟨t.enc, .sh⟩] = .ok (.fr (.list (t.places.map encP))) [none]
theorem places_ok {n : Nat} {Fk Fp : FF} (hk : KidsSp Fk) (hn : n ≤ 1000) (hp : ∀ m, m + 1 = n → PlacesSp m Fp) : PlacesSp n (fnF 5 1 (m_places Fk Fp)) := fun t ht hz => by
  rw [m_places_eq]
  have ek := hk t
  have hpl := places_kids t
  have lpl := places_len t
  -- one kid's places
  have inner : ∀ (kid : Tr) (i : Nat) (acc : List D), kid.ht ≤ 1000 → acc.length + kid.places.length ≤ sizeLine → forL (gN 4) (m_places_b1 Fk Fp) (kid.places.map encP) [some ⟨t.enc, .sh⟩, some ⟨.list acc, .ow⟩, some ⟨.int i, .sh⟩, some ⟨kid.enc, .sh⟩, none] = .nx [some ⟨t.enc, .sh⟩, some ⟨.list (acc ++ kid.places.map fun p => encP (i :: p)), .ow⟩, some ⟨.int i, .sh⟩, some ⟨kid.enc, .sh⟩, none] := fun kid i acc hh ha => by
    refine forL_app (fun acc => [some ⟨t.enc, .sh⟩, some ⟨.list acc, .ow⟩, some ⟨.int i, .sh⟩, some ⟨kid.enc, .sh⟩, none]) encP (fun p => encP (i :: p)) kid.places acc ha fun p acc m hacc => ?_
    have hpz : 1 + p.length ≤ sizeLine := fits (by have := place_len kid p m; omega)
    simp [m_places_b1, encP, hacc, hpz]
  obtain ⟨ps, hf, hps⟩ := forL_by (S := List (List Nat)) (g := gT 2 (gsC (gN 2) (gsC (gN 3) gsN))) (b := m_places_b2 Fk Fp) (fun ps => [some ⟨t.enc, .sh⟩, some ⟨.list (ps.map encP), .ow⟩, none, none, none])
    (fun pre ps => ps = [] :: Tr.placesL 0 (t.kids.take pre.length)) (enD (t.kids.map Tr.enc)) [[]] (by simp [Tr.placesL]) (fun pre d post ps hd hps => by
      obtain ⟨x, hx, rfl⟩ := enD_mid hd
      rw [List.getElem?_map] at hx
      obtain ⟨kid, hkid, rfl⟩ := Option.map_eq_some_iff.mp hx
      have mk : kid ∈ t.kids := List.mem_of_getElem? hkid
      have h1 := ht_kids mk
      have h2 := hp (n - 1) (by omega) kid (by omega) (by have := pieces_kid_le mk; omega)
      have htk : t.kids.take (pre.length + 1) = t.kids.take pre.length ++ [kid] := by
        rw [List.take_succ, hkid]; rfl
      refine ⟨ps ++ kid.places.map (pre.length :: ·), ?_, ?_⟩
      · have hl : (ps.map encP).length + kid.places.length ≤ sizeLine := by
          rw [List.length_map, hps]
          have e := placesL_snoc kid 0 (t.kids.take pre.length)
          rw [← htk] at e
          have e2 := congrArg List.length e
          rw [List.length_append, List.length_map] at e2
          have e3 : (Tr.placesL 0 (t.kids.take (pre.length + 1))).length ≤ (Tr.placesL 0 t.kids).length := by
            rw [placesL_len, placesL_len, piecesL_flat, piecesL_flat]
            conv => rhs; rw [← List.take_append_drop (pre.length + 1) t.kids, List.flatMap_append, List.length_append]
            omega
          rw [hpl, List.length_cons] at lpl
          rw [List.length_cons]
          exact fits (by omega)
        have hi := inner kid pre.length (ps.map encP) (by omega) hl
        simp [m_places_b2, h2, hi]
      · rw [hps, List.length_append, List.length_singleton, htk, placesL_snoc, List.length_take]
        have : pre.length < t.kids.length := (List.getElem?_eq_some_iff.mp hkid).1
        simp
        intro p _
        omega)
  rw [enD_len, List.length_map, List.take_length] at hps
  rw [← hpl] at hps
  subst hps
  have hf' : forL (gT 2 (gsC (gN 2) (gsC (gN 3) gsN))) (m_places_b2 Fk Fp) (enD (t.kids.map Tr.enc)) [some ⟨t.enc, .sh⟩, some ⟨.list [.tuple []], .ow⟩, none, none, none] = _ := hf
  simp [m_places, ek, hf']
theorem at_snoc (t : Tr) : ∀ (p : List Nat) (k : Nat), t.at (p ++ [k]) = (t.at p).bind fun u => u.kids[k]?
  | [], k => by simp [Tr.at]
  | j :: p, k => by
    rw [List.cons_append, Tr.at, Tr.at]
    cases h : t.kids[j]? with
    | none => rfl
    | some u => simp [at_snoc u p k]
theorem at_pre {t : Tr} {p q : List Nat} {u : Tr} (h : t.at (p ++ q) = some u) : ∃ v, t.at p = some v := by
  induction p generalizing t with
  | nil => exact ⟨t, rfl⟩
  | cons j p ih =>
    rw [List.cons_append, Tr.at] at h
    rw [Tr.at]
    cases hk : t.kids[j]? with
    | none => rw [hk] at h; cases h
    | some v => rw [hk] at h; exact ih h
def PieceSp (F : FF) : Prop := ∀ (t : Tr) (p : List Nat) (u : Tr), t.at p = some u → F [some ⟨t.enc, .sh⟩, some ⟨encP p, .sh⟩] = .ok (.sh u.enc) [none, none]
def Tr.footN : Tr → Option Str
  | .foot n => some n
  | _ => none
def Tr.feet (t : Tr) : List Str := t.pieces.filterMap Tr.footN
def FeetSp (n : Nat) (F : FF) : Prop := ∀ t : Tr, t.ht ≤ n → t.pieces.length ≤ 100000 → F [some ⟨t.enc, .sh⟩] = .ok (.fr (.list (t.feet.map .str))) [none]
/-- the pieces by the places -/
theorem place_piece (t : Tr) : ∃ f : List Nat → Tr, (∀ p ∈ t.places, t.at p = some (f p)) ∧ t.places.map f = t.pieces := by
  have h := at_places t
  refine ⟨fun p => (t.at p).getD default, ?_, ?_⟩
  · intro p m
    have : t.at p ∈ t.pieces.map some := by rw [← h]; exact List.mem_map_of_mem m
    obtain ⟨u, _, e⟩ := List.mem_map.mp this
    show t.at p = some ((t.at p).getD default)
    rw [← e]; rfl
  · have h2 : (t.places.map t.at).map (fun o => o.getD default) = t.pieces := by
      rw [h, List.map_map]
      have : ((fun o : Option Tr => o.getD default) ∘ some) = id := rfl
      rw [this, List.map_id]
    rw [List.map_map] at h2
    exact h2
theorem feet_of_ok {n : Nat} {Fp Fa : FF} (hp : PlacesSp n Fp) (ha : PieceSp Fa) : FeetSp n (fnF 4 1 (m_feet_of Fp Fa)) := fun t ht hz => by
  rw [m_feet_of_eq]
  have ep := hp t ht hz
  obtain ⟨f, hf1, hf2⟩ := place_piece t
  have lp := places_len t
  have h1 := lcL_all (vs := [2]) (g := gN 2) (fe := eNox (m_feet_of_ce3 Fp Fa)) [some ⟨t.enc, .sh⟩, none, none, none] encP (fun p => [some ⟨t.enc, .sh⟩, none, some ⟨encP p, .sh⟩, none]) (fun p => (f p).enc) t.places [] (fits (by simp; omega)) (fun p m => by
    have e := ha t p (f p) (hf1 p m)
    simp [m_feet_of_ce3, e])
  rw [List.nil_append, show (t.places.map fun p => (f p).enc) = t.pieces.map Tr.enc by rw [← hf2, List.map_map]; rfl] at h1
  have h2 := lcL_up (vs := [3]) (g := gN 3) (ft := eNox (m_feet_of_ct1 Fp Fa)) (fe := eNox (m_feet_of_ce2 Fp Fa)) [some ⟨t.enc, .sh⟩, some ⟨.list (t.pieces.map Tr.enc), .sh⟩, none, none] Tr.enc (fun u => [some ⟨t.enc, .sh⟩, some ⟨.list (t.pieces.map Tr.enc), .sh⟩, none, some ⟨u.enc, .sh⟩]) (fun u => u.footN.isSome) (fun u => .str (u.footN.getD default)) t.pieces [] (fits (by simp; omega)) (fun u _ => by
    cases u <;> simp [m_feet_of_ct1, m_feet_of_ce2, Tr.enc, Tr.footN])
  have h3 : (t.pieces.filter fun u => u.footN.isSome).map (fun u => PyData.str (u.footN.getD default)) = t.feet.map .str := by
    unfold Tr.feet
    generalize t.pieces = us
    induction us with
    | nil => rfl
    | cons u us ih =>
      rw [List.filter_cons, List.filterMap_cons]
      cases hu : u.footN with
      | none => simpa using ih
      | some z => simp only [Option.isSome_some, if_true, List.map_cons, hu, Option.getD_some, ih]
  rw [List.nil_append, h3] at h2
  simp [m_feet_of, ep, h1, h2]
def GraftSp (n : Nat) (F : FF) : Prop := ∀ t : Tr, t.ht ≤ n → t.pieces.length ≤ 100000 → F [some ⟨t.enc, .sh⟩] = .ok (.sh (.bool (decide (t.feet.length = 1)))) [none]
theorem is_graft_ok {n : Nat} {Ff : FF} (hf : FeetSp n Ff) : GraftSp n (fnF 1 1 (m_is_graft Ff)) := fun t ht hz => by
  rw [m_is_graft_eq]
  have e := hf t ht hz
  simp [m_is_graft, e]
  omega
def Tr.word : Tr → Str
  | .knot n _ _ => n
  | .foot n => n
  | .hole n => n
  | .sign s => s
  | .void => default
/-- the name of a start or a graft -/
def Tr.name (t : Tr) : Str := match t.feet with
  | [n] => n
  | _ => t.word
def NameOfSp (n : Nat) (F : FF) : Prop := ∀ t : Tr, t.ht ≤ n → t.pieces.length ≤ 100000 → t ≠ .void → F [some ⟨t.enc, .sh⟩] = .ok (.sh (.str t.name)) [none]
theorem name_of_ok {n : Nat} {Ff : FF} (hf : FeetSp n Ff) : NameOfSp n (fnF 2 1 (m_name_of Ff)) := fun t ht hz hv => by
  rw [m_name_of_eq]
  have e := hf t ht hz
  have ew : ixA t.enc (.int 1) = some (.sh (.str t.word)) := by
    cases t <;> first | exact absurd rfl hv | simp [Tr.enc, Tr.word]
  unfold Tr.name
  cases hq : t.feet with
  | nil => rw [hq] at e; simp [m_name_of, e, ew]
  | cons a r =>
    rw [hq] at e
    cases r with
    | nil => simp [m_name_of, e]
    | cons b r =>
      have z : ¬ ((r.length : Int) + 1 + 1 = 1) := by omega
      simp [m_name_of, e, ew, z]
theorem pick3 {P : D → Prop} {a b d : D} (c : Int) (h1 : P a) (h2 : P b) (h3 : P d) : P (pick [a, b, d] (c % 3)) := by
  have := pick_mem (xs := [a, b, d]) (c := c) (n := 3) (by decide) rfl
  simp only [List.mem_cons, List.not_mem_nil, or_false] at this
  rcases this with e | e | e <;> rw [e] <;> assumption
def Tr.signN : Tr → Option Str
  | .sign n => some n
  | _ => none
def Tr.signs (t : Tr) : List Str := t.pieces.filterMap Tr.signN
theorem feet_knot (n : Str) (tk : Option (Str × Bool)) (ks : List Tr) : (Tr.knot n tk ks).feet = ks.flatMap Tr.feet := by
  unfold Tr.feet
  rw [Tr.pieces, piecesL_flat, List.filterMap_cons]
  show List.filterMap _ _ = _
  induction ks with
  | nil => rfl
  | cons k ks ih => rw [List.flatMap_cons, List.flatMap_cons, List.filterMap_append, ih]
theorem signs_knot (n : Str) (tk : Option (Str × Bool)) (ks : List Tr) : (Tr.knot n tk ks).signs = ks.flatMap Tr.signs := by
  unfold Tr.signs
  rw [Tr.pieces, piecesL_flat, List.filterMap_cons]
  show List.filterMap _ _ = _
  induction ks with
  | nil => rfl
  | cons k ks ih => rw [List.flatMap_cons, List.flatMap_cons, List.filterMap_append, ih]
theorem pieces_knot (n : Str) (tk : Option (Str × Bool)) (ks : List Tr) : (Tr.knot n tk ks).pieces.length = (ks.flatMap Tr.pieces).length + 1 := by
  rw [Tr.pieces, piecesL_flat, List.length_cons]
end GM
namespace GM
open PySem L2 GS
/-- tree_of(book, key); slots 0:book 1:key 2:found 3:one 4:tree -/
def m_tree_of_b1 : SF := (sKill [3, 4] (sIf (eB (eBin (eqB false) (eVb 3) (eVb 1))) (sSet 2 (eMv 4)) sNil))
def m_tree_of : SF := (sSeq (sSet 2 (eC .none)) (sSeq (sFor (iSq (eBin ixA (eVb 0) (eC (.int 1)))) (gT 2 (gsC (gN 3) (gsC (gN 4) gsN))) (m_tree_of_b1)) (sEnd (sRet (eRv 2)))))
theorem m_tree_of_eq (ρ : Rho) : fnF 5 2 (m_tree_of) ρ = finR 2 (m_tree_of (ρ ++ [none, none, none])) := fnF_eq 5 2 _
/-- wanted(piece); slots 0:piece -/
def m_wanted : SF := (sSeq (sIf (eB (eBin (eqB false) (eBin ixA (eVb 0) (eC (.int 0))) (eC (.str (Str.ofString "hole"))))) (sEnd (sRet (eTup (aCons (eC (.bool false)) (aCons (eBin ixA (eVb 0) (eC (.int 1))) (aCons (eC (.bool true)) aNil)))))) sNil) (sSeq (sIf (eAnd (eB (eBin (eqB false) (eBin ixA (eVb 0) (eC (.int 0))) (eC (.str (Str.ofString "knot"))))) (eB (eBin (isD true) (eBin ixA (eVb 0) (eC (.int 2))) (eC .none)))) (sEnd (sRet (eTup (aCons (eC (.bool true)) (aCons (eBin ixA (eBin ixA (eVb 0) (eC (.int 2))) (eC (.int 0))) (aCons (eBin ixA (eBin ixA (eVb 0) (eC (.int 2))) (eC (.int 1))) aNil)))))) sNil) (sRet (eC .none))))
theorem m_wanted_eq (ρ : Rho) : fnF 1 1 (m_wanted) ρ = finR 1 (m_wanted (ρ ++ [])) := fnF_eq 1 1 _
/-- takers(book, piece); slots 0:book 1:piece 2:want 3:key 4:tree -/
def m_takers_ct1 (F_name_of F_is_graft F_wanted : FF) : EF := (eAnd (eB (eBin (eqB false) (eCall 1 none F_is_graft (aCons (eMv 4) aNil)) (eBin ixA (eVb 2) (eC (.int 0))))) (eB (eBin (eqB false) (eCall 1 none F_name_of (aCons (eMv 4) aNil)) (eBin ixA (eVb 2) (eC (.int 1))))))
def m_takers_ce2 (F_name_of F_is_graft F_wanted : FF) : EF := (eMv 3)
def m_takers (F_name_of F_is_graft F_wanted : FF) : SF := (sSeq (sSet 2 (eCall 1 none F_wanted (aCons (eMv 1) aNil))) (sSeq (sIf (eB (eBin (isD false) (eVb 2) (eC .none))) (sEnd (sRet (eLst aNil))) sNil) (sEnd (sRet (eLc [3, 4] (iSq (eBin ixA (eVb 0) (eC (.int 1)))) (gT 2 (gsC (gN 3) (gsC (gN 4) gsN))) (eNox (m_takers_ct1 F_name_of F_is_graft F_wanted)) (eNox (m_takers_ce2 F_name_of F_is_graft F_wanted)))))))
theorem m_takers_eq (F_name_of F_is_graft F_wanted : FF) (ρ : Rho) : fnF 5 2 (m_takers F_name_of F_is_graft F_wanted) ρ = finR 2 (m_takers F_name_of F_is_graft F_wanted (ρ ++ [none, none, none])) := fnF_eq 5 2 _
end GM
namespace GM
open PySem L2 GS
structure Bk where
  top : Str
  trees : List (Str × Tr)
def encKT (p : Str × Tr) : D := .tuple [.str p.1, p.2.enc]
def Bk.enc (b : Bk) : D := .tuple [.str b.top, .tuple (b.trees.map encKT)]
theorem ix_top (b : Bk) : ixA b.enc (.int 0) = some (.sh (.str b.top)) := by simp [Bk.enc]
theorem ix_trees (b : Bk) : ixA b.enc (.int 1) = some (.sh (.tuple (b.trees.map encKT))) := by simp [Bk.enc]
def optT : Option Tr → D
  | none => .none
  | some t => t.enc
def Bk.treeOf (b : Bk) (key : Str) : Option Tr := b.trees.foldl (fun acc p => if p.1 = key then some p.2 else acc) none
def TreeOfSp (F : FF) : Prop := ∀ (b : Bk) (key : Str), F [some ⟨b.enc, .sh⟩, some ⟨.str key, .sh⟩] = .ok (.sh (optT (b.treeOf key))) [none, none]
theorem tree_of_ok : TreeOfSp (fnF 5 2 m_tree_of) := fun b key => by
  rw [m_tree_of_eq]
  obtain ⟨h, _⟩ := forL_st (S := Option Tr) (g := gT 2 (gsC (gN 3) (gsC (gN 4) gsN))) (b := m_tree_of_b1) (fun o => [some ⟨b.enc, .sh⟩, some ⟨.str key, .sh⟩, some ⟨optT o, .sh⟩, none, none]) encKT (fun acc p => if p.1 = key then some p.2 else acc) (fun _ _ => True) b.trees [] none trivial (fun pre p o _ _ => by
    refine ⟨?_, trivial⟩
    by_cases q : p.1 = key <;> simp [m_tree_of_b1, encKT, q, optT])
  have h' : forL (gT 2 (gsC (gN 3) (gsC (gN 4) gsN))) m_tree_of_b1 (b.trees.map encKT) [some ⟨b.enc, .sh⟩, some ⟨.str key, .sh⟩, some ⟨.none, .sh⟩, none, none] = .nx [some ⟨b.enc, .sh⟩, some ⟨.str key, .sh⟩, some ⟨optT (b.treeOf key), .sh⟩, none, none] := h
  simp [m_tree_of, ix_trees, h']
theorem treeOf_mem {b : Bk} (hn : (b.trees.map (·.1)).Nodup) {p : Str × Tr} (m : p ∈ b.trees) : b.treeOf p.1 = some p.2 := by
  unfold Bk.treeOf
  obtain ⟨l, r, e⟩ := List.append_of_mem m
  rw [e] at hn ⊢
  rw [List.foldl_append, List.foldl_cons, if_pos rfl]
  have hr : ∀ q ∈ r, q.1 ≠ p.1 := by
    rw [List.map_append, List.map_cons, List.nodup_append] at hn
    have := (List.nodup_cons.mp hn.2.1).1
    intro q mq eq
    exact this (by rw [← eq]; exact List.mem_map_of_mem mq)
  have : ∀ (qs : List (Str × Tr)) (acc : Option Tr), (∀ q ∈ qs, q.1 ≠ p.1) → qs.foldl (fun acc q => if q.1 = p.1 then some q.2 else acc) acc = acc := by
    intro qs
    induction qs with
    | nil => intros; rfl
    | cons q qs ih => intro acc h; rw [List.foldl_cons, if_neg (h q (by simp)), ih acc fun q m => h q (by simp [m])]
  exact this r _ hr
def Tr.want : Tr → Option (Bool × Str × Bool)
  | .hole n => some (false, n, true)
  | .knot _ (some (m, b)) _ => some (true, m, b)
  | _ => none
def encW : Option (Bool × Str × Bool) → D
  | none => .none
  | some (g, n, b) => .tuple [.bool g, .str n, .bool b]
def WantSp (F : FF) : Prop := ∀ t : Tr, F [some ⟨t.enc, .sh⟩] = .ok (.sh (encW t.want)) [none]
theorem wanted_ok : WantSp (fnF 1 1 m_wanted) := fun t => by
  rw [m_wanted_eq]
  cases t with
  | knot n tk ks =>
    cases tk with
    | none => simp [m_wanted, Tr.enc, Tr.want, encTk, encW]
    | some p => simp [m_wanted, Tr.enc, Tr.want, encTk, encW]
  | _ => simp [m_wanted, Tr.enc, Tr.want, encW]
def Tr.isGraft (t : Tr) : Bool := decide (t.feet.length = 1)
def Bk.takers (b : Bk) (u : Tr) : List Str := match u.want with
  | none => []
  | some (g, n, _) => (b.trees.filter fun p => decide (p.2.isGraft = g) && decide (p.2.name = n)).map (·.1)
structure BkOk (n : Nat) (b : Bk) : Prop where
  len : b.trees.length ≤ 1000
  ht : ∀ p ∈ b.trees, p.2.ht ≤ n
  sz : ∀ p ∈ b.trees, p.2.pieces.length ≤ 100000
  nv : ∀ p ∈ b.trees, p.2 ≠ .void
def TakersSp (n : Nat) (F : FF) : Prop := ∀ (b : Bk) (u : Tr), BkOk n b → F [some ⟨b.enc, .sh⟩, some ⟨u.enc, .sh⟩] = .ok (.fr (.list ((b.takers u).map .str))) [none, none]
theorem takers_ok {n : Nat} {Fn Fg Fw : FF} (hn : NameOfSp n Fn) (hg : GraftSp n Fg) (hw : WantSp Fw) : TakersSp n (fnF 5 2 (m_takers Fn Fg Fw)) := fun b u hb => by
  rw [m_takers_eq]
  have ew := hw u
  unfold Bk.takers
  cases hq : u.want with
  | none => rw [hq] at ew; simp [m_takers, ew, encW]
  | some w =>
    obtain ⟨g, nm, mu⟩ := w
    rw [hq] at ew
    have h := lcL_up (vs := [3, 4]) (g := gT 2 (gsC (gN 3) (gsC (gN 4) gsN))) (ft := eNox (m_takers_ct1 Fn Fg Fw)) (fe := eNox (m_takers_ce2 Fn Fg Fw)) [some ⟨b.enc, .sh⟩, some ⟨u.enc, .sh⟩, some ⟨.tuple [.bool g, .str nm, .bool mu], .sh⟩, none, none] encKT
      (fun p => [some ⟨b.enc, .sh⟩, some ⟨u.enc, .sh⟩, some ⟨.tuple [.bool g, .str nm, .bool mu], .sh⟩, some ⟨.str p.1, .sh⟩, some ⟨p.2.enc, .sh⟩]) (fun p => decide (p.2.isGraft = g) && decide (p.2.name = nm)) (fun p => .str p.1) b.trees [] (fits (by have := hb.len; simp; omega)) (fun p m => by
        have e1 := hn p.2 (hb.ht p m) (hb.sz p m) (hb.nv p m)
        have e2 := hg p.2 (hb.ht p m) (hb.sz p m)
        change _ = RE.ok (Hd.sh (.bool p.2.isGraft)) _ at e2
        cases q1 : p.2.isGraft <;> cases g <;> by_cases q2 : p.2.name = nm <;> rw [q1] at e2 <;> simp [m_takers_ct1, m_takers_ce2, encKT, e1, e2, q1, q2])
    rw [List.nil_append] at h
    simp [m_takers, ew, encW, ix_trees, h]
mutual
theorem eqv_refl : ∀ d : D, cleanB d = true → PyData.eqv d d = true
  | .none, _ => rfl
  | .bool b, _ => by simp [PyData.eqv]
  | .int i, _ => by simp [PyData.eqv]
  | .str x, _ => by simp [PyData.eqv]
  | .list ds, h => by rw [PyData.eqv]; exact eqvAll_refl ds (by rw [cleanB] at h; exact h)
  | .tuple ds, h => by rw [PyData.eqv]; exact eqvAll_refl ds (by rw [cleanB] at h; exact h)
  | .dict _, h => by cases h
theorem eqvAll_refl : ∀ ds : List D, cleanL ds = true → PyData.eqvAll ds ds = true
  | [], _ => rfl
  | d :: ds, h => by
    rw [cleanL, Bool.and_eq_true] at h
    rw [PyData.eqvAll, eqv_refl d h.1, eqvAll_refl ds h.2]; rfl
end
theorem eqB_same {d : D} (neg : Bool) (h : cleanB d = true) (hd : d.depth ≤ 190) : eqB neg d d = some (.sh (.bool (!neg))) := by
  rw [eqB_of neg (okW_of h hd) (okW_of h hd), eqv_refl d h]
  cases neg <;> rfl
theorem strs_clean {ks : List Str} (h : ∀ k ∈ ks, PyData.strOk k = true) : cleanB (.list (ks.map .str)) = true ∧ (PyData.list (ks.map .str)).depth ≤ 190 := by
  refine ⟨?_, ?_⟩
  · rw [cleanB]
    refine cleanL_of fun d m => ?_
    obtain ⟨k, mk, rfl⟩ := List.mem_map.mp m
    exact h k mk
  · rw [PyData.depth]
    have := depthAll_of (ds := ks.map PyData.str) (n := 0) fun d m => by
      obtain ⟨k, mk, rfl⟩ := List.mem_map.mp m
      rw [PyData.depth]; omega
    omega
end GM
namespace GM
open PySem L2 GS
end GM
namespace GM
open PySem L2 GS
def tkW : Option (Str × Bool) → List Str
  | none => []
  | some (m, b) => [Str.ofString (if b then "!" else "?") ++ m]
mutual
def Tr.words : Tr → List Str
  | .sign s => [s]
  | .void => [Str.ofString "-"]
  | .hole n => [Str.ofString "+" ++ n]
  | .foot n => [Str.ofString "*" ++ n]
  | .knot n tk ks => Str.ofString "[" :: n :: (tkW tk ++ (Tr.wordsL ks ++ [Str.ofString "]"]))
def Tr.wordsL : List Tr → List Str
  | [] => []
  | t :: ts => t.words ++ Tr.wordsL ts
end
theorem l1 (w : String) (h : w.toList.length = 1) (n : Str) (hn : n.length ≤ 100000) : (Str.ofString w).length + n.length ≤ sizeLine := fits (by rw [ofS_len, h]; omega)
theorem knot_parts {n : Str} {tk : Option (Str × Bool)} {ks : List Tr} (h : (Tr.knot n tk ks).ok = true) : nameB n = true ∧ okTk tk = true ∧ 1 ≤ ks.length ∧ ks.length ≤ 8 ∧ ∀ k ∈ ks, k.ok = true := by
  rw [Tr.ok] at h
  simp only [Bool.and_eq_true, decide_eq_true_eq] at h
  exact ⟨h.1, h.2.1, h.2.2.1, h.2.2.2.1, okL_mem h.2.2.2.2⟩
theorem map_mid {α : Type} {f : α → D} {xs : List α} {pre post : List D} {d : D} (h : xs.map f = pre ++ d :: post) : ∃ x, xs[pre.length]? = some x ∧ d = f x := by
  have h2 : (xs.map f)[pre.length]? = some d := by rw [h, List.getElem?_append_right (Nat.le_refl _), Nat.sub_self]; rfl
  rw [List.getElem?_map] at h2
  obtain ⟨k, h3, h4⟩ := Option.map_eq_some_iff.mp h2
  exact ⟨k, h3, h4.symm⟩
end GM
namespace GM
open PySem L2 GS
end GM
namespace GM
open PySem L2 GS
abbrev BL : Str := Str.ofString " "
/-- words parted by blanks -/
def lineT (ws : List Str) : Str := Txt.join BL ws
theorem sum_le {ws : List Str} {b : Nat} (h : ∀ w ∈ ws, w.length ≤ b) : (ws.map (·.length)).sum ≤ b * ws.length := by
  induction ws with
  | nil => simp
  | cons w ws ih =>
    have h1 := h w (by simp)
    have h2 := ih fun w m => h w (by simp [m])
    rw [List.map_cons, List.sum_cons, List.length_cons, Nat.mul_succ]
    omega
theorem joinL_len (S : List Nat) : ∀ ps : List (List Nat), (TL.joinL S ps).length ≤ (ps.map List.length).sum + ps.length * S.length
  | [] => by simp [TL.joinL]
  | [p] => by simp [TL.joinL]
  | p :: q :: r => by
    have ih := joinL_len S (q :: r)
    rw [TL.joinL, List.length_append, List.length_append, List.map_cons, List.sum_cons, List.length_cons, Nat.succ_mul]
    omega
end GM
namespace GS
open PySem L2 GM
theorem forL_cons2 {ρ : Rho} (g : D → Rho → Option Rho) (b : SF) (d : D) (ds : List D) : forL g b (d :: ds) ρ = turnR (forL g b ds) (optR (g d ρ) b) := by
  rw [forL_cons]
  cases g d ρ <;> rfl
theorem seq_of {f g : SF} {ρ : Rho} {q : RS} (ρ' : Rho) (h : f ρ = .nx ρ') (h2 : g ρ' = q) : sSeq f g ρ = q := by rw [sSeq_eq, h]; exact h2
theorem kill_of {vs : List Nat} {f : SF} {ρ ρ' : Rho} (ρ1 : Rho) (hio : vs.all (fun i => !ioAt ρ i) = true) (h : f ρ = .nx ρ1) (hw : wipeR ρ1 vs = ρ') : sKill vs f ρ = .nx ρ' := by
  rw [sKill_eq, if_pos hio, h]
  show RS.nx (wipeR ρ1 vs) = _
  rw [hw]
theorem fin_seq {n : Nat} {f g : SF} {ρ : Rho} {q : RE} (ρ' : Rho) (h : f ρ = .nx ρ') (h2 : finR n (g ρ') = q) : finR n (sSeq f g ρ) = q := by rw [sSeq_eq, h]; exact h2
abbrev DT : Str := Str.ofString "."
theorem cpDT : DT.cps.toList = [46] := by decide +kernel
theorem joinL_mem (S : List Nat) (x : Nat) : ∀ ps : List (List Nat), x ∈ TL.joinL S ps → x ∈ S ∨ ∃ p ∈ ps, x ∈ p
  | [], h => by simp [TL.joinL] at h
  | [p], h => .inr ⟨p, by simp, by simpa [TL.joinL] using h⟩
  | p :: q :: r, h => by
    rw [TL.joinL, List.mem_append, List.mem_append] at h
    rcases h with h | h | h
    · exact .inr ⟨p, by simp, h⟩
    · exact .inl h
    · rcases joinL_mem S x (q :: r) h with h | ⟨z, m, h⟩
      · exact .inl h
      · exact .inr ⟨z, by simp at m ⊢; exact .inr m, h⟩
theorem join_cps (y : Str) (ws : List Str) : (Txt.join y ws).cps.toList = TL.joinL y.cps.toList (ws.map fun w => w.cps.toList) := by
  rw [TL.join_eq]; exact TL.tl_join y ws
theorem join_mem {y : Str} {ws : List Str} {c : Nat} (h : c ∈ (Txt.join y ws).cps.toList) : c ∈ y.cps.toList ∨ ∃ w ∈ ws, c ∈ w.cps.toList := by
  rw [join_cps] at h
  rcases joinL_mem _ _ _ h with h | ⟨p, m, h⟩
  · exact .inl h
  · obtain ⟨w, mw, rfl⟩ := List.mem_map.mp m
    exact .inr ⟨w, mw, h⟩
theorem join_len (y : Str) (ws : List Str) : (Txt.join y ws).length ≤ (ws.map (·.length)).sum + ws.length * y.length := by
  rw [len_eq, join_cps]
  have h1 := joinL_len y.cps.toList (ws.map fun w => w.cps.toList)
  rw [List.map_map, List.length_map] at h1
  have h3 : (ws.map (List.length ∘ fun w : Str => w.cps.toList)).sum = (ws.map (·.length)).sum := by
    rw [show (List.length ∘ fun w : Str => w.cps.toList) = fun w : Str => w.length from funext fun w => (len_eq w).symm]
  rw [h3, ← len_eq] at h1
  exact h1
theorem joinOk_of {y : Str} {ws : List Str} {b n : Nat} (h : ∀ w ∈ ws, w.length ≤ b) (hn : ws.length ≤ n) (hz : b * n + n * y.length ≤ 16000000) : joinOk y ws = true := by
  unfold joinOk
  have h1 := sum_le h
  have h2 : b * ws.length ≤ b * n := Nat.mul_le_mul_left _ hn
  have h3 : ws.length * y.length ≤ n * y.length := Nat.mul_le_mul_right _ hn
  exact Nat.ble_eq_true_of_le (by omega)
end GS
namespace GS
open PySem L2 PySem.Spec PyProof.Rows
section
variable {κ : Type} [DecidableEq κ]
end
local instance (priority := high) keyBEq : BEq Key := instBEqOfDecidableEq
local instance keyLaw : LawfulBEq Key := inferInstanceAs (@LawfulBEq Key instBEqOfDecidableEq)
section
variable {prog : Program} {w : World} {A : Around} {R : Result → Shared → Prop} {I : Addr} {fp wr : List Addr} {G : Array GenState → Array GenState → Prop} {n : Nat} {P : Nat → Value → Prop} {St : Nat → Shared → Prop}
end
section
variable {prog : Program} {w : World} {A : Around} {E : Value → Shared → Prop} {s : Shared}
end
end GS
namespace GS
open PySem L2 PySem.Spec PyProof.Rows
section
variable {X : Cx} {C : Ct} {a b : Expr} {ta tb : TE} {fa fb : EF} {p p2 q pos apos : Pos}
def maxI : List Int → Int
  | [] => 0
  | [a] => a
  | a :: b :: r => max a (maxI (b :: r))
theorem maxI_le : ∀ {ns : List Int} {y : Int}, y ∈ ns → y ≤ maxI ns
  | [a], y, h => by simp at h; subst h; exact Int.le_refl _
  | a :: b :: r, y, h => by
    rw [maxI]
    rcases List.mem_cons.mp h with rfl | h
    · exact Int.le_max_left _ _
    · exact Int.le_trans (maxI_le h) (Int.le_max_right _ _)
theorem maxI_mem : ∀ {ns : List Int}, ns ≠ [] → maxI ns ∈ ns
  | [a], _ => by simp [maxI]
  | a :: b :: r, _ => by
    rw [maxI]
    rcases Int.le_total a (maxI (b :: r)) with q | q
    · rw [Int.max_eq_right q]; exact List.mem_cons_of_mem _ (maxI_mem (by simp))
    · rw [Int.max_eq_left q]; simp
def maxLD : D → Option Hd
  | .list ds => (intsL ds).bind fun ns => if ns = [] then none else some (.sh (.int (maxI ns)))
  | _ => none
theorem cl_maxL {K : KW} : CalL K (rMax K) (un1 maxLD) := CalL.one fun ρ σ B H x d h Q S t e k => by
  cases d <;> first | (cases (show none = some h from e); done) | skip
  obtain ⟨ns, e1, e2⟩ := Option.bind_eq_some_iff.mp (show (intsL _).bind _ = some h from e)
  split at e2
  · cases e2
  · rename_i hne
    cases e2
    obtain ⟨a, vs, rfl, ha, ra⟩ := t
    have := intsL_ok ra e1
    subst this
    refine ⟨a, ns, rfl, ha, List.length_pos_iff.mpr hne, fun m m1 m2 => ?_⟩
    have : m = maxI ns := Int.le_antisymm (maxI_le m1) (m2 _ (maxI_mem hne))
    rw [this]
    exact now S (.int _) k
end
section
variable {X : Cx} {C : Ct} {x : Str} {c : Value} {body suite : List Stmt} {b₀ : Stmt} {np pos pos' : Pos} {ts : TS} {fb fh : SF} {ns cs : List Str}
end
end GS
namespace GS
open PySem L2
section
variable {X : Cx} {C : Ct} {o e f : Expr} {td tk tx : TE} {fd fk fx : EF} {apos pos : Pos}
end
end GS
namespace GS
open PySem L2
section
variable {ρ ρ1 : Rho} {c : Prop} [Decidable c]
theorem intsL_map (ns : List Int) : intsL (ns.map .int) = some ns := by
  induction ns with
  | nil => rfl
  | cons b bs ih => rw [List.map_cons]; unfold intsL; rw [ih]; rfl
theorem maxLD_l {ns : List Int} (h : ns ≠ []) : maxLD (.list (ns.map .int)) = some (.sh (.int (maxI ns))) := by
  show (intsL _).bind _ = _
  rw [intsL_map, Option.bind_some, if_neg h]
end
end GS
namespace GM
open PySem L2 GS
end GM
namespace GM
open PySem L2 GS
theorem keyB_len {s : Str} (h : keyB s = true) : 1 ≤ s.length ∧ s.length ≤ 24 := by
  rw [len_eq]
  unfold keyB at h
  cases hc : s.cps.toList with
  | nil => rw [hc] at h; cases h
  | cons c cs =>
    rw [hc] at h
    simp only [nameL, Bool.and_eq_true, decide_eq_true_eq] at h
    exact ⟨by simp, h.1.1⟩
def figs : List Str := [Str.ofString "0", Str.ofString "1", Str.ofString "2", Str.ofString "3", Str.ofString "4", Str.ofString "5", Str.ofString "6", Str.ofString "7"]
def fgN (f : Str) : Int := (PySem.intText? f).getD 0
theorem okEq_str {s : Str} (h : PyData.strOk s = true) : okEq (.str s) = true := okEq_of (by rw [cleanB]; exact h) (by rw [PyData.depth]; omega)
def noT (i : Nat) : Xc := ⟨"NoText", [("at", .int i)]⟩
end GM
namespace GM
open PySem L2 GS
end GM
namespace GM
open PySem L2 GS
def hd1 (w : Str) : Str := cutS w none (some 1)
def tl1 (w : Str) : Str := cutS w (some 1) none
def leafT (w : Str) : Option Tr := if w = Str.ofString "-" then some .void else if signB w = true then some (.sign w) else if hd1 w = Str.ofString "+" ∧ nameB (tl1 w) = true then some (.hole (tl1 w))
  else if hd1 w = Str.ofString "*" ∧ nameB (tl1 w) = true then some (.foot (tl1 w)) else none
end GM
namespace GM
open PySem L2 GS
@[simp] theorem isD_enc (neg : Bool) (t : Tr) : isD neg t.enc .none = some (.sh (.bool neg)) := by
  obtain ⟨w, r, h⟩ := enc_word t
  rw [h]; rfl
section
variable {n : Nat} {Fw Ft Fx Fk Fn : FF}
end
end GM
namespace GM
open PySem L2 GS
section
variable {n : Nat} {Fd Fn Fl : FF}
end
end GM
namespace GM
open PySem L2 GS
end GM
namespace GM
open PySem L2 GS
/-- no knot has more than three kids -/
def Nar (t : Tr) : Prop := ∀ u ∈ t.pieces, u.kids.length ≤ 3
theorem Nar.kid {t k : Tr} (h : Nar t) (m : k ∈ t.kids) : Nar k := fun u mu => h u (by
  rw [pieces_kids t]
  exact List.mem_cons_of_mem _ (List.mem_flatMap.mpr ⟨k, m, mu⟩))
theorem Nar.knot {n : Str} {tk : Option (Str × Bool)} {ks : List Tr} (hl : ks.length ≤ 3) (h : ∀ k ∈ ks, Nar k) : Nar (.knot n tk ks) := fun u mu => by
  rw [pieces_kids] at mu
  rcases List.mem_cons.mp mu with rfl | mu
  · exact hl
  · obtain ⟨k, mk, mu⟩ := List.mem_flatMap.mp mu
    exact h k mk u mu
/-- what must be put has one of three names -/
def nm3 : List Str := [Str.ofString "S", Str.ofString "S1", Str.ofString "S2"]
def wtk : Option (Str × Bool) → Bool
  | some (n, c) => decide (n ∈ nm3) || (!c && decide (n = Str.ofString "Z"))
  | none => true
def sg3 : List Str := [Str.ofString "a", Str.ofString "b", Str.ofString "ab"]
def WnB : Tr → Bool
  | .hole n => decide (n ∈ nm3)
  | .knot n tk _ => decide (n ∈ nm3) && wtk tk
  | .foot n => decide (n ∈ nm3)
  | .sign s => decide (s ∈ sg3)
  | .void => true
def Wn (t : Tr) : Prop := ∀ u ∈ t.pieces, WnB u = true
theorem Wn.knot {n : Str} {tk : Option (Str × Bool)} {ks : List Tr} (h : (decide (n ∈ nm3) && wtk tk) = true) (hk : ∀ k ∈ ks, Wn k) : Wn (.knot n tk ks) := fun u mu => by
  rw [pieces_kids] at mu
  rcases List.mem_cons.mp mu with rfl | mu
  · exact h
  · obtain ⟨k, mk, mu⟩ := List.mem_flatMap.mp mu
    exact hk k mk u mu
theorem Wn.kid {t k : Tr} (h : Wn t) (m : k ∈ t.kids) : Wn k := fun u mu => h u (by
  rw [pieces_kids]
  exact List.mem_cons_of_mem _ (List.mem_flatMap.mpr ⟨k, m, mu⟩))
theorem Wn.self {t : Tr} (h : Wn t) : WnB t = true := h t (by rw [pieces_kids]; simp)
theorem Wn.one {t : Tr} (h : t.kids = []) (hw : WnB t = true) : Wn t := fun u mu => by
  rw [pieces_kids, h] at mu
  simp at mu
  subst mu
  exact hw
theorem n3 (c : Int) : ∃ z : Str, pick [PyData.str (Str.ofString "S"), .str (Str.ofString "S1"), .str (Str.ofString "S2")] (c % 3) = .str z ∧ nameB z = true ∧ decide (z ∈ nm3) = true :=
  pick3 (P := fun d => ∃ z : Str, d = .str z ∧ nameB z = true ∧ decide (z ∈ nm3) = true) c ⟨_, rfl, by decide +kernel, by decide +kernel⟩ ⟨_, rfl, by decide +kernel, by decide +kernel⟩ ⟨_, rfl, by decide +kernel, by decide +kernel⟩
/-- a start or a graft that is drawn -/
structure TreeOk (h : Nat) (t : Tr) : Prop where
  ok : t.ok = true
  kn : t.isKnot = true
  feet : t.feet.length ≤ 1
  ht : t.ht ≤ h
  sz : t.pieces.length ≤ 50
  s4 : t.pieces.length ≤ 40 + 2 * h
  sg : 1 ≤ t.signs.length
  wn : Wn t
def baseK : List Str := [Str.ofString "s", Str.ofString "g", Str.ofString "x0", Str.ofString "h1", Str.ofString "keytree", Str.ofString "graftofaone"]
def moreK : List Str := [Str.ofString "p", Str.ofString "qq", Str.ofString "r2", Str.ofString "tall", Str.ofString "u"]
theorem allK_ok : ∀ k ∈ baseK ++ moreK, keyB k = true := by decide +kernel
/-- the six trees that stand in each book -/
structure Base (ts : List (Str × Tr)) : Prop where
  st : ∀ n ∈ [Str.ofString "S", Str.ofString "S1", Str.ofString "S2"], ∃ p ∈ ts, p.1 ∈ baseK ∧ p.2.isGraft = false ∧ p.2.name = n
  gr : ∀ n ∈ [Str.ofString "S", Str.ofString "S1", Str.ofString "S2"], ∃ p ∈ ts, p.1 ∈ baseK ∧ p.2.isGraft = true ∧ p.2.name = n
/-- nothing can be put in -/
def noW : Tr → Bool
  | .hole _ => false
  | .knot _ (some _) _ => false
  | _ => true
def NoW (t : Tr) : Prop := ∀ u ∈ t.pieces, noW u = true
/-- .. and the tree is low -/
structure NoWh (m : Nat) (t : Tr) : Prop where
  w : NoW t
  h : t.ht ≤ 3
  h1 : t.ht ≤ max 1 (m - 2)
structure BookOk (h : Nat) (b : Bk) : Prop where
  top : nameB b.top = true
  len : b.trees.length ≤ 11
  pos : 6 ≤ b.trees.length
  nd : (b.trees.map (·.1)).Nodup
  keys : ∀ p ∈ b.trees, p.1 ∈ baseK ++ moreK
  trees : ∀ p ∈ b.trees, TreeOk h p.2
  base : Base b.trees
  bs : ∀ p ∈ b.trees, p.1 ∈ baseK → NoWh h p.2
end GM
namespace GM
open PySem L2 GS
/-- piece_at(tree, place); slots 0:tree 1:place 2:found 3:number 4:kids -/
def m_piece_at_2_b1 (F_NoPlace F_kids_of : FF) : SF := (sKill [3, 4] (sSeq (sSet 4 (eCall 1 none F_kids_of (aCons (eMv 2) aNil))) (sSeq (sIf (eNot (eB (eChain (ltI fun i j => decide (i ≤ j)) (ltI fun i j => decide (i < j)) (eC (.int 0)) (eVb 3) (eCB (un1 lenD) (aCons (eVb 4) aNil))))) (sRaise F_NoPlace "NoPlace" ["place"] (aCons (eMv 1) aNil)) sNil) (sSet 2 (eBin ixA (eVb 4) (eVb 3))))))
def m_piece_at_2 (F_NoPlace F_kids_of : FF) : SF := (sSeq (sSet 2 (eMv 0)) (sSeq (sFor (iSq (eMv 1)) (gN 3) (m_piece_at_2_b1 F_NoPlace F_kids_of)) (sEnd (sRet (eRv 2)))))
theorem m_piece_at_2_eq (F_NoPlace F_kids_of : FF) (ρ : Rho) : fnF 5 2 (m_piece_at_2 F_NoPlace F_kids_of) ρ = finR 2 (m_piece_at_2 F_NoPlace F_kids_of (ρ ++ [none, none, none])) := fnF_eq 5 2 _
/-- signs_of(tree); slots 0:tree 1:found 2:kid -/
def m_signs_of_b1 (F_kids_of F_signs_of : FF) : SF := (sKill [2] (sSet 1 (eBin addD (eVb 1) (eCall 1 none F_signs_of (aCons (eMv 2) aNil)))))
def m_signs_of (F_kids_of F_signs_of : FF) : SF := (sSeq (sIf (eB (eBin (eqB false) (eBin ixA (eVb 0) (eC (.int 0))) (eC (.str (Str.ofString "sign"))))) (sEnd (sRet (eTup (aCons (eBin ixA (eVb 0) (eC (.int 1))) aNil)))) sNil) (sSeq (sSet 1 (eTup aNil)) (sSeq (sFor (iSq (eCall 1 none F_kids_of (aCons (eMv 0) aNil))) (gN 2) (m_signs_of_b1 F_kids_of F_signs_of)) (sEnd (sRet (eRv 1))))))
theorem m_signs_of_eq (F_kids_of F_signs_of : FF) (ρ : Rho) : fnF 3 1 (m_signs_of F_kids_of F_signs_of) ρ = finR 1 (m_signs_of F_kids_of F_signs_of (ρ ++ [none, none])) := fnF_eq 3 1 _
end GM
namespace GM
open PySem L2 GS
theorem map_int_mid {p : List Nat} {pre post : List D} {d : D} (hd : (p.map fun n : Nat => PyData.int (n : Int)) = pre ++ d :: post) : ∃ k, p[pre.length]? = some k ∧ d = .int (k : Int) := by
  have h2 : (p.map fun n : Nat => PyData.int (n : Int))[pre.length]? = some d := by rw [hd, List.getElem?_append_right (Nat.le_refl _), Nat.sub_self]; rfl
  rw [List.getElem?_map] at h2
  obtain ⟨k, h3, h4⟩ := Option.map_eq_some_iff.mp h2
  exact ⟨k, h3, h4.symm⟩
theorem piece_at_2_ok {Fx Fk : FF} (hk : KidsSp Fk) : PieceSp (fnF 5 2 (m_piece_at_2 Fx Fk)) := fun t p u hu => by
  rw [m_piece_at_2_eq]
  obtain ⟨v, hf, hv⟩ := forL_by (S := Tr) (g := gN 3) (b := m_piece_at_2_b1 Fx Fk) (fun v => [some ⟨t.enc, .sh⟩, some ⟨encP p, .sh⟩, some ⟨v.enc, .sh⟩, none, none])
    (fun pre v => t.at (p.take pre.length) = some v) (p.map fun n : Nat => PyData.int (n : Int)) t (by simp [Tr.at]) (fun pre d post v hd hv => by
      obtain ⟨k, hk1, rfl⟩ := map_int_mid hd
      have htk : p.take (pre.length + 1) = p.take pre.length ++ [k] := by rw [List.take_succ, hk1]; rfl
      obtain ⟨w, hw⟩ := at_pre (t := t) (p := p.take (pre.length + 1)) (q := p.drop (pre.length + 1)) (u := u) (by rw [List.take_append_drop]; exact hu)
      have hw2 := hw
      rw [htk, at_snoc, hv] at hw2
      simp only [Option.bind_some] at hw2
      have hlt : k < v.kids.length := (List.getElem?_eq_some_iff.mp hw2).1
      have ea : L2.atI (v.kids.map Tr.enc) (k : Int) = some w.enc := by
        rw [atI_nat (xs := v.kids.map Tr.enc) (j := k) (v := w.enc) (by rw [List.getElem?_map, hw2]; rfl)]
      refine ⟨w, ?_, by rw [List.length_append, List.length_singleton]; exact hw⟩
      simp [m_piece_at_2_b1, hk v, hlt, ea])
  rw [List.length_map, List.take_length, hu] at hv
  cases hv
  have hf' : forL (gN 3) (m_piece_at_2_b1 Fx Fk) (p.map fun n : Nat => PyData.int (n : Int)) [some ⟨t.enc, .sh⟩, some ⟨encP p, .sh⟩, some ⟨t.enc, .sh⟩, none, none] = .nx [some ⟨t.enc, .sh⟩, some ⟨encP p, .sh⟩, some ⟨u.enc, .sh⟩, none, none] := hf
  simp only [encP] at hf' ⊢
  simp [m_piece_at_2, hf']
def SignsSp (n : Nat) (F : FF) : Prop := ∀ t : Tr, t.ht ≤ n → t.pieces.length ≤ 100000 → F [some ⟨t.enc, .sh⟩] = .ok (.sh (.tuple (t.signs.map .str))) [none]
theorem signs_le (t : Tr) : t.signs.length ≤ t.pieces.length := by unfold Tr.signs; exact List.length_filterMap_le _ _
theorem signs_kids (t : Tr) (h : t.signN = none) : t.signs = t.kids.flatMap Tr.signs := by
  cases t with
  | knot n tk ks => exact signs_knot n tk ks
  | sign s => cases h
  | void => rfl
  | hole n => rfl
  | foot n => rfl
theorem signs_of_ok {n : Nat} {Fk Fs : FF} (hk : KidsSp Fk) (hs : ∀ m, m + 1 = n → SignsSp m Fs) : SignsSp n (fnF 3 1 (m_signs_of Fk Fs)) := fun t hh hz => by
  rw [m_signs_of_eq]
  have key : t.signN = none → forL (gN 2) (m_signs_of_b1 Fk Fs) (t.kids.map Tr.enc) [some ⟨t.enc, .sh⟩, some ⟨.tuple [], .sh⟩, none] = .nx [some ⟨t.enc, .sh⟩, some ⟨.tuple (t.signs.map .str), .sh⟩, none] := fun h => by
    obtain ⟨acc, hf, ha⟩ := forL_by (S := List Str) (g := gN 2) (b := m_signs_of_b1 Fk Fs) (fun acc => [some ⟨t.enc, .sh⟩, some ⟨.tuple (acc.map .str), .sh⟩, none])
      (fun pre acc => acc = (t.kids.take pre.length).flatMap Tr.signs) (t.kids.map Tr.enc) [] (by simp) (fun pre d post acc hd ha => by
        obtain ⟨k, hk1, rfl⟩ := map_mid hd
        have mk : k ∈ t.kids := List.mem_of_getElem? hk1
        have hkh := ht_kids mk
        obtain ⟨n', rfl⟩ : ∃ n', n = n' + 1 := ⟨n - 1, by omega⟩
        have e := hs n' rfl k (by omega) (Nat.le_trans (pieces_kid_le mk) hz)
        have htk : t.kids.take (pre.length + 1) = t.kids.take pre.length ++ [k] := by rw [List.take_succ, hk1]; rfl
        have hac : ((t.kids.take (pre.length + 1)).flatMap Tr.signs).length ≤ t.signs.length := by
          rw [signs_kids t h]
          have : t.kids.flatMap Tr.signs = (t.kids.take (pre.length + 1)).flatMap Tr.signs ++ (t.kids.drop (pre.length + 1)).flatMap Tr.signs := by rw [← List.flatMap_append, List.take_append_drop]
          rw [this, List.length_append]; omega
        have hsl := signs_le t
        rw [htk, List.flatMap_append, List.length_append] at hac
        simp only [List.flatMap_cons, List.flatMap_nil, List.append_nil] at hac
        have z : acc.length + k.signs.length ≤ sizeLine := fits (by rw [ha]; omega)
        refine ⟨acc ++ k.signs, ?_, by rw [List.length_append, List.length_singleton, htk, List.flatMap_append, ha]; simp⟩
        simp [m_signs_of_b1, e, z])
    rw [List.length_map, List.take_length, ← signs_kids t h] at ha
    subst ha
    exact hf
  cases t with
  | sign s => simp [m_signs_of, Tr.enc, Tr.signs, Tr.pieces, Tr.signN]
  | knot nm tk ks =>
    have e := hk (.knot nm tk ks)
    have k1 := key rfl
    simp only [Tr.enc] at e k1 ⊢
    simp [m_signs_of, e, k1]
  | void =>
    have e := hk .void
    have k1 := key rfl
    simp only [Tr.enc] at e k1 ⊢
    simp [m_signs_of, e, k1]
  | hole nm =>
    have e := hk (.hole nm)
    have k1 := key rfl
    simp only [Tr.enc] at e k1 ⊢
    simp [m_signs_of, e, k1]
  | foot nm =>
    have e := hk (.foot nm)
    have k1 := key rfl
    simp only [Tr.enc] at e k1 ⊢
    simp [m_signs_of, e, k1]
def Tr.deep (t : Tr) : Bool := t.places.any fun p => decide (12 ≤ p.length)
def am (t : Tr) : Option Str := if t.isKnot = false then some (Str.ofString "knot") else if 1 < t.feet.length then some (Str.ofString "feet") else if t.signs = [] then some (Str.ofString "sign")
  else if 60 < t.places.length ∨ t.deep = true then some (Str.ofString "great") else none
structure PairOk (n : Nat) (p : Str × Tr) : Prop where
  ok : p.2.ok = true
  ht : p.2.ht ≤ n
  sz : p.2.pieces.length ≤ 100000
  kl : p.1.length ≤ 1000000
end GM
namespace GM
open PySem L2 GS
end GM
namespace GM
open PySem L2 GS
section
variable {n : Nat} {Fm Fr Fn Fx : FF}
end
structure BookW (n : Nat) (b : Bk) : Prop where
  len : b.trees.length ≤ 1000
  top : b.top.length ≤ 1000
  all : ∀ p ∈ b.trees, p.2.ok = true ∧ p.2.ht ≤ n ∧ p.2.pieces.length ≤ 5000 ∧ p.1.length ≤ 1000
end GM
namespace GM
open PySem L2 GS
/-- a book that is well -/
structure BkW (h : Nat) (b : Bk) : Prop where
  top : nameB b.top = true
  pos : 1 ≤ b.trees.length
  len : b.trees.length ≤ 400
  nd : (b.trees.map (·.1)).Nodup
  keys : ∀ p ∈ b.trees, keyB p.1 = true
  trees : ∀ p ∈ b.trees, TreeOk h p.2
theorem BookOk.w {h : Nat} {b : Bk} (B : BookOk h b) : BkW h b := ⟨B.top, by have := B.pos; omega, by have := B.len; omega, B.nd, fun p m => allK_ok _ (B.keys p m), B.trees⟩
theorem am_none {h : Nat} {t : Tr} (T : TreeOk h t) (hh : h ≤ 11) : am t = none := by
  unfold am
  have h1 := T.feet
  have h2 : t.signs ≠ [] := fun e => by have := T.sg; rw [e] at this; simp at this
  have h3 : t.deep = false := by
    unfold Tr.deep
    rw [Bool.eq_false_iff]
    intro q
    obtain ⟨p, mp, hp⟩ := List.any_eq_true.mp q
    have := place_len t p mp
    have := T.ht
    rw [decide_eq_true_eq] at hp
    omega
  rw [if_neg (by rw [T.kn]; simp), if_neg (by omega), if_neg h2, if_neg (by rw [places_len, h3]; have := T.sz; simp; omega)]
theorem BkW.bw {h : Nat} {b : Bk} (B : BkW h b) : BookW h b := ⟨by have := B.len; omega, by have := nameB_len B.top; omega, fun p m => ⟨(B.trees p m).ok, (B.trees p m).ht, by have := (B.trees p m).sz; omega, by have := keyB_len (B.keys p m); omega⟩⟩
theorem BkW.pair {h : Nat} {b : Bk} (B : BkW h b) : ∀ p ∈ b.trees, PairOk h p := fun p m => ⟨(B.trees p m).ok, (B.trees p m).ht, by have := (B.trees p m).sz; omega, by have := keyB_len (B.keys p m); omega⟩
theorem BkW.known {h : Nat} {b : Bk} (B : BkW h b) (hh : h ≤ 11) : (nameB b.top && decide (1 ≤ b.trees.length) && decide (b.trees.length ≤ 400) && (b.trees.all fun p => keyB p.1 && (am p.2).isNone) && decide (b.trees.map (·.1)).Nodup) = true := by
  have h1 : (b.trees.all fun p => keyB p.1 && (am p.2).isNone) = true := List.all_eq_true.mpr fun p m => by rw [B.keys p m, am_none (B.trees p m) hh]; rfl
  simp [B.top, B.pos, B.len, B.nd, h1]
end GM
namespace GM
open PySem L2 GS
end GM
namespace GM
open PySem L2 GS
end GM
namespace GM
open PySem L2 GS
end GM
namespace GM
open PySem L2 GS
section
variable {n : Nat} {Fn Fr Fs : FF}
end
end GM
namespace GM
open PySem L2 GS
mutual
def Tr.pps (q : List Nat) : Tr → List (List Nat × Tr)
  | .knot n tk ks => (q, .knot n tk ks) :: Tr.ppsL q 0 ks
  | .sign s => [(q, .sign s)]
  | .void => [(q, .void)]
  | .hole s => [(q, .hole s)]
  | .foot s => [(q, .foot s)]
def Tr.ppsL (q : List Nat) (k : Nat) : List Tr → List (List Nat × Tr)
  | [] => []
  | t :: ts => Tr.pps (q ++ [k]) t ++ Tr.ppsL q (k + 1) ts
end
mutual
theorem pps_snd : ∀ (t : Tr) (q : List Nat), (t.pps q).map (·.2) = t.pieces
  | .knot n tk ks, q => by rw [Tr.pps, Tr.pieces, List.map_cons, ppsL_snd ks q 0]
  | .sign s, q => by rw [Tr.pps, Tr.pieces]; rfl; intros; simp_all
  | .void, q => by rw [Tr.pps, Tr.pieces]; rfl; intros; simp_all
  | .hole s, q => by rw [Tr.pps, Tr.pieces]; rfl; intros; simp_all
  | .foot s, q => by rw [Tr.pps, Tr.pieces]; rfl; intros; simp_all
theorem ppsL_snd : ∀ (ts : List Tr) (q : List Nat) (k : Nat), (Tr.ppsL q k ts).map (·.2) = Tr.piecesL ts
  | [], q, k => rfl
  | t :: ts, q, k => by rw [Tr.ppsL, Tr.piecesL, List.map_append, pps_snd t, ppsL_snd ts]
end
mutual
theorem pps_fst : ∀ (t : Tr) (q : List Nat), (t.pps q).map (·.1) = t.places.map (q ++ ·)
  | .knot n tk ks, q => by rw [Tr.pps, places_kids, List.map_cons, List.map_cons, ppsL_fst ks q 0]; simp [Tr.kids]
  | .sign s, q => by rw [Tr.pps, places_kids]; simp [Tr.kids, Tr.placesL]
  | .void, q => by rw [Tr.pps, places_kids]; simp [Tr.kids, Tr.placesL]
  | .hole s, q => by rw [Tr.pps, places_kids]; simp [Tr.kids, Tr.placesL]
  | .foot s, q => by rw [Tr.pps, places_kids]; simp [Tr.kids, Tr.placesL]
theorem ppsL_fst : ∀ (ts : List Tr) (q : List Nat) (k : Nat), (Tr.ppsL q k ts).map (·.1) = (Tr.placesL k ts).map (q ++ ·)
  | [], q, k => rfl
  | t :: ts, q, k => by
    rw [Tr.ppsL, Tr.placesL, List.map_append, List.map_append, pps_fst t, ppsL_fst ts, List.map_map]
    congr 1
    refine List.map_congr_left fun p _ => ?_
    simp
end
theorem pps_len (t : Tr) (q : List Nat) : (t.pps q).length = t.pieces.length := by rw [← pps_snd t q, List.length_map]
end GM
namespace GM
open PySem L2 GS
end GM
namespace GM
open PySem L2 GS
def fl1 (x : Xc) : D := (x.fs.head?.map (·.2)).getD .none
def fl2 (x : Xc) : D := ((x.fs.drop 1).head?.map (·.2)).getD .none
def xd (x : Xc) : D := if x.cls = "NoRow" then .tuple [.str (Str.ofString "row"), fl1 x] else if x.cls = "NoKey" then .tuple [.str (Str.ofString "key"), fl1 x] else if x.cls = "Twice" then .tuple [.str (Str.ofString "twice"), fl1 x] else .tuple [.str (Str.ofString "tree"), fl2 x, fl1 x]
section
variable {n : Nat} {Fa Fk Fr Fn : FF}
end
end GM
namespace GM
open PySem L2 GS
end GM
namespace GM
open PySem L2 GS
end GM
namespace GM
open PySem L2 GS
end GM
namespace GM
open PySem L2 GS
abbrev OP : Str := Str.ofString "("
abbrev CL : Str := Str.ofString ")"
abbrev Rd := Except Nat (Str × List D × Nat)
section
variable {n : Nat} {Fw Ft Fx Fp Fk : FF}
end
section
variable {n : Nat} {Fd Fp Fk : FF}
end
end GM
namespace GM
open PySem L2 GS
end GM
namespace GS
open PySem L2
@[simp] theorem atI_last2 {α : Type} (xs : List α) (x : α) : atI (xs ++ [x]) (-1) = some x := by
  unfold L2.atI ixN
  have h1 : ¬ (0 : Int) ≤ -1 := by omega
  have h2 : -((xs ++ [x]).length : Int) ≤ -1 := by rw [List.length_append, List.length_singleton]; omega
  rw [if_neg h1, if_pos h2]
  have h3 : ((-1 : Int) + ((xs ++ [x]).length : Int)).toNat = xs.length := by rw [List.length_append, List.length_singleton]; omega
  rw [h3]
  simp
theorem sub_sum {l m : List Nat} (h : l.Sublist m) : l.sum ≤ m.sum := by
  induction h with
  | slnil => simp
  | cons a _ ih => rw [List.sum_cons]; omega
  | cons_cons a _ ih => rw [List.sum_cons, List.sum_cons]; omega
end GS
namespace GM
open PySem L2 GS
structure Wd (b : Nat) (w : Str) : Prop where
  len : w.length ≤ b
  chr : ∀ c ∈ w.cps.toList, c < 128
  one : w.cps.toList.count 40 ≤ 1
structure Ws (b k m : Nat) (ws : List Str) : Prop where
  all : ∀ w ∈ ws, Wd b w
  cnt : (ws.map fun w => w.cps.toList.count 40).sum ≤ k
  num : ws.length ≤ m
theorem Wd.up {b b' : Nat} {w : Str} (h : Wd b w) (l : b ≤ b') : Wd b' w := ⟨by have := h.len; omega, h.chr, h.one⟩
theorem Ws.up {b b' k k' m m' : Nat} {ws : List Str} (h : Ws b k m ws) (l : b ≤ b') (l2 : k ≤ k') (l3 : m ≤ m') : Ws b' k' m' ws := ⟨fun w q => (h.all w q).up l, Nat.le_trans h.cnt l2, Nat.le_trans h.num l3⟩
theorem Ws.app {b k k' m m' : Nat} {ws vs : List Str} (h : Ws b k m ws) (h' : Ws b k' m' vs) : Ws b (k + k') (m + m') (ws ++ vs) :=
  ⟨fun w q => (List.mem_append.mp q).elim (h.all w) (h'.all w), by rw [List.map_append, List.sum_append]; exact Nat.add_le_add h.cnt h'.cnt, by rw [List.length_append]; exact Nat.add_le_add h.num h'.num⟩
theorem Ws.one {b : Nat} {w : Str} (h : Wd b w) : Ws b 1 1 [w] := ⟨fun v q => by simp at q; subst q; exact h, by simpa using h.one, by simp⟩
theorem Ws.zero {b : Nat} {w : Str} (h : Wd b w) (z : w.cps.toList.count 40 = 0) : Ws b 0 1 [w] := ⟨fun v q => by simp at q; subst q; exact h, by rw [List.map_singleton, z]; simp, by simp⟩
theorem Ws.sub {b k m : Nat} {ws vs : List Str} (h : Ws b k m ws) (s : vs.Sublist ws) : Ws b k m vs :=
  ⟨fun w q => h.all w (s.subset q), Nat.le_trans (sub_sum (s.map _)) h.cnt, Nat.le_trans s.length_le h.num⟩
theorem str8 (x : Int) : ∃ f, strD (.int (x % 8)) = some (.sh (.str f)) ∧ f ∈ figs := by
  have h : x % 8 = 0 ∨ x % 8 = 1 ∨ x % 8 = 2 ∨ x % 8 = 3 ∨ x % 8 = 4 ∨ x % 8 = 5 ∨ x % 8 = 6 ∨ x % 8 = 7 := by omega
  rcases h with h | h | h | h | h | h | h | h <;> rw [h]
  · exact ⟨_, rfl, by decide +kernel⟩
  · exact ⟨_, rfl, by decide +kernel⟩
  · exact ⟨_, rfl, by decide +kernel⟩
  · exact ⟨_, rfl, by decide +kernel⟩
  · exact ⟨_, rfl, by decide +kernel⟩
  · exact ⟨_, rfl, by decide +kernel⟩
  · exact ⟨_, rfl, by decide +kernel⟩
  · exact ⟨_, rfl, by decide +kernel⟩
noncomputable def s8 (x : Int) : Str := (str8 x).choose
end GM
namespace GM
open PySem L2 GS
end GM
namespace GS
open PySem L2
@[simp] theorem atI_last {α : Type} (xs : List α) (x : α) : atI (xs ++ [x]) (-1) = some x := by
  unfold L2.atI ixN
  have h1 : ¬ (0 : Int) ≤ -1 := by omega
  have h2 : -((xs ++ [x]).length : Int) ≤ -1 := by rw [List.length_append, List.length_singleton]; omega
  rw [if_neg h1, if_pos h2]
  have h3 : ((-1 : Int) + ((xs ++ [x]).length : Int)).toNat = xs.length := by rw [List.length_append, List.length_singleton]; omega
  rw [h3]
  simp
end GS
namespace GM
open PySem L2 GS
/-- all trees that can be asked -/
theorem BookOk.bk {h : Nat} {b : Bk} (B : BookOk h b) : BkOk h b :=
  ⟨by have := B.len; omega, fun p m => (B.trees p m).ht, fun p m => by have := (B.trees p m).sz; omega, fun p m e => by have := (B.trees p m).kn; rw [e] at this; cases this⟩
theorem TreeOk.graft {h : Nat} {t : Tr} (o : TreeOk h t) : t.isGraft = decide (0 < t.feet.length) ∧ L2.atI (t.feet.map PyData.str ++ [.str t.word]) 0 = some (.str t.name) := by
  have := o.feet
  unfold Tr.isGraft Tr.name
  cases hq : t.feet with
  | nil => simp
  | cons a r =>
    rw [hq] at this
    cases r with
    | nil => simp
    | cons b r => simp at this
end GM
namespace GS
open PySem L2 PySem.Spec PyProof.Rows
section
variable {X : Cx} {C : Ct} {e : Expr} {es : List Expr} {ta : TA} {fa : AF} {te : TE} {fe : EF} {p pos : Pos} {x : Str} {fns : List Str}
end
end GS
namespace GS
open PySem L2
section
variable {ρ : Rho}
end
end GS
namespace GS
open PySem L2
section
variable {ρ : Rho}
theorem slot_one (c : Option Cel) (x : Cel) (outs : Rho) : slot (c :: some x :: outs) 1 = some x := rfl
@[simp] theorem backR_io1 (i : Nat) (h0 : Hd) (hs : List Hd) (d : D) (d' : D) (fl : Fl) (c0 : Option Cel) (outs : Rho) : backR ρ (some 1) (h0 :: .bw i :: hs) (.ok (.sh d) (c0 :: some ⟨d', fl⟩ :: outs)) = match slot ρ i with
    | some c => .ok (.sh d) (ρ.set i (some ⟨d', c.fl⟩))
    | none => .stuck := by
  unfold backR
  dsimp only
  rw [putB_bw i 1 _ _ rfl, slot_one]
  cases slot ρ i <;> rfl
@[simp] theorem backR_io1x (i : Nat) (h0 : Hd) (hs : List Hd) (x : Xc) (d' : D) (fl : Fl) (c0 : Option Cel) (outs : Rho) : backR ρ (some 1) (h0 :: .bw i :: hs) (.exc x (c0 :: some ⟨d', fl⟩ :: outs)) = match slot ρ i with
    | some c => .exc x (ρ.set i (some ⟨d', c.fl⟩))
    | none => .stuck := by
  unfold backR
  dsimp only
  rw [putB_bw i 1 _ _ rfl, slot_one]
  cases slot ρ i <;> rfl
@[simp] theorem backR_io0x (i : Nat) (hs : List Hd) (x : Xc) (d' : D) (fl : Fl) (outs : Rho) : backR ρ (some 0) (.bw i :: hs) (.exc x (some ⟨d', fl⟩ :: outs)) = match slot ρ i with
    | some c => .exc x (ρ.set i (some ⟨d', c.fl⟩))
    | none => .stuck := by
  unfold backR
  dsimp only
  rw [putB_bw i 0 _ _ rfl, slot_zero]
  cases slot ρ i <;> rfl
end
end GS
namespace GS
open PySem L2 PySem.Spec PyProof.Rows
end GS
namespace GS
open PySem L2 PySem.Spec PyProof.Rows PySem.W PySem.Calls
/-- v is a tuple of these numbers -/
def IsTI (h : Heap) (v : Value) (ns : List Int) : Prop := ∃ (a : Addr) (its : List Value), v = .ref a ∧ h.IsTuple a its.toArray ∧ IntsAre its ns
theorem IsTI.keeps {h h' : Heap} {v : Value} {ns : List Int} (x : IsTI h v ns) (k : ∀ b o, v = .ref b → h.get? b = some o → h'.get? b = some o) : IsTI h' v ns := by
  obtain ⟨a, its, e, ⟨o, ho, hc, n, hd⟩, hi⟩ := x
  exact ⟨a, its, e, ⟨o, k a o e ho, hc, n, hd⟩, hi⟩
section
variable {M : Model} {A : Around} {E : Value → Shared → Prop} {s : Shared}
theorem IsTI.type {v : Value} {ns : List Int} (x : IsTI s.heap v ns) : Looks M s.heap (typeOf v) (.type "tuple") := by
  obtain ⟨a, its, rfl, ⟨o, ho, hc, n, hd⟩, hi⟩ := x
  rw [← hc]
  exact (Looks.ld ho).andThen .now
end
section
variable {prog : Program} {w : World} {A : Around} {E : Value → Shared → Prop} {s : Shared}
end
section
variable {prog : Program} {w : World} {A : Around} {E : Value → Shared → Prop} {s : Shared}
end
section
variable {X : Cx}
end
end GS
namespace GS
open PySem L2 PySem.Spec PyProof.Rows
def TI (K : PySem.W.Frag) (H : Hp) (x : V) (ns : List Int) : Prop := ∃ t, x = V.ref t ∧ SqT K H t (ns.map V.int)
section
variable {X : Cx}
end
section
variable {K : KW} {B H : Hp}
end
end GS
namespace GS
open PySem L2
end GS
namespace GM
open PySem L2 GS
end GM
namespace GM
open PySem L2 GS
end GM
namespace L2
open PySem PySem.W PySem.Calls PySem.Spec PyProof.Rows
/-- a list or a tuple of pairs at the addresses ps -/
def SeqAt2 (K : PySem.W.Frag) (H : Hp) (a : Addr) (ps : List Addr) : Prop := SqL K H a (ps.map V.ref) ∨ XT H a (ps.map V.ref)
def rDictX (K : PySem.W.Frag) (w : World) : List V → Hp → VK → Prop := fun xs H Q => ∃ (a : Addr) (ps : List Addr), xs = [.ref a] ∧ SeqAt2 K H a ps ∧
  ((∃ kvs : List (Key × V), Paired (fun p kv => XT H p [kV kv.1, kv.2]) ps kvs ∧ ∀ p ep ys us, H p = none → SOk ys → KV kvs us → pairK ys = merged [] us → Q (.ref p) (upd H p (dX w p ep (ys.map valK)))) ∨
   (∃ kvs : List (NestedKey × Addr × V), Paired (fun p y => XT H p [.ref y.2.1, y.2.2] ∧ NK H (.ref y.2.1) y.1 ∧ y.1.depth ≤ 8) ps kvs ∧ ∀ p ep zs, H p = none → Paired (fun y z => z.1 = y.1 ∧ z.2.1 = y.2.1 ∧ RelV y.2.2 z.2.2) kvs zs → Q (.ref p) (upd H p (dX w p ep ((storedAllH [] zs).map refK)))))
section
variable {X : Cx} {pins : List (Addr × Obj)} {σ : St} {H : Hp} {s : Shared}
theorem pairsS_of (J : Inv X pins σ H s) : ∀ {ps : List Addr} {kvs : List (Key × V)}, Paired (fun p kv => XT H p [kV kv.1, kv.2]) ps kvs →
    ∃ us : List (Key × Value × Value), KV kvs (pairK us) ∧ SOk us ∧ us.length = ps.length ∧ ∀ (j : Nat) (y : Key × Value × Value), us[j]? = some y → ∃ b, ps[j]? = some b ∧ s.heap.IsTuple b #[y.2.1, y.2.2]
  | _, _, .nil => ⟨[], .nil, (fun _ m => by cases m), rfl, fun j y e => by simp at e⟩
  | _, _, .cons (a := p) (b := kv) h t => by
    obtain ⟨us, r, so, hl, hp⟩ := pairsS_of J t
    obtain ⟨ws, rv, ht, _⟩ := J.tuple h.sq
    obtain ⟨u1, u2, rfl, r1, r2⟩ := vals2 rv
    have k1 : keyIs kv.1 u1 = true := kV_is (P := X.prog) (w := X.w) r1
    refine ⟨(kv.1, u1, u2) :: us, .cons ⟨rfl, r2⟩ r, fun y m => ?_, by simp [hl], fun j y e => ?_⟩
    · cases m with
      | head => exact k1
      | tail _ m => exact so y m
    · cases j with
      | zero => cases (Option.some.inj e); exact ⟨p, rfl, ht⟩
      | succ j =>
        obtain ⟨b, e1, e2⟩ := hp j y (by simpa using e)
        exact ⟨b, by simpa using e1, e2⟩
theorem pairsT_of (J : Inv X pins σ H s) : ∀ {ps : List Addr} {kvs : List (NestedKey × Addr × V)}, Paired (fun p y => XT H p [.ref y.2.1, y.2.2] ∧ NK H (.ref y.2.1) y.1 ∧ y.1.depth ≤ 8) ps kvs →
    ∃ zs : List (NestedKey × Addr × Value), Paired (fun y z => z.1 = y.1 ∧ z.2.1 = y.2.1 ∧ RelV y.2.2 z.2.2) kvs zs ∧ KOk H zs ∧ zs.length = ps.length ∧ ∀ (j : Nat) (z : NestedKey × Addr × Value), zs[j]? = some z → ∃ b, ps[j]? = some b ∧ s.heap.IsTuple b #[.ref z.2.1, z.2.2]
  | _, _, .nil => ⟨[], .nil, (fun _ m => by cases m), rfl, fun j y e => by simp at e⟩
  | _, _, .cons (a := p) (b := y) h t => by
    obtain ⟨zs, r, so, hl, hp⟩ := pairsT_of J t
    obtain ⟨h, hk⟩ := h
    obtain ⟨ws, rv, ht, _⟩ := J.tuple h.sq
    obtain ⟨u1, u2, rfl, r1, r2⟩ := vals2 rv
    cases r1
    refine ⟨(y.1, y.2.1, u2) :: zs, .cons ⟨rfl, rfl, r2⟩ r, fun y m => ?_, by simp [hl], fun j y e => ?_⟩
    · cases m with
      | head => exact hk
      | tail _ m => exact so y m
    · cases j with
      | zero => cases (Option.some.inj e); exact ⟨p, rfl, ht⟩
      | succ j =>
        obtain ⟨b, e1, e2⟩ := hp j y (by simpa using e)
        exact ⟨b, by simpa using e1, e2⟩
/-- the argument, as the library asks for it -/
theorem arg_of (J : Inv X pins σ H s) {a : Addr} {ps : List Addr} (h : SeqAt2 X.K H a ps) (prs : List (Value × Value)) (hl : prs.length = ps.length) (hp : ∀ (j : Nat) (k v : Value), prs[j]? = some (k, v) → ∃ b, ps[j]? = some b ∧ s.heap.IsTuple b #[k, v]) :
    ps.length ≤ sizeLine ∧ ∃ (T : String) (fp : List Addr) (OK : Heap → Prop), PairArg X.prog X.w T a fp [] prs.length (PairRel prs) OK ∧ OK s.heap := by
  have pi : ∀ us : List Value, us = ps.map Value.ref → PairItems s.heap us.toArray (fun j => ps.getD j 0) prs := fun us e => by
    subst e
    refine ⟨by simp [hl], fun j k v q => ?_⟩
    obtain ⟨b, e1, e2⟩ := hp j k v q
    refine ⟨by simp [e1], .inl ?_⟩
    have eb : ps.getD j 0 = b := by simp [e1]
    show s.heap.IsTuple (ps.getD j 0) #[k, v]
    rw [eb]
    exact e2
  rcases h with h | h
  · obtain ⟨us, rv, pl, hz⟩ := J.list h
    have eu := refs_at rv
    rw [List.length_map] at hz
    obtain ⟨o, n, ho, hc, hd, hdat⟩ := pl
    exact ⟨hz, "list", _, _, PairArg.list a us.toArray _ prs, ⟨⟨o, n, ho, hc, hd, hdat⟩, pi us eu⟩⟩
  · obtain ⟨o, e, hd⟩ := h
    obtain ⟨e1, hz, us, rv, o', e2, c, n, dd⟩ := J.hok _ _ e
    rw [e1] at e2
    cases e2
    have eu := refs_at rv
    rw [List.length_map] at hz
    exact ⟨hz, "tuple", _, _, PairArg.tuple a us.toArray _ prs, ⟨⟨o, n, e1, c, hd, dd⟩, pi us eu⟩⟩
theorem storedAllH_len (zs : List (NestedKey × Addr × Value)) : ∀ acc : List (NestedKey × Addr × Value), (storedAllH acc zs).length ≤ acc.length + zs.length := by
  induction zs with
  | nil => intro acc; exact Nat.le_refl _
  | cons z zs ih =>
    intro acc
    have h1 := ih (storedH acc z.1 z.2.1 z.2.2)
    have h2 := storedH_len acc z.1 z.2.1 z.2.2
    rw [List.length_cons]
    show (storedAllH (storedH acc z.1 z.2.1 z.2.2) zs).length ≤ _
    omega
theorem merged_len (zs : List (Key × Value)) : ∀ acc : List (Key × Value), (merged acc zs).length ≤ acc.length + zs.length := by
  induction zs with
  | nil => intro acc; exact Nat.le_refl _
  | cons z zs ih =>
    intro acc
    have h1 := ih (stored acc z.1 z.2)
    have h2 := stored_len acc z.1 z.2
    rw [List.length_cons]
    show (merged (stored acc z.1 z.2) zs).length ≤ _
    omega
theorem call_dictX (hc : X.calm = true) (hu : X.A.units + 65 < cLine) : CallR X (.type "dict") (rDictX X.K X.w) := by
  rintro pins s σ H xs us Q J r ⟨a, ps, rfl, hs, h⟩
  obtain ⟨u, rfl, rx⟩ := vals1 r
  cases rx
  have big : (s.heap.objs.size == sysModules) = false := beq_eq_false_iff_ne.mpr (Nat.ne_of_gt J.big)
  have fr : H s.heap.objs.size = none := J.hok.fresh (Nat.le_refl _)
  rcases h with ⟨kvs, hp, q⟩ | ⟨kvs, hp, q⟩
  · obtain ⟨ys, r1, r2, r3, r4⟩ := pairsS_of J hp
    obtain ⟨hz, T, fp, OK, PA, ok⟩ := arg_of J hs (ys.map fun y => (y.2.1, y.2.2)) (by simp [r3]) fun j k v e => by
      rw [List.getElem?_map] at e
      obtain ⟨y, e1, e2⟩ := Option.map_eq_some_iff.mp e
      cases e2
      exact r4 j y e1
    refine PySem.call_dict_pairs (knd := mixKind X.prog X.w) (kvs := pairK ys) PA (J.ok.hd hc) ok ⟨by simp [pairK], fun i k v e => ?_⟩ (by simp [r3]; exact hz) fun h' tk hd' k => ?_
    · unfold PairRel at e
      rw [List.getElem?_map] at e
      obtain ⟨y, e1, e2⟩ := Option.map_eq_some_iff.mp e
      cases e2
      exact ⟨y.1, by simp [pairK, e1], r2 y (List.mem_of_getElem? e1)⟩
    · obtain ⟨ep, zs, z1, z2, oko⟩ := dX_okS hd' (by have := merged_len (pairK ys) []; simp [pairK] at this ⊢; omega) big
      exact ⟨.ref s.heap.objs.size, _, J.laid (t' := tk) (fun b o e => k b o (fun m => by cases m) e) (Nat.le_refl _) (oko _), rfl, q _ ep zs _ fr z1 r1 z2⟩
  · obtain ⟨zs, r1, r2, r3, r4⟩ := pairsT_of J hp
    obtain ⟨hz, T, fp, OK, PA, ok⟩ := arg_of J hs (zs.map fun z => (.ref z.2.1, z.2.2)) (by simp [r3]) fun j k v e => by
      rw [List.getElem?_map] at e
      obtain ⟨y, e1, e2⟩ := Option.map_eq_some_iff.mp e
      cases e2
      exact r4 j y e1
    refine call_dict_pairsH (knd := nestedKind X.prog X.w) (ps := zs) PA (J.ok.hd hc) (by show X.A.units + 1 + 1 + 8 < cLine; omega) ok ⟨by simp, fun i k v e => ?_⟩ (fun h' kp x m => ?_) (by simp [r3]; exact hz) fun h' tk hd' k => ?_
    · unfold PairRel at e
      rw [List.getElem?_map] at e
      obtain ⟨y, e1, e2⟩ := Option.map_eq_some_iff.mp e
      cases e2
      exact ⟨y.1, y.2.1, e1, rfl⟩
    · have k0 : (nestedKind X.prog X.w).is s.heap x.1 x.2.1 := ⟨(r2 x m).1.is J.hok rfl, (r2 x m).2⟩
      exact nestedKind_stays.stays (fun b o _ _ e _ => kp b o (Nat.ne_of_lt (Heap.lt_size e)) (fun m => by cases m) e) k0
    · obtain ⟨ep, oko⟩ := dX_okT hd' (by have := storedAllH_len zs []; simp at this; omega) big
      exact ⟨.ref s.heap.objs.size, _, J.laid (t' := tk) (fun b o e => k b o (fun m => by cases m) e) (Nat.le_refl _) (oko _), rfl, q _ ep zs fr r1⟩
end
end L2
namespace GS
open PySem L2
/-- pairs -/
def pairsD : List D → Option (List (D × D))
  | [] => some []
  | .tuple [k, v] :: ds => (pairsD ds).map fun ps => (k, v) :: ps
  | _ => none
/-- keys of one sort -/
def okPs (b : Bool) (ps : List (D × D)) : Bool := ps.all fun p => isK p.1 && (tupB p.1 == b)
def dictP (ds : List D) : Option Hd := (pairsD ds).bind fun ps => if okPs false ps || okPs true ps then some (.fr (.dict (dMerge ps))) else none
def dictD : D → Option Hd
  | .list ds => dictP ds
  | .tuple ds => dictP ds
  | _ => none
section
variable {K : KW} {ρ : Rho} {σ : St} {B H : Hp} {v x y : V} {Q : VK}
theorem pairs_rp : ∀ {vs : List V} {ds : List D} {ps : List (D × D)}, RpL K B vs ds → pairsD ds = some ps → ∃ as : List Addr, vs = as.map V.ref ∧ Paired (fun a p => ∃ k v, XT B a [k, v] ∧ Rp K B k p.1 ∧ Rp K B v p.2) as ps
  | _, [], _, .nil, e => by cases e; exact ⟨[], rfl, .nil⟩
  | _, d :: ds, ps, .cons h t, e => by
    match d, h, e with
    | .tuple [k, v], h, e =>
      obtain ⟨qs, e1, rfl⟩ := Option.map_eq_some_iff.mp (show (pairsD ds).map (fun ps => (k, v) :: ps) = some ps from e)
      obtain ⟨as, rfl, r⟩ := pairs_rp t e1
      cases h with
      | tup hx hr =>
        cases hr with
        | cons r1 hr =>
          cases hr with
          | cons r2 hr =>
            cases hr
            exact ⟨_ :: as, rfl, .cons ⟨_, _, hx, r1, r2⟩ r⟩
theorem pairs_S {H : Hp} (s : SameT B H) : ∀ {as : List Addr} {ps : List (D × D)}, Paired (fun a p => ∃ k v, XT B a [k, v] ∧ Rp K B k p.1 ∧ Rp K B v p.2) as ps → okPs false ps = true → ∃ kvs : List (Key × V), Paired (fun p kv => XT H p [kV kv.1, kv.2]) as kvs ∧ RpK K B kvs ps
  | _, _, .nil, _ => ⟨[], .nil, .nil⟩
  | _, _, .cons (b := p) h t, e => by
    unfold okPs at e
    rw [List.all_cons, Bool.and_eq_true] at e
    obtain ⟨kvs, q1, q2⟩ := pairs_S s t e.2
    obtain ⟨k, v, hx, r1, r2⟩ := h
    have e1 := e.1
    rw [Bool.and_eq_true] at e1
    obtain ⟨nk, hn⟩ := isK_key e1.1
    obtain ⟨kd, d⟩ := p
    obtain ⟨kk, rfl, e2, _⟩ := sk_of r1 hn (by simpa using e1.2)
    simp only at e2
    subst e2
    exact ⟨(kk, v) :: kvs, .cons (same_xT s hx) q1, .cons r2 q2⟩
theorem pairs_T {H : Hp} (s : SameT B H) : ∀ {as : List Addr} {ps : List (D × D)}, Paired (fun a p => ∃ k v, XT B a [k, v] ∧ Rp K B k p.1 ∧ Rp K B v p.2) as ps → okPs true ps = true → ∃ kvs : List (NestedKey × Addr × V),
    Paired (fun p y => XT H p [.ref y.2.1, y.2.2] ∧ NK H (.ref y.2.1) y.1 ∧ y.1.depth ≤ 8) as kvs ∧ Paired (fun y p => keyD p.1 = some y.1 ∧ tupB p.1 = true ∧ Rp K B (.ref y.2.1) p.1 ∧ Rp K B y.2.2 p.2) kvs ps
  | _, _, .nil, _ => ⟨[], .nil, .nil⟩
  | _, _, .cons (b := p) h t, e => by
    unfold okPs at e
    rw [List.all_cons, Bool.and_eq_true] at e
    obtain ⟨kvs, q1, q2⟩ := pairs_T s t e.2
    obtain ⟨k, v, hx, r1, r2⟩ := h
    have e1 := e.1
    rw [Bool.and_eq_true] at e1
    obtain ⟨nk, hn⟩ := isK_key e1.1
    have ht : tupB p.1 = true := by simpa using e1.2
    obtain ⟨b, rfl, k1, k2⟩ := tk_of s r1 hn ht
    exact ⟨(nk, b, v) :: kvs, .cons ⟨same_xT s hx, k1, k2⟩ q1, .cons ⟨hn, ht, r1, r2⟩ q2⟩
theorem rps_merge : ∀ {us : List (Key × Value)} {ps : List (D × D)}, RpS K B us ps → ∀ {u0 : List (Key × Value)} {p0 : List (D × D)}, RpS K B u0 p0 → RpS K B (merged u0 us) (ps.foldl (fun acc p => dPut acc p.1 p.2) p0)
  | _, _, .nil, _, _, h0 => h0
  | _, _, .cons (a := u) (b := p) h t, u0, p0, h0 => by
    obtain ⟨kd, d⟩ := p
    obtain ⟨e, v, r1, r2⟩ := h
    simp only at e
    subst e
    exact rps_merge t (rps_put r1 r2 h0)
theorem rpx_merge : ∀ {kvs : List (NestedKey × Addr × V)} {zs : List (NestedKey × Addr × Value)} {ps : List (D × D)}, Paired (fun y p => keyD p.1 = some y.1 ∧ tupB p.1 = true ∧ Rp K B (.ref y.2.1) p.1 ∧ Rp K B y.2.2 p.2) kvs ps → Paired (fun y z => z.1 = y.1 ∧ z.2.1 = y.2.1 ∧ RelV y.2.2 z.2.2) kvs zs →
    ∀ {z0 : List (NestedKey × Addr × Value)} {p0 : List (D × D)}, RpX K B true (z0.map refK) p0 → RpX K B true ((storedAllH z0 zs).map refK) (ps.foldl (fun acc p => dPut acc p.1 p.2) p0)
  | _, _, _, .nil, .nil, _, _, h0 => h0
  | _, _, _, .cons (a := y) (b := p) h t, .cons (b := z) q r, z0, p0, h0 => by
    obtain ⟨z1, z2, z3⟩ := z
    obtain ⟨e1, e2, e3⟩ := q
    simp only at e1 e2 e3
    subst e1 e2
    exact rpx_merge t r (rpx_put h.1 h.2.1 h.2.2.1 e3 h.2.2.2 h0)
/-- a new dict that nobody holds -/
theorem newD (S : Sim K ρ σ B H) {ps : List (D × D)} {p : Addr} {ep : Nat} {b : Bool} {xs : List (NestedKey × Value × Value)} (hp : H p = none) (h : RpX K B b xs ps) (k : ∀ v B' H', Sim K ρ σ B' H' → Ext ρ σ B H ρ σ B' H' → HdOk K (New ρ σ H) ρ σ B' H' v (.fr (.dict ps)) → Q v H') :
    Q (.ref p) (upd H p (dX K.w p ep xs)) := by
  obtain ⟨S', x⟩ := S.newH hp (dX K.w p ep xs)
  obtain ⟨bb, n⟩ := S.free hp
  exact k _ _ _ S' x ⟨p, rfl, bb, ⟨ep, b, xs, upd_same, h⟩, n, .inl hp⟩
theorem cl_dict : CalL K (rDictX K K.w) (un1 dictD) := CalL.one fun ρ σ B H x d h Q S t e k => by
  have main : ∀ {a : Addr} {vs : List V} {ds : List D}, RpL K B vs ds → dictP ds = some h → (∀ as, vs = as.map V.ref → SeqAt2 K H a as) → rDictX K K.w [.ref a] H Q := fun {a vs ds} ra e hs => by
    obtain ⟨ps, e1, e2⟩ := Option.bind_eq_some_iff.mp e
    obtain ⟨c, rfl⟩ := if_some e2
    obtain ⟨as, rfl, r⟩ := pairs_rp ra e1
    rw [Bool.or_eq_true] at c
    refine ⟨a, as, rfl, hs as rfl, ?_⟩
    rcases c with c | c
    · obtain ⟨kvs, q1, q2⟩ := pairs_S S.bh r c
      refine .inl ⟨kvs, q1, fun p ep ys us hp so kv e => ?_⟩
      exact newD S hp (rps_X so (by rw [e]; exact rps_merge (rpk_S q2 kv) .nil)) k
    · obtain ⟨kvs, q1, q2⟩ := pairs_T S.bh r c
      refine .inr ⟨kvs, q1, fun p ep zs hp kv => ?_⟩
      exact newD S hp (rpx_merge q2 kv (z0 := []) .nil) k
  cases d with
  | list ds =>
    obtain ⟨a, vs, rfl, ha, ra⟩ := t
    exact main ra e fun as q => by subst q; exact .inl ha
  | tuple ds =>
    obtain ⟨a, vs, rfl, ha, ra⟩ := Tp.tupX t
    exact main ra e fun as q => by subst q; exact .inr (same_xT S.bh ha)
  | _ => cases e
end
section
variable {X : Cx} {C : Ct} {pos : Pos}
end
end GS
namespace GM
open PySem L2 GS
end GM
namespace GM
open PySem L2 GS
/-- dict(book[1]) -/
def ktD (p : Str × Tr) : D × D := (.str p.1, p.2.enc)
def Bk.dict (b : Bk) : D := .dict (dMerge (b.trees.map ktD))
theorem pairsD_kt : ∀ ts : List (Str × Tr), pairsD (ts.map encKT) = some (ts.map ktD)
  | [] => rfl
  | t :: ts => by
    show (pairsD (ts.map encKT)).map (fun ps => (PyData.str t.1, t.2.enc) :: ps) = _
    rw [pairsD_kt ts]
    rfl
@[simp] theorem dict_book (b : Bk) : dictD (.tuple (b.trees.map encKT)) = some (.fr b.dict) := by
  show dictP (b.trees.map encKT) = _
  unfold dictP
  rw [pairsD_kt, Option.bind_some]
  have : okPs false (b.trees.map ktD) = true := by
    unfold okPs
    rw [List.all_map, List.all_eq_true]
    intro p _
    rfl
  rw [this, Bool.true_or]
  rfl
inductive Pl where
  | mk (key : Str) (puts : List (List Nat × Pl))
  deriving Inhabited
def Pl.key : Pl → Str
  | .mk k _ => k
def Pl.puts : Pl → List (List Nat × Pl)
  | .mk _ ps => ps
mutual
def Pl.enc : Pl → D
  | .mk k ps => .tuple [.str k, .tuple (Pl.encL ps)]
def Pl.encL : List (List Nat × Pl) → List D
  | [] => []
  | x :: r => Pl.encX x :: Pl.encL r
def Pl.encX : List Nat × Pl → D
  | (p, q) => .tuple [encP p, q.enc]
end
theorem pencL_map : ∀ ps : List (List Nat × Pl), Pl.encL ps = ps.map Pl.encX
  | [] => rfl
  | x :: r => by rw [Pl.encL, pencL_map r, List.map_cons]
theorem penc_eq (q : Pl) : q.enc = .tuple [.str q.key, .tuple (q.puts.map Pl.encX)] := by
  cases q with
  | mk k ps => rw [Pl.enc, pencL_map]; rfl
theorem pencX_eq (x : List Nat × Pl) : Pl.encX x = .tuple [encP x.1, x.2.enc] := by
  obtain ⟨p, q⟩ := x
  rw [Pl.encX]
mutual
/-- how many keys -/
def Pl.size : Pl → Nat
  | .mk _ ps => 1 + Pl.sizeL ps
def Pl.sizeL : List (List Nat × Pl) → Nat
  | [] => 0
  | x :: r => Pl.sizeX x + Pl.sizeL r
def Pl.sizeX : List Nat × Pl → Nat
  | (_, q) => q.size
end
mutual
/-- how many within one another -/
def Pl.dep : Pl → Nat
  | .mk _ ps => Pl.depL ps + 1
def Pl.depL : List (List Nat × Pl) → Nat
  | [] => 0
  | x :: r => max (Pl.depX x) (Pl.depL r)
def Pl.depX : List Nat × Pl → Nat
  | (_, q) => q.dep
end
def Tr.must (t : Tr) : Bool := match t.want with
  | some (_, _, b) => b
  | none => false
mutual
/-- a plan of a book -/
inductive PlOk (b : Bk) : Pl → Prop
  | mk {k : Str} {t : Tr} {ps : List (List Nat × Pl)} : b.treeOf k = some t → PutsOk b (t.pps []) ps → PlOk b (.mk k ps)
/-- what is put at pieces, in their order -/
inductive PutsOk (b : Bk) : List (List Nat × Tr) → List (List Nat × Pl) → Prop
  | nil : PutsOk b [] []
  | skip {p : List Nat} {u : Tr} {us : List (List Nat × Tr)} {ps : List (List Nat × Pl)} : u.must = false → PutsOk b us ps → PutsOk b ((p, u) :: us) ps
  | put {p : List Nat} {u : Tr} {q : Pl} {us : List (List Nat × Tr)} {ps : List (List Nat × Pl)} : q.key ∈ b.takers u → PlOk b q → PutsOk b us ps → PutsOk b ((p, u) :: us) ((p, q) :: ps)
end
theorem PutsOk.app {b : Bk} : ∀ {us vs : List (List Nat × Tr)} {ps qs : List (List Nat × Pl)}, PutsOk b us ps → PutsOk b vs qs → PutsOk b (us ++ vs) (ps ++ qs)
  | _, _, _, _, .nil, h => h
  | _, _, _, _, .skip m r, h => .skip m (PutsOk.app r h)
  | _, _, _, _, .put m o r, h => .put m o (PutsOk.app r h)
end GM
namespace GM
open PySem L2 GS
theorem want_no {u : Tr} (h : noW u = true) : u.want = none := by
  cases u with
  | knot n tk ks => cases tk with
    | none => rfl
    | some w => cases h
  | hole n => cases h
  | _ => rfl
theorem takers_keys {b : Bk} {u : Tr} {k : Str} (h : k ∈ b.takers u) : ∃ t, (k, t) ∈ b.trees := by
  unfold Bk.takers at h
  split at h
  · cases h
  · obtain ⟨p, mp, rfl⟩ := List.mem_map.mp h
    exact ⟨p.2, (List.mem_filter.mp mp).1⟩
/-- sixQ keys in a tuple -/
def sixQ : List Str := [Str.ofString "s", Str.ofString "x0", Str.ofString "keytree", Str.ofString "g", Str.ofString "h1", Str.ofString "graftofaone"]
/-- how many keys a plan may have, by the number of its first -/
def limP (c s : Nat) : Nat := if 6 ≤ c then 51 else 2551 * min s (6 - c)
mutual
/-- how many keys are none of the sixQ -/
def Pl.nb : Pl → Nat
  | .mk k ps => (if k ∈ baseK then 0 else 1) + Pl.nbL ps
def Pl.nbL : List (List Nat × Pl) → Nat
  | [] => 0
  | x :: r => Pl.nbX x + Pl.nbL r
def Pl.nbX : List Nat × Pl → Nat
  | (_, q) => q.nb
end
structure GoodP (b : Bk) (n c : Nat) (key : Str) (q : Pl) : Prop where
  ok : PlOk b q
  key : q.key = key
  dep : q.dep ≤ n + 1
  size : q.size ≤ limP c q.size
  nb : q.nb ≤ if q.key ∈ baseK then 0 else max 1 (7 - c)
section
variable {Fp Fl Ft Fc : FF}
end
section
variable {Fp Fl Ft Fc : FF}
end
end GM
namespace GM
open PySem L2 GS
section
variable {Fp Fl Ft Fc : FF}
end
end GM
namespace GM
open PySem L2 GS
end GM
namespace GM
open PySem L2 GS
def figW (d : Nat) : Str := ((toString (d : Int) : String) : Str)
def placeW (p : List Nat) : Str := if p = [] then DT else Txt.join DT (p.map figW)
mutual
def Pl.words : Pl → List Str
  | .mk k ps => OP :: k :: (Pl.wordsL ps ++ [CL])
def Pl.wordsL : List (List Nat × Pl) → List Str
  | [] => []
  | x :: r => Pl.wordsX x ++ Pl.wordsL r
def Pl.wordsX : List Nat × Pl → List Str
  | (p, q) => placeW p :: q.words
end
def plcOk (p : List Nat) : Bool := p.all (fun d => decide (d < 8)) && decide (p.length ≤ 20)
mutual
def Pl.tok : Pl → Bool
  | .mk k ps => keyB k && Pl.tokL ps
def Pl.tokL : List (List Nat × Pl) → Bool
  | [] => true
  | x :: r => Pl.tokX x && Pl.tokL r
def Pl.tokX : List Nat × Pl → Bool
  | (p, q) => plcOk p && q.tok
end
theorem fig_all : ∀ d, d < 8 → figW d ∈ figs ∧ fgN (figW d) = (d : Int) ∧ 46 ∉ (figW d).cps.toList ∧ 1 ≤ (figW d).length ∧ (figW d).length ≤ 1 ∧ ((d : Int).natAbs.log2 < 1920) := by
  intro d h
  have : ∀ d ∈ List.range 8, figW d ∈ figs ∧ fgN (figW d) = (d : Int) ∧ 46 ∉ (figW d).cps.toList ∧ 1 ≤ (figW d).length ∧ (figW d).length ≤ 1 ∧ ((d : Int).natAbs.log2 < 1920) := by decide +kernel
  exact this d (List.mem_range.mpr h)
theorem plc_mem {p : List Nat} (h : plcOk p = true) : (∀ d ∈ p, d < 8) ∧ p.length ≤ 20 := by
  unfold plcOk at h
  rw [Bool.and_eq_true, List.all_eq_true] at h
  exact ⟨fun d m => by simpa using h.1 d m, by simpa using h.2⟩
theorem dt1 : DT.length = 1 := by decide +kernel
theorem placeW_len {p : List Nat} (h : plcOk p = true) : (placeW p).length ≤ 40 := by
  unfold placeW
  split
  · rw [dt1]; omega
  · have h1 := join_len DT (p.map figW)
    have h2 := (plc_mem h).2
    have h3 : ((p.map figW).map (·.length)).sum ≤ 1 * (p.map figW).length := sum_le fun w m => by
      obtain ⟨d, md, rfl⟩ := List.mem_map.mp m
      exact (fig_all d ((plc_mem h).1 d md)).2.2.2.2.1
    rw [dt1, List.length_map] at *
    omega
theorem placeW_chr {p : List Nat} (h : plcOk p = true) : ∀ c ∈ (placeW p).cps.toList, c = 46 ∨ (48 ≤ c ∧ c ≤ 57) := fun c m => by
  have hd : DT.cps.toList = [46] := cpDT
  unfold placeW at m
  split at m
  · rw [hd] at m; simp at m; exact .inl m
  · rcases join_mem m with q | ⟨w, mw, q⟩
    · rw [hd] at q; simp at q; exact .inl q
    · obtain ⟨d, md, rfl⟩ := List.mem_map.mp mw
      have : ∀ d ∈ List.range 8, ∀ c ∈ (figW d).cps.toList, 48 ≤ c ∧ c ≤ 57 := by decide +kernel
      exact .inr (this d (List.mem_range.mpr ((plc_mem h).1 d md)) c q)
theorem dep_eq (q : Pl) : q.dep = Pl.depL q.puts + 1 := by
  cases q with
  | mk k ps => rw [Pl.dep]; rfl
end GM
namespace GM
open PySem L2 GS
end GM
namespace GM
open PySem L2 GS
theorem encP_clean (p : List Nat) : cleanB (encP p) = true ∧ (encP p).depth ≤ 1 := by
  refine ⟨?_, ?_⟩
  · unfold encP
    rw [cleanB]
    refine cleanL_of fun d m => ?_
    obtain ⟨k, mk, rfl⟩ := List.mem_map.mp m
    rfl
  · unfold encP
    have := depthAll_of (ds := p.map fun n : Nat => PyData.int (n : Int)) (n := 0) fun d m => by
      obtain ⟨k, mk, rfl⟩ := List.mem_map.mp m
      simp [PyData.depth]
    rw [PyData.depth]
    omega
section
variable {n : Nat} {Fw Ft Fx Fp Fk : FF}
end
end GM
namespace GM
open PySem L2 GS
theorem kid_lt : ∀ (t : Tr) (p : List Nat), t.ok = true → p ∈ t.places → ∀ d ∈ p, d < 8 := fun t p => by
  induction p generalizing t with
  | nil => intro _ _ d m; cases m
  | cons k p ih =>
    intro ok mp d md
    rw [places_kids] at mp
    rcases List.mem_cons.mp mp with e | mp
    · cases e
    · have gen : ∀ (ts : List Tr) (j : Nat), (k :: p) ∈ Tr.placesL j ts → k < j + ts.length ∧ ∃ s ∈ ts, p ∈ s.places := fun ts => by
        induction ts with
        | nil => intro j m; simp [Tr.placesL] at m
        | cons s ts ih2 =>
          intro j m
          rw [Tr.placesL] at m
          rcases List.mem_append.mp m with m | m
          · obtain ⟨r, mr, e⟩ := List.mem_map.mp m
            cases e
            exact ⟨by simp, s, by simp, mr⟩
          · obtain ⟨h1, s', ms, h2⟩ := ih2 (j + 1) m
            exact ⟨by simp; omega, s', by simp [ms], h2⟩
      obtain ⟨h1, s, ms, h2⟩ := gen t.kids 0 mp
      cases t with
      | knot n tk ks =>
        rw [Tr.ok] at ok
        simp only [Bool.and_eq_true, decide_eq_true_eq] at ok
        have : ks.length ≤ 8 := ok.2.2.2.1
        rcases List.mem_cons.mp md with rfl | md
        · simp [Tr.kids] at h1; omega
        · exact ih s (okL_mem ok.2.2.2.2 s ms) h2 d md
      | _ => simp [Tr.kids] at ms
theorem pps_place {t : Tr} {x : List Nat × Tr} (m : x ∈ t.pps []) : x.1 ∈ t.places := by
  have : x.1 ∈ (t.pps []).map (·.1) := List.mem_map_of_mem m
  rw [pps_fst] at this
  simpa using this
theorem treeOf_in {b : Bk} {k : Str} {t : Tr} (h : b.treeOf k = some t) : (k, t) ∈ b.trees := by
  have gen : ∀ (ts : List (Str × Tr)) (o : Option Tr), ts.foldl (fun acc p => if p.1 = k then some p.2 else acc) o = some t → (k, t) ∈ ts ∨ o = some t := fun ts => by
    induction ts with
    | nil => intro o h; exact .inr h
    | cons p ts ih =>
      intro o h
      rcases ih _ h with m | e
      · exact .inl (by simp [m])
      · dsimp only at e
        split at e
        · rename_i q
          cases e
          exact .inl (by rw [← q]; simp)
        · exact .inr e
  rcases gen b.trees none h with m | e
  · exact m
  · cases e
section
variable {h : Nat} {b : Bk}
theorem BookOk.keyB (B : BookOk h b) {k : Str} {t : Tr} (m : (k, t) ∈ b.trees) : keyB k = true := allK_ok k (B.keys _ m)
mutual
theorem PlOk.tok (B : BookOk h b) (hh : h ≤ 20) : ∀ {q : Pl}, PlOk b q → q.tok = true
  | _, .mk (t := t) e r => by
    have mt := treeOf_in e
    have T := B.trees _ mt
    rw [Pl.tok, B.keyB mt, Bool.true_and]
    exact PutsOk.tok B hh r fun x mx => by
      have mp := pps_place mx
      unfold plcOk
      rw [Bool.and_eq_true, List.all_eq_true]
      refine ⟨fun d md => by simpa using kid_lt t x.1 T.ok mp d md, ?_⟩
      have := place_len t x.1 mp
      have := T.ht
      dsimp only at this
      simp
      omega
theorem PutsOk.tok (B : BookOk h b) (hh : h ≤ 20) : ∀ {us : List (List Nat × Tr)} {ps : List (List Nat × Pl)}, PutsOk b us ps → (∀ x ∈ us, plcOk x.1 = true) → Pl.tokL ps = true
  | _, _, .nil, _ => rfl
  | _, _, .skip _ r, hu => PutsOk.tok B hh r fun x m => hu x (by simp [m])
  | _, _, .put _ o r, hu => by
    rw [Pl.tokL, Pl.tokX, hu _ List.mem_cons_self, PlOk.tok B hh o, PutsOk.tok B hh r fun x m => hu x (by simp [m])]
    rfl
end
end
mutual
theorem pwords_len : ∀ q : Pl, q.words.length + 1 ≤ 4 * q.size
  | .mk k ps => by
    have := pwordsL_len ps
    rw [Pl.words, Pl.size]
    simp
    omega
theorem pwordsL_len : ∀ ps : List (List Nat × Pl), (Pl.wordsL ps).length ≤ 4 * Pl.sizeL ps
  | [] => by simp [Pl.wordsL]
  | x :: r => by
    have h1 := pwordsX_len x
    have h2 := pwordsL_len r
    rw [Pl.wordsL, Pl.sizeL, List.length_append]
    omega
theorem pwordsX_len : ∀ x : List Nat × Pl, (Pl.wordsX x).length ≤ 4 * Pl.sizeX x
  | (p, q) => by
    have := pwords_len q
    rw [Pl.wordsX, Pl.sizeX, List.length_cons]
    omega
end
structure WdQ (w : Str) : Prop where
  len : w.length ≤ 40
  chr : ∀ c ∈ w.cps.toList, 33 ≤ c ∧ c ≤ 122
theorem wq_key {k : Str} (h : keyB k = true) : WdQ k := by
  refine ⟨by have := keyB_len h; omega, fun c m => ?_⟩
  have hs : ∀ c ∈ SML.cps.toList, 33 ≤ c ∧ c ≤ 122 := by decide +kernel
  have hf : ∀ c ∈ FIG.cps.toList, 33 ≤ c ∧ c ≤ 122 := by decide +kernel
  exact (nameL_mem h c m).elim (hs c) (hf c)
theorem wq_place {p : List Nat} (h : plcOk p = true) : WdQ (placeW p) := ⟨placeW_len h, fun c m => by have := placeW_chr h c m; omega⟩
theorem wq_op : WdQ OP := ⟨by decide +kernel, by decide +kernel⟩
theorem wq_cl : WdQ CL := ⟨by decide +kernel, by decide +kernel⟩
mutual
theorem words_wq : ∀ q : Pl, q.tok = true → ∀ w ∈ q.words, WdQ w
  | .mk k ps, h, w, m => by
    rw [Pl.tok, Bool.and_eq_true] at h
    rw [Pl.words] at m
    rcases List.mem_cons.mp m with rfl | m
    · exact wq_op
    · rcases List.mem_cons.mp m with rfl | m
      · exact wq_key h.1
      · rcases List.mem_append.mp m with m | m
        · exact wordsL_wq ps h.2 w m
        · simp at m; subst m; exact wq_cl
theorem wordsL_wq : ∀ ps : List (List Nat × Pl), Pl.tokL ps = true → ∀ w ∈ Pl.wordsL ps, WdQ w
  | [], _, w, m => by simp [Pl.wordsL] at m
  | x :: r, h, w, m => by
    rw [Pl.tokL, Bool.and_eq_true] at h
    rw [Pl.wordsL] at m
    rcases List.mem_append.mp m with m | m
    · exact wordsX_wq x h.1 w m
    · exact wordsL_wq r h.2 w m
theorem wordsX_wq : ∀ x : List Nat × Pl, Pl.tokX x = true → ∀ w ∈ Pl.wordsX x, WdQ w
  | (p, q), h, w, m => by
    rw [Pl.tokX, Bool.and_eq_true] at h
    rw [Pl.wordsX] at m
    rcases List.mem_cons.mp m with rfl | m
    · exact wq_place h.1
    · exact words_wq q h.2 w m
end
section
variable {Fa Fc : FF}
end
end GM
namespace GM
open PySem L2 GS
end GM
namespace GM
open PySem L2 GS
structure PQ (q : Pl) : Prop where
  tok : q.tok = true
  dep : q.dep ≤ 6
  size : q.size ≤ 12755
theorem forL_same {α : Type} {g : D → Rho → Option Rho} {b : SF} (ρ : Rho) (it : α → D) (as : List α) (h : ∀ a ∈ as, optR (g (it a) ρ) b = .nx ρ) : forL g b (as.map it) ρ = .nx ρ := by
  have := forL_look (g := g) (b := b) ρ ρ it (fun _ => true) (.sh .none) as fun a m => by rw [h a m]; rfl
  rw [this, List.all_eq_true.mpr fun _ _ => rfl]
  rfl
theorem bl1 : BL.length = 1 := by decide +kernel
/-- the words may be joined and read -/
theorem PQ.line {q : Pl} (Q : PQ q) : joinOk BL q.words = true ∧ (lineT q.words).length ≤ 10000000 ∧ q.words.length ≤ 51019 ∧ (∀ w ∈ q.words, w.length ≤ 40) ∧ (∀ w ∈ q.words, 32 ∉ w.cps.toList) ∧ ∀ w ∈ q.words, PyData.strOk w = true := by
  have h1 := pwords_len q
  have h2 := Q.size
  have h3 := words_wq q Q.tok
  have h4 : ∀ w ∈ q.words, w.length ≤ 40 := fun w m => (h3 w m).len
  refine ⟨joinOk_of (b := 40) (n := 60000) h4 (by omega) (by rw [bl1]; decide), ?_, by omega, h4, fun w m e => by have := (h3 w m).chr 32 e; omega, fun w m => strOk_of fun c mc => by have := (h3 w m).chr c mc; omega⟩
  have h5 := join_len BL q.words
  have h6 := sum_le h4
  rw [bl1] at h5
  unfold lineT
  omega
section
variable {Ft Fx Fr Fw Fp Fa Fb Fc : FF}
end
end GM
namespace GS
open PySem L2 RT
section
variable {X : Cx} {C : Ct} {ρ ρ1 : Rho} {σ σ1 : St} {B H B1 H1 : Hp} {e tg : Expr} {te : TE} {fe : EF} {pos p : Pos} {K : KW}
end
end GS
namespace GS
open PySem L2 PySem.Spec PyProof.Rows PySem.W PySem.Calls
section
variable {prog : Program} {w : World} {A : Around} {E : Value → Shared → Prop} {s : Shared}
end
section
variable {X : Cx}
end
section
variable {K : KW} {B H : Hp}
end
end GS
namespace GS
open PySem L2 PySem.Spec PyProof.Rows
/-- a def's promise where no repr is under way -/
structure FnG (P : Program) (w : World) (K : PySem.W.Frag) (mg : Str → Option Value) (base : Heap) (k : Nat) (f : Addr) (fd : FuncData) (ps : List Str) (sp : Sp) : Prop where
  ln : ∀ vs H Q E, sp vs H Q E → vs.length = ps.length
  go : ∀ (A : Around) (out : List Env) (t : Shared) (H : Hp) (ar : Args) (zs : List Value) (vs : List V) (Q : VK) (E : XK),
    A.guards = some [] → Room k A → Env0 P w K mg base A out t H → BindsTo t fd ar (ps.zip zs) → Vals vs zs → sp vs H Q E →
    codeAny (model P w) A (.call (.ref f) ar) (CR (L2.CX P w) out P w H t Q E) t
theorem FnG.of {P : Program} {w : World} {K : PySem.W.Frag} {mg : Str → Option Value} {base : Heap} {k : Nat} {f : Addr} {fd : FuncData} {ps : List Str} {sp : Sp} (F : FnOk P w K mg base (L2.CX P w) k f fd ps sp) : FnG P w K mg base k f fd ps sp :=
  ⟨F.len, fun A o t H ar zs vs Q E _ => F.run A o t H ar zs vs Q E⟩
section
variable {P : Program} {w : World} {K : PySem.W.Frag} {mg : Str → Option Value} {base : Heap}
end
section
variable {P : Program} {w : World} {K : KW} {mg : Str → Option Value} {base : Heap} {cv : Str → Value}
end
section
variable {X : Cx} {C : Ct} {k n : Nat} {f : Addr} {fd : FuncData} {ps : List Str} {sp : Sp} {W : L2.St → XK} {x : Str} {p pos : Pos} {e e0 : Expr} {es : List Expr} {t : TA} {t0 : TE} {F : FF} {g : AF} {f0 : EF}
end
end GS
namespace GS
open PySem L2 PySem.Spec PyProof.Rows
end GS
namespace L2
open PySem PySem.W PySem.Calls PySem.Spec PyProof.Rows
section
variable {X : Cx} {e1 e2 : Expr} {t : TA} {pz pd pos pos2 : Pos}
end
end L2
namespace GS
open PySem L2
section
variable {K : KW} {B H : Hp}
end
section
variable {X : Cx} {C : Ct} {e1 e2 : Expr} {t : TA} {f : AF} {pz pd pos pos2 : Pos}
end
end GS
namespace GS
open PySem L2
section
variable {K : KW} {C : Ct} {ρ ρ1 ρ2 : Rho} {σ σ1 σ2 : St} {B H B1 H1 B2 H2 : Hp} {a p : Addr} {o : HO} {Ed : Ends}
/-- what is done at last: an object that nobody held is changed, shared, and a new owned one put into a slot -/
theorem Ext.last (x : Ext ρ σ B H ρ1 σ1 B1 H1) {i : Nat} {d : D} (hi : i < ρ1.length) (hio : ioAt ρ1 i = false) (e : σ1[i]? = some (some (.ref p))) (hb : B1 a = none) (na : New ρ σ H a) (np : New ρ σ H p) (o : HO) (hm : ∀ x y, o ≠ .met x y := by intro _ _ h; cases h) :
    Ext ρ σ B H (ρ1.set i (some ⟨d, .ow⟩)) σ1 (upd B1 a o) (upd H1 a o) := by
  have at1 : ∀ {j : Nat} {c : Cel}, (ρ1.set i (some ⟨d, .ow⟩))[j]? = some (some c) → (i = j ∧ c = ⟨d, .ow⟩) ∨ (i ≠ j ∧ ρ1[j]? = some (some c)) := fun {j c} h => by
    by_cases q : i = j
    · subst q
      rw [List.getElem?_set, if_pos rfl, if_pos hi] at h
      cases h
      exact .inl ⟨rfl, rfl⟩
    · rw [List.getElem?_set, if_neg q] at h
      exact .inr ⟨q, h⟩
  refine ⟨fun b u q => ?_, fun b u q => ?_, fun b u q hn => ?_, fun b h => ?_, fun j c hj hf => ?_, fun j c hj hf => ?_, (x.tx.st fun j d h => (at1 h).elim (fun z => by cases z.2) (·.2)).upd hm⟩
  · have := x.bb b u q
    rw [upd_ne (ne_of_none this hb)]
    exact this
  · by_cases z : b = a
    · subst z; exact .inr na
    · rw [upd_ne z] at q; exact x.nw b u q
  · have : b ≠ a := fun z => by
      subst z
      rcases na with h | h
      · rw [q] at h; cases h
      · exact hn h
    rw [upd_ne this]
    exact x.kp b u q hn
  · obtain ⟨j, c, hj, nf, ej⟩ := h
    rcases at1 hj with ⟨rfl, rfl⟩ | ⟨n1, h1⟩
    · rw [e] at ej
      cases ej
      exact np
    · exact x.sub b ⟨j, c, h1, nf, ej⟩
  · obtain ⟨h1, c', h2, h3⟩ := x.io j c hj hf
    have ne : i ≠ j := fun q => by subst q; exact not_io hio h2 h3
    exact ⟨h1, c', by rw [List.getElem?_set, if_neg ne]; exact h2, h3⟩
  · rcases at1 hj with ⟨rfl, rfl⟩ | ⟨n1, h1⟩
    · cases hf
    · exact x.oi j c h1 hf
end
section
variable {X : Cx} {C : Ct} {e1 e2 c : Expr} {t1 t2 tc : TE} {f1 f2 fc : EF} {rest : List Stmt} {u : TS} {g : SF} {pos : Pos}
end
end GS
namespace GM
open PySem L2 GS
end GM
namespace GM
open PySem L2 GS
section
variable {n : Nat} {Fm Fr Fn Fx : FF}
end
end GM
namespace GS
open PySem L2 PySem.Spec PyProof.Rows PySem.W PySem.Calls
section
variable {prog : Program} {w : World} {A : Around} {E : Value → Shared → Prop} {s : Shared} {Q : Bool → Shared → Prop}
end
end GS
namespace L2
open PySem PySem.Spec PyProof.Rows
section
variable {P : Program} {w : World} {A : Around} {E : Value → Shared → Prop} {s : Shared}
end
end L2
namespace GS
open PySem L2 PySem.Spec PyProof.Rows
section
variable {K : KW} {B H : Hp}
end
section
variable {X : Cx} {C : Ct} {e : Expr} {te : TE} {fe : EF} {p p2 pos pos2 : Pos}
end
end GS
namespace L2
open PySem PySem.Spec PyProof.Rows RT
section
variable {prog : Program} {w : World} {A : Around} {E : Value → Shared → Prop} {s : Shared}
end
end L2
namespace GS
open PySem L2
section
variable {X : Cx} {C : Ct} {e : Expr} {te : TE} {fe : EF} {p p2 pos pos2 : Pos}
end
end GS
namespace GS
open PySem L2
end GS
namespace GM
open PySem L2 GS
/-- are_numbers(thing); slots 0:thing 1:one -/
def m_are_numbers_b1 : SF := (sKill [1] (sIf (eOr (eB (eIsi isBool (eVb 1))) (eNot (eB (eIsi isInt (eVb 1))))) (sEnd (sRet (eC (.bool false)))) sNil))
def m_are_numbers : SF := (sSeq (sIf (eNot (eB (eIsi isTup (eVb 0)))) (sEnd (sRet (eC (.bool false)))) sNil) (sSeq (sFor (iSq (eMv 0)) (gN 1) (m_are_numbers_b1)) (sEnd (sRet (eC (.bool true))))))
theorem m_are_numbers_eq (ρ : Rho) : fnF 2 1 (m_are_numbers) ρ = finR 1 (m_are_numbers (ρ ++ [none])) := fnF_eq 2 1 _
/-- are_puts(thing); slots 0:thing 1:ahead 2:one -/
def m_are_puts_b1 (F_are_numbers : FF) : SF := (sKill [2] (sSeq (sIf (eOr (eNot (eB (eIsi isTup (eVb 2)))) (eOr (eB (eBin (eqB true) (eCB (un1 lenD) (aCons (eVb 2) aNil)) (eC (.int 2)))) (eNot (eB (eCall 1 none F_are_numbers (aCons (eBin ixA (eVb 2) (eC (.int 0))) aNil)))))) (sEnd (sRet (eC (.bool false)))) sNil) (sSeq (sIf (eOr (eNot (eB (eIsi isTup (eBin ixA (eVb 2) (eC (.int 1)))))) (eOr (eB (eBin (eqB true) (eCB (un1 lenD) (aCons (eBin ixA (eVb 2) (eC (.int 1))) aNil)) (eC (.int 2)))) (eNot (eB (eIsi isStr (eBin ixA (eBin ixA (eVb 2) (eC (.int 1))) (eC (.int 0)))))))) (sEnd (sRet (eC (.bool false)))) sNil) (sSeq (sIf (eAnd (eB (eBin (isD true) (eVb 1) (eC .none))) (eNot (eB (eBin (ltI fun i j => decide (i < j)) (eVb 1) (eBin ixA (eVb 2) (eC (.int 0))))))) (sEnd (sRet (eC (.bool false)))) sNil) (sSet 1 (eBin ixA (eVb 2) (eC (.int 0))))))))
def m_are_puts (F_are_numbers : FF) : SF := (sSeq (sIf (eNot (eB (eIsi isTup (eVb 0)))) (sEnd (sRet (eC (.bool false)))) sNil) (sSeq (sSet 1 (eC .none)) (sSeq (sFor (iSq (eMv 0)) (gN 2) (m_are_puts_b1 F_are_numbers)) (sEnd (sRet (eC (.bool true)))))))
theorem m_are_puts_eq (F_are_numbers : FF) (ρ : Rho) : fnF 3 1 (m_are_puts F_are_numbers) ρ = finR 1 (m_are_puts F_are_numbers (ρ ++ [none, none])) := fnF_eq 3 1 _
/-- put_well(book, tree, puts); slots 0:book 1:tree 2:puts 3:told 4:place 5:piece 6:want -/
def m_put_well_ct1 (F_places F_takers F_wanted F_piece_at : FF) : EF := (eB (eBin (inB true) (eVb 4) (eCall 1 none F_places (aCons (eMv 1) aNil))))
def m_put_well_ce2 (F_places F_takers F_wanted F_piece_at : FF) : EF := (eMv 4)
def m_put_well_b3 (F_places F_takers F_wanted F_piece_at : FF) : SF := (sKill [4, 5, 6] (sSeq (sSet 5 (eCall 2 none F_piece_at (aCons (eMv 1) (aCons (eMv 4) aNil)))) (sSeq (sSet 6 (eCall 1 none F_wanted (aCons (eMv 5) aNil))) (sSeq (sIf (eAnd (eB (eBin (isD true) (eVb 6) (eC .none))) (eAnd (eB (eBin ixA (eVb 6) (eC (.int 2)))) (eB (eBin (inB true) (eVb 4) (eVb 3))))) (sEnd (sRet (eC (.bool false)))) sNil) (sIf (eAnd (eB (eBin (inB false) (eVb 4) (eVb 3))) (eB (eBin (inB true) (eBin ixA (eBin ixA (eVb 3) (eVb 4)) (eC (.int 0))) (eCall 2 none F_takers (aCons (eMv 0) (aCons (eMv 5) aNil)))))) (sEnd (sRet (eC (.bool false)))) sNil)))))
def m_put_well (F_places F_takers F_wanted F_piece_at : FF) : SF := (sSeq (sSet 3 (eCB (un1 dictD) (aCons (eVb 2) aNil))) (sSeq (sFor (iSq (eCall 1 none F_places (aCons (eMv 1) aNil))) (gN 4) (m_put_well_b3 F_places F_takers F_wanted F_piece_at)) (sEnd (sRet (eBin (eqB false) (eCB (un1 lenD) (aCons (eLc [4] (iSq (eMv 3)) (gN 4) (eNox (m_put_well_ct1 F_places F_takers F_wanted F_piece_at)) (eNox (m_put_well_ce2 F_places F_takers F_wanted F_piece_at))) aNil)) (eC (.int 0)))))))
theorem m_put_well_eq (F_places F_takers F_wanted F_piece_at : FF) (ρ : Rho) : fnF 7 3 (m_put_well F_places F_takers F_wanted F_piece_at) ρ = finR 3 (m_put_well F_places F_takers F_wanted F_piece_at (ρ ++ [none, none, none, none])) := fnF_eq 7 3 _
/-- is_plan(book, thing); slots 0:book 1:thing 2:tree 3:place 4:plan -/
def m_is_plan_b1 (F_is_plan F_put_well F_tree_of F_are_puts : FF) : SF := (sKill [3, 4] (sIf (eNot (eB (eCall 2 none F_is_plan (aCons (eMv 0) (aCons (eMv 4) aNil))))) (sEnd (sRet (eC (.bool false)))) sNil))
def m_is_plan (F_is_plan F_put_well F_tree_of F_are_puts : FF) : SF := (sSeq (sIf (eOr (eNot (eB (eIsi isTup (eVb 1)))) (eOr (eB (eBin (eqB true) (eCB (un1 lenD) (aCons (eVb 1) aNil)) (eC (.int 2)))) (eOr (eNot (eB (eIsi isStr (eBin ixA (eVb 1) (eC (.int 0)))))) (eNot (eB (eCall 1 none F_are_puts (aCons (eBin ixA (eVb 1) (eC (.int 1))) aNil))))))) (sEnd (sRet (eC (.bool false)))) sNil) (sSeq (sSet 2 (eCall 2 none F_tree_of (aCons (eMv 0) (aCons (eBin ixA (eVb 1) (eC (.int 0))) aNil)))) (sSeq (sIf (eOr (eB (eBin (isD false) (eVb 2) (eC .none))) (eNot (eB (eCall 3 none F_put_well (aCons (eMv 0) (aCons (eMv 2) (aCons (eBin ixA (eVb 1) (eC (.int 1))) aNil))))))) (sEnd (sRet (eC (.bool false)))) sNil) (sSeq (sFor (iSq (eBin ixA (eVb 1) (eC (.int 1)))) (gT 2 (gsC (gN 3) (gsC (gN 4) gsN))) (m_is_plan_b1 F_is_plan F_put_well F_tree_of F_are_puts)) (sEnd (sRet (eC (.bool true))))))))
theorem m_is_plan_eq (F_is_plan F_put_well F_tree_of F_are_puts : FF) (ρ : Rho) : fnF 5 2 (m_is_plan F_is_plan F_put_well F_tree_of F_are_puts) ρ = finR 2 (m_is_plan F_is_plan F_put_well F_tree_of F_are_puts (ρ ++ [none, none, none])) := fnF_eq 5 2 _
end GM
namespace GM
open PySem L2 GS
def numB : D → Bool
  | .int _ => true
  | _ => false
def numsB : D → Bool
  | .tuple ds => ds.all numB
  | _ => false
def NumsSp (F : FF) : Prop := ∀ d : D, F [some ⟨d, .sh⟩] = .ok (.sh (.bool (numsB d))) [none]
theorem are_numbers_ok : NumsSp (fnF 2 1 m_are_numbers) := fun d => by
  rw [m_are_numbers_eq]
  cases d with
  | tuple ds =>
    have h := forL_lookD (g := gN 1) (b := m_are_numbers_b1) [some ⟨.tuple ds, .sh⟩, none] [none, none] numB (.sh (.bool false)) ds (fun a _ => by
      cases a <;> simp [m_are_numbers_b1, numB, isBool, isInt])
    show _ = RE.ok (.sh (.bool (ds.all numB))) [none]
    cases q : ds.all numB <;> rw [q] at h <;> simp [m_are_numbers, isTup, h]
  | _ => simp [m_are_numbers, isTup, numsB]
/-- a put: its place, key, what is put within -/
abbrev Pt := List Int × Str × D
def putP : D → Option Pt
  | .tuple [.tuple ns, .tuple [.str k, r]] => (intsT ns).map fun p => (p, k, r)
  | _ => none
def encI (p : List Int) : D := .tuple (p.map .int)
def encPt (x : Pt) : D := .tuple [encI x.1, .tuple [.str x.2.1, x.2.2]]
theorem intsT_all : ∀ ds : List D, (∃ p, intsT ds = some p ∧ ds = p.map .int) ∨ (intsT ds = none ∧ ds.all numB = false)
  | [] => .inl ⟨[], rfl, rfl⟩
  | d :: ds => by
    cases d with
    | int i =>
      rcases intsT_all ds with ⟨p, e, rfl⟩ | ⟨e, q⟩
      · exact .inl ⟨i :: p, by simp [intsT, e], rfl⟩
      · exact .inr ⟨by simp [intsT, e], by simp [numB, q]⟩
    | _ => exact .inr ⟨rfl, by simp [numB]⟩
theorem intsT_map (p : List Int) : intsT (p.map .int) = some p := by
  induction p with
  | nil => rfl
  | cons i p ih => simp [intsT, ih]
theorem nums_map (p : List Int) : numsB (encI p) = true := by
  show (p.map PyData.int).all numB = true
  rw [List.all_map, List.all_eq_true]
  intro i _
  rfl
theorem putP_some {d : D} {x : Pt} (h : putP d = some x) : d = encPt x := by
  unfold putP at h
  split at h
  · rename_i ns k r
    obtain ⟨p, e, rfl⟩ := Option.map_eq_some_iff.mp h
    rcases intsT_all ns with ⟨p', e', rfl⟩ | ⟨e', _⟩
    · rw [e] at e'; cases e'; rfl
    · rw [e] at e'; cases e'
  · cases h
theorem putP_enc (x : Pt) : putP (encPt x) = some x := by
  obtain ⟨p, k, r⟩ := x
  show (intsT (p.map .int)).map _ = _
  rw [intsT_map]
  rfl
def ltO : Option (List Int) → List Int → Bool
  | none, _ => true
  | some a, p => HT.lexLt a p
def goP : Option (List Int) → List D → Option (List Pt)
  | _, [] => some []
  | a, d :: ds => match putP d with
    | none => none
    | some x => if ltO a x.1 then (goP (some x.1) ds).map fun l => x :: l else none
def putsP : D → Option (List Pt)
  | .tuple ds => goP none ds
  | _ => none
def optI : Option (List Int) → D
  | none => .none
  | some p => encI p
def PutsSp (F : FF) : Prop := ∀ d : D, F [some ⟨d, .sh⟩] = .ok (.sh (.bool (putsP d).isSome)) [none]
/-- one put: looked at -/
theorem put_turn {Fn : FF} (hn : NumsSp Fn) (d d0 : D) (a : Option (List Int)) : optR (gN 2 d [some ⟨d0, .sh⟩, some ⟨optI a, .sh⟩, none]) (m_are_puts_b1 Fn) = match putP d with
    | none => .rt (.sh (.bool false)) [none, none, none]
    | some x => if ltO a x.1 then .nx [some ⟨d0, .sh⟩, some ⟨encI x.1, .sh⟩, none] else .rt (.sh (.bool false)) [none, none, none] := by
  have lt0 : ∀ p q : List Int, ltI (fun i j => decide (i < j)) (encI p) (encI q) = some (.sh (.bool (HT.lexLt p q))) := fun p q => by
    show (if (decide ((0 : Int) < 1) && !decide ((0 : Int) < 0)) then (intsT (p.map .int)).bind fun a => (intsT (q.map .int)).map fun b => Hd.sh (.bool (HT.lexLt a b)) else none) = _
    rw [intsT_map, intsT_map]
    rfl
  have e := hn
  cases d with
  | tuple es =>
    match es with
    | [] => simp [m_are_puts_b1, putP, isTup]
    | [a'] => simp [m_are_puts_b1, putP, isTup]
    | u :: v :: w :: r =>
      have z : ¬ ((r.length : Int) + 1 + 1 + 1 = 2) := by omega
      simp [m_are_puts_b1, putP, isTup, z]
    | [u, v] =>
      have eu := hn u
      cases qn : numsB u with
      | false =>
        rw [qn] at eu
        have pn : putP (.tuple [u, v]) = none := by
          unfold putP
          split
          · rename_i ns k r e'
            cases e'
            rcases intsT_all ns with ⟨p, _, rfl⟩ | ⟨q, _⟩
            · have := nums_map p
              unfold encI at this
              rw [qn] at this
              cases this
            · rw [q]; rfl
          · rfl
        rw [pn]
        simp [m_are_puts_b1, isTup, eu]
      | true =>
        rw [qn] at eu
        obtain ⟨p, rfl⟩ : ∃ p, u = encI p := by
          cases u with
          | tuple ns =>
            rcases intsT_all ns with ⟨p, _, rfl⟩ | ⟨_, q⟩
            · exact ⟨p, rfl⟩
            · have qn : ns.all numB = true := qn
              rw [q] at qn
              cases qn
          | _ => cases qn
        have ee : ∃ ds, encI p = .tuple ds := ⟨_, rfl⟩
        cases v with
        | tuple fs =>
          match fs with
          | [] => simp [m_are_puts_b1, putP, isTup, eu]
          | [b] => simp [m_are_puts_b1, putP, isTup, eu]
          | b :: c :: f :: r =>
            have z : ¬ ((r.length : Int) + 1 + 1 + 1 = 2) := by omega
            simp [m_are_puts_b1, putP, isTup, eu, z]
          | [b, c] =>
            cases b with
            | str k =>
              have pe : putP (.tuple [encI p, .tuple [.str k, c]]) = some (p, k, c) := putP_enc (p, k, c)
              rw [pe]
              cases a with
              | none =>
                simp [m_are_puts_b1, isTup, isStr, eu, optI, ltO]
              | some a0 =>
                have l0 := lt0 a0 p
                have nn : ∀ neg, isD neg (encI a0) .none = some (.sh (.bool neg)) := fun neg => rfl
                cases ql : HT.lexLt a0 p with
                | true =>
                  rw [ql] at l0
                  simp [m_are_puts_b1, isTup, isStr, eu, optI, ltO, ql, nn, l0]
                | false =>
                  rw [ql] at l0
                  simp [m_are_puts_b1, isTup, isStr, eu, optI, ltO, ql, nn, l0]
            | _ => simp [m_are_puts_b1, putP, isTup, isStr, eu]
        | _ => simp [m_are_puts_b1, putP, isTup, eu]
  | _ => simp [m_are_puts_b1, putP, isTup]
theorem puts_loop {Fn : FF} (hn : NumsSp Fn) (d0 : D) : ∀ (ds : List D) (a : Option (List Int)), (∃ z, forL (gN 2) (m_are_puts_b1 Fn) ds [some ⟨d0, .sh⟩, some ⟨optI a, .sh⟩, none] = if (goP a ds).isSome then .nx [some ⟨d0, .sh⟩, some ⟨z, .sh⟩, none] else .rt (.sh (.bool false)) [none, none, none])
  | [], a => ⟨optI a, rfl⟩
  | d :: ds, a => by
    have st := put_turn hn d d0 a
    rw [forL_cons2, st]
    cases hp : putP d with
    | none =>
      have hg : (goP a (d :: ds)).isSome = false := by rw [goP, hp]; rfl
      rw [hg]
      exact ⟨.none, rfl⟩
    | some x =>
      have hg : (goP a (d :: ds)).isSome = (ltO a x.1 && (goP (some x.1) ds).isSome) := by
        rw [goP, hp]
        dsimp only
        cases ltO a x.1
        · rfl
        · show ((goP (some x.1) ds).map _).isSome = _
          rw [Option.isSome_map]
          rfl
      rw [hg]
      dsimp only
      cases q : ltO a x.1 with
      | true =>
        rw [if_pos rfl, turnR_nx, Bool.true_and]
        exact puts_loop hn d0 ds (some x.1)
      | false => exact ⟨.none, rfl⟩
theorem are_puts_ok {Fn : FF} (hn : NumsSp Fn) : PutsSp (fnF 3 1 (m_are_puts Fn)) := fun d => by
  rw [m_are_puts_eq]
  cases d with
  | tuple ds =>
    obtain ⟨z, e⟩ := puts_loop hn (.tuple ds) ds none
    have e' : forL (gN 2) (m_are_puts_b1 Fn) ds [some ⟨.tuple ds, .sh⟩, some ⟨.none, .sh⟩, none] = _ := e
    show _ = RE.ok (.sh (.bool (goP none ds).isSome)) [none]
    cases q : (goP none ds).isSome <;> rw [q] at e' <;> simp [m_are_puts, isTup, e']
  | _ => simp [m_are_puts, isTup, putsP]
end GM
namespace GM
open PySem L2 GS
def toI (p : List Nat) : List Int := p.map fun n : Nat => (n : Int)
theorem encP_I (p : List Nat) : encP p = encI (toI p) := by
  unfold encP encI toI
  rw [List.map_map]
  rfl
theorem toI_inj {p q : List Nat} (h : toI p = toI q) : p = q := by
  induction p generalizing q with
  | nil => cases q with
    | nil => rfl
    | cons _ _ => cases h
  | cons a p ih => cases q with
    | nil => cases h
    | cons b q =>
      unfold toI at h
      rw [List.map_cons, List.map_cons] at h
      injection h with h1 h2
      rw [ih h2, show a = b by omega]
theorem nkL_ints (p : List Int) : nkL (p.map .int) = some (p.map NestedKey.num) := by
  induction p with
  | nil => rfl
  | cons i p ih => rw [List.map_cons, nkL, ih]; rfl
theorem depth_nums (p : List Int) : NestedKey.depthAll (p.map NestedKey.num) = 0 := by
  induction p with
  | nil => rfl
  | cons i p ih => rw [List.map_cons, NestedKey.depthAll, ih]; rfl
theorem tkD_ints (p : List Int) : tkD (p.map .int) = some (.tup (p.map NestedKey.num)) := by
  unfold tkD
  rw [nkL_ints, Option.bind_some, if_pos (by rw [NestedKey.depth, depth_nums]; omega)]
theorem nums_inj {p q : List Int} (h : p.map NestedKey.num = q.map NestedKey.num) : p = q := by
  induction p generalizing q with
  | nil => cases q with
    | nil => rfl
    | cons _ _ => cases h
  | cons a p ih => cases q with
    | nil => cases h
    | cons b q =>
      rw [List.map_cons, List.map_cons] at h
      injection h with h1 h2
      injection h1 with h1
      rw [ih h2, h1]
@[simp] theorem kEq_I (p q : List Int) : kEq (encI p) (encI q) = decide (p = q) := by
  rw [kEq_key (show keyD (encI p) = _ from tkD_ints p) (show keyD (encI q) = _ from tkD_ints q)]
  by_cases h : p = q
  · simp [h]
  · have : ¬ NestedKey.tup (p.map NestedKey.num) = NestedKey.tup (q.map NestedKey.num) := fun e => h (nums_inj (by injection e))
    simp [h, this]
@[simp] theorem isK_I (p : List Int) : isK (encI p) = true := by
  show (tkD (p.map .int)).isSome = true
  rw [tkD_ints]
  rfl
/-- a dict with places as keys -/
def kvI {α : Type} (f : α → D) (x : List Int × α) : D × D := (encI x.1, f x.2)
def getI {α : Type} (L : List (List Int × α)) (p : List Int) : Option α := (L.find? fun x => decide (x.1 = p)).map (·.2)
theorem dGet_I {α : Type} (f : α → D) (L : List (List Int × α)) (p : List Int) : dGet (L.map (kvI f)) (encI p) = (getI L p).map f := by
  unfold getI
  induction L with
  | nil => rfl
  | cons x L ih =>
    rw [List.map_cons]
    show (if kEq (encI x.1) (encI p) then some (f x.2) else dGet (L.map (kvI f)) (encI p)) = _
    rw [kEq_I, List.find?_cons]
    by_cases h : x.1 = p
    · simp [h]
    · simp only [h, decide_false, Bool.false_eq_true, if_false]
      exact ih
theorem mixB_I {α : Type} (f : α → D) (L : List (List Int × α)) (p : List Int) : mixB (L.map (kvI f)) (encI p) = false ∧ xnB (L.map (kvI f)) = false := by
  cases L with
  | nil => exact ⟨rfl, rfl⟩
  | cons x L => exact ⟨rfl, rfl⟩
theorem any_I {α : Type} (f : α → D) (L : List (List Int × α)) (p : List Int) : ((L.map (kvI f)).any fun q => kEq q.1 (encI p)) = decide (p ∈ L.map (·.1)) := by
  induction L with
  | nil => rfl
  | cons x L ih =>
    rw [List.map_cons, List.any_cons, ih]
    show (kEq (encI x.1) (encI p) || _) = _
    rw [kEq_I]
    by_cases h : x.1 = p
    · simp [h]
    · have : ¬ p = x.1 := fun e => h e.symm
      simp [h, this]
theorem merge_I {α : Type} (f : α → D) : ∀ (L A : List (List Int × α)), ((A ++ L).map (·.1)).Nodup → (L.map (kvI f)).foldl (fun acc p => dPut acc p.1 p.2) (A.map (kvI f)) = (A ++ L).map (kvI f)
  | [], A, _ => by rw [List.append_nil]; rfl
  | x :: L, A, h => by
    have hx : x.1 ∉ A.map (·.1) := fun m => by
      rw [List.map_append, List.nodup_append] at h
      exact h.2.2 _ m _ (by simp) rfl
    have e : dPut (A.map (kvI f)) (encI x.1) (f x.2) = (A ++ [x]).map (kvI f) := by
      unfold dPut
      rw [any_I, decide_eq_false hx, if_neg Bool.false_ne_true, List.map_append]
      rfl
    rw [List.map_cons, List.foldl_cons]
    show (L.map (kvI f)).foldl _ (dPut (A.map (kvI f)) (encI x.1) (f x.2)) = _
    rw [e, merge_I f L (A ++ [x]) (by rw [List.append_assoc]; exact h), List.append_assoc]
    rfl
theorem dMerge_I {α : Type} (f : α → D) (L : List (List Int × α)) (h : (L.map (·.1)).Nodup) : dMerge (L.map (kvI f)) = L.map (kvI f) := by
  unfold dMerge
  exact merge_I f L [] h
theorem okPs_I {α : Type} (f : α → D) (L : List (List Int × α)) : okPs true (L.map (kvI f)) = true := by
  unfold okPs
  rw [List.all_map, List.all_eq_true]
  intro x _
  show (isK (encI x.1) && (tupB (encI x.1) == true)) = true
  rw [isK_I]
  rfl
theorem lexLt_irr (p : List Int) : HT.lexLt p p = false := by
  induction p with
  | nil => rfl
  | cons i p ih => rw [HT.lexLt_cons, if_pos rfl]; exact ih
theorem lexLt_trans : ∀ {p q r : List Int}, HT.lexLt p q = true → HT.lexLt q r = true → HT.lexLt p r = true
  | [], [], _, h, _ => by cases h
  | [], _ :: _, [], _, h => by cases h
  | [], _ :: _, _ :: _, _, _ => rfl
  | _ :: _, [], _, h, _ => by cases h
  | _ :: _, _ :: _, [], _, h => by cases h
  | a :: p, b :: q, c :: r, h1, h2 => by
    rw [HT.lexLt_cons] at h1 h2 ⊢
    by_cases e1 : a = b
    · subst e1
      rw [if_pos rfl] at h1
      by_cases e2 : a = c
      · subst e2
        rw [if_pos rfl] at h2 ⊢
        exact lexLt_trans h1 h2
      · rw [if_neg e2] at h2 ⊢
        exact h2
    · rw [if_neg e1, decide_eq_true_eq] at h1
      by_cases e2 : b = c
      · subst e2
        rw [if_neg e1, decide_eq_true_eq]
        exact h1
      · rw [if_neg e2, decide_eq_true_eq] at h2
        rw [if_neg (by omega), decide_eq_true_eq]
        omega
theorem goP_rising : ∀ {ds : List D} {a : Option (List Int)} {L : List Pt}, goP a ds = some L → ds = L.map encPt ∧ (∀ x ∈ L, ltO a x.1 = true) ∧ (L.map (·.1)).Pairwise (fun p q => HT.lexLt p q = true)
  | [], a, L, h => by
    cases h
    exact ⟨rfl, (fun x m => by cases m), .nil⟩
  | d :: ds, a, L, h => by
    unfold goP at h
    cases hp : putP d with
    | none => rw [hp] at h; cases h
    | some x =>
      rw [hp] at h
      dsimp only at h
      split at h
      · rename_i c
        obtain ⟨l, e, rfl⟩ := Option.map_eq_some_iff.mp h
        obtain ⟨q1, q2, q3⟩ := goP_rising e
        refine ⟨by rw [putP_some hp, q1, List.map_cons], fun y m => ?_, ?_⟩
        · cases m with
          | head => exact c
          | tail _ m =>
            have := q2 y m
            cases a with
            | none => rfl
            | some a0 => exact lexLt_trans c this
        · rw [List.map_cons]
          refine .cons (fun p m => ?_) q3
          obtain ⟨y, my, rfl⟩ := List.mem_map.mp m
          exact q2 y my
      · cases h
theorem rising_nodup {ps : List (List Int)} (h : ps.Pairwise (fun p q => HT.lexLt p q = true)) : ps.Nodup :=
  h.imp fun {p q} l e => by rw [e, lexLt_irr] at l; cases l
end GM
namespace GM
open PySem L2 GS
theorem pps_at (t : Tr) : ∀ x ∈ t.pps [], t.at x.1 = some x.2 := by
  have h := at_places t
  rw [← pps_snd t [], show t.places = (t.pps []).map (·.1) by rw [pps_fst]; simp, List.map_map, List.map_map] at h
  exact fun x m => List.map_inj_left.mp h x m
def krD (x : Str × D) : D := .tuple [.str x.1, x.2]
theorem encPt_kv (L : List Pt) : pairsD (L.map encPt) = some (L.map (kvI krD)) := by
  induction L with
  | nil => rfl
  | cons x L ih =>
    rw [List.map_cons]
    show (pairsD (L.map encPt)).map (fun ps => (encI x.1, PyData.tuple [.str x.2.1, x.2.2]) :: ps) = _
    rw [ih]
    rfl
theorem dict_puts {L : List Pt} (h : (L.map (·.1)).Nodup) : dictD (.tuple (L.map encPt)) = some (.fr (.dict (L.map (kvI krD)))) := by
  show dictP (L.map encPt) = _
  unfold dictP
  rw [encPt_kv, Option.bind_some, okPs_I, Bool.or_true, if_pos rfl, dMerge_I krD L h]
def okAt (b : Bk) (L : List Pt) (x : List Nat × Tr) : Bool := match getI L (toI x.1) with
  | none => !x.2.must
  | some kr => decide (kr.1 ∈ b.takers x.2)
def wellB (b : Bk) (t : Tr) (L : List Pt) : Bool := (t.pps []).all (okAt b L) && L.all fun x => decide (x.1 ∈ t.places.map toI)
structure BkS (n : Nat) (b : Bk) : Prop where
  ok : BkOk n b
  so : ∀ p ∈ b.trees, PyData.strOk p.1 = true
theorem takers_so {b : Bk} (h : ∀ p ∈ b.trees, PyData.strOk p.1 = true) (u : Tr) : ∀ k ∈ b.takers u, PyData.strOk k = true := fun k m => by
  obtain ⟨t, mt⟩ := takers_keys m
  exact h _ mt
def WellSp (n : Nat) (F : FF) : Prop := ∀ (b : Bk) (t : Tr) (L : List Pt), BkS n b → t.ht ≤ n → t.pieces.length ≤ 1000 → (L.map (·.1)).Nodup → L.length ≤ 100000 → (∀ x ∈ L, PyData.strOk x.2.1 = true) →
  F [some ⟨b.enc, .sh⟩, some ⟨t.enc, .sh⟩, some ⟨.tuple (L.map encPt), .sh⟩] = .ok (.sh (.bool (wellB b t L))) [none, none, none]
theorem okEq_I (p : List Int) : okEq (encI p) = true := okEq_of (by
  unfold encI
  rw [cleanB]
  refine cleanL_of fun d m => ?_
  obtain ⟨k, mk, rfl⟩ := List.mem_map.mp m
  rfl) (by
  unfold encI
  have := depthAll_of (ds := p.map PyData.int) (n := 0) fun d m => by
    obtain ⟨k, mk, rfl⟩ := List.mem_map.mp m
    simp [PyData.depth]
  rw [PyData.depth]
  omega)
theorem eqv_I (p q : List Int) : PyData.eqv (encI p) (encI q) = decide (p = q) := by
  unfold encI
  rw [PyData.eqv]
  induction p generalizing q with
  | nil => cases q <;> simp [PyData.eqvAll]
  | cons a p ih =>
    cases q with
    | nil => simp [PyData.eqvAll]
    | cons b q =>
      rw [List.map_cons, List.map_cons, PyData.eqvAll, ih]
      by_cases h1 : a = b <;> by_cases h2 : p = q <;> simp [PyData.eqv, h1, h2]
theorem okEq_places (ps : List (List Nat)) : okEq (.list (ps.map encP)) = true := okEq_of (by
  rw [cleanB]
  refine cleanL_of fun d m => ?_
  obtain ⟨k, mk, rfl⟩ := List.mem_map.mp m
  exact (encP_clean k).1) (by
  have := depthAll_of (ds := ps.map encP) (n := 1) fun d m => by
    obtain ⟨k, mk, rfl⟩ := List.mem_map.mp m
    exact (encP_clean k).2
  rw [PyData.depth]
  omega)
theorem in_places (neg : Bool) (p : List Int) (ps : List (List Nat)) : inB neg (encI p) (.list (ps.map encP)) = some (.sh (.bool (neg ^^ decide (p ∈ ps.map toI)))) := by
  rw [inB_l, okEq_I, okEq_places, Bool.true_and, if_pos rfl]
  congr 4
  rw [List.any_map]
  induction ps with
  | nil => rfl
  | cons q ps ih =>
    rw [List.any_cons, ih]
    show (PyData.eqv (encP q) (encI p) || _) = _
    rw [encP_I, eqv_I]
    by_cases h : toI q = p
    · simp [h]
    · have : ¬ p = toI q := fun e => h e.symm
      simp [h, this]
theorem in_strsQ (neg : Bool) {k : Str} {ks : List Str} (h1 : PyData.strOk k = true) (h2 : ∀ x ∈ ks, PyData.strOk x = true) : inB neg (.str k) (.list (ks.map .str)) = some (.sh (.bool (neg ^^ decide (k ∈ ks)))) := by
  rw [inB_l, okEq_str h1, okEq_of (strs_clean h2).1 (by
    have := depthAll_of (ds := ks.map PyData.str) (n := 0) fun d m => by
      obtain ⟨k, mk, rfl⟩ := List.mem_map.mp m
      simp [PyData.depth]
    rw [PyData.depth]
    omega), Bool.true_and, if_pos rfl]
  congr 4
  rw [List.any_map]
  clear h1 h2
  induction ks with
  | nil => rfl
  | cons q ks ih =>
    rw [List.any_cons, ih]
    show (PyData.eqv (.str q) (.str k) || _) = _
    rw [PyData.eqv]
    by_cases h : q = k
    · simp [h]
    · have : ¬ k = q := fun e => h e.symm
      simp [h, this]
section
variable {Fp Ft Fw Fa : FF}
theorem put_well_ok {n : Nat} (hp : PlacesSp n Fp) (ht : TakersSp n Ft) (hw : WantSp Fw) (ha : PieceSp Fa) : WellSp n (fnF 7 3 (m_put_well Fp Ft Fw Fa)) := fun b t L B hh hz nd hl so => by
  rw [m_put_well_eq]
  have e0 := dict_puts nd
  have e1 := hp t hh (by omega)
  have pe : t.places.map encP = (t.pps []).map fun x => encP x.1 := by rw [show t.places = (t.pps []).map (·.1) by rw [pps_fst]; simp, List.map_map]; rfl
  -- the loop
  have loop := forL_look (g := gN 4) (b := m_put_well_b3 Fp Ft Fw Fa) [some ⟨b.enc, .sh⟩, some ⟨t.enc, .sh⟩, some ⟨.tuple (L.map encPt), .sh⟩, some ⟨.dict (L.map (kvI krD)), .ow⟩, none, none, none] [none, none, none, none, none, none, none] (fun x : List Nat × Tr => encP x.1) (okAt b L) (.sh (.bool false)) (t.pps []) (fun x mx => by
    have f1 := ha t x.1 x.2 (pps_at t x mx)
    have f2 := hw x.2
    have f3 := ht b x.2 B.ok
    have sk := takers_so B.so x.2
    have g1 := dGet_I krD L (toI x.1)
    obtain ⟨m1, m2⟩ := mixB_I krD L (toI x.1)
    have i1 : ∀ neg, inB neg (encP x.1) (.dict (L.map (kvI krD))) = some (.sh (.bool (neg ^^ ((getI L (toI x.1)).map krD).isSome))) := fun neg => by
      rw [encP_I, inB_d, isK_I, m1, m2, g1]; rfl
    have i2 : ixA (.dict (L.map (kvI krD))) (encP x.1) = ((getI L (toI x.1)).map krD).map Hd.sh := by
      rw [encP_I, ixA_d, isK_I, if_pos rfl, g1]
    unfold okAt
    generalize hD : PyData.dict (L.map (kvI krD)) = DD at i1 i2 ⊢
    generalize hP : PyData.tuple (L.map encPt) = PP
    have dd : ∃ ps, DD = .dict ps := ⟨_, hD.symm⟩
    cases hg : getI L (toI x.1) with
    | none =>
      rw [hg] at i1 i2
      simp only [Option.map_none, Option.isSome_none, Bool.xor_false] at i1 i2
      cases hwn : x.2.want with
      | none =>
        rw [hwn] at f2
        simp [m_put_well_b3, f1, f2, i1, Tr.must, hwn, encW]
      | some w =>
        obtain ⟨g, nm, m⟩ := w
        rw [hwn] at f2
        cases m <;> simp [m_put_well_b3, f1, f2, i1, Tr.must, hwn, encW]
    | some kr =>
      obtain ⟨k, r⟩ := kr
      rw [hg] at i1 i2
      simp only [Option.map_some, Option.isSome_some, Bool.xor_true] at i1 i2
      have mL : ∃ p, (p, k, r) ∈ L := by
        unfold getI at hg
        obtain ⟨y, hy, e⟩ := Option.map_eq_some_iff.mp hg
        exact ⟨y.1, by rw [← e]; exact List.mem_of_find?_eq_some hy⟩
      obtain ⟨p0, mL⟩ := mL
      have i3 := in_strsQ true (so _ mL) sk
      dsimp only at i3 ⊢
      cases hwn : x.2.want with
      | none =>
        rw [hwn] at f2
        by_cases q : k ∈ b.takers x.2
        · rw [decide_eq_true q] at i3
          simp [m_put_well_b3, f1, f2, i1, i2, encW, f3, krD, i3, q]
        · rw [decide_eq_false q] at i3
          simp [m_put_well_b3, f1, f2, i1, i2, encW, f3, krD, i3, q]
      | some w =>
        obtain ⟨g, nm, m⟩ := w
        rw [hwn] at f2
        by_cases q : k ∈ b.takers x.2
        · rw [decide_eq_true q] at i3
          cases m <;> simp [m_put_well_b3, f1, f2, i1, i2, encW, f3, krD, i3, q]
        · rw [decide_eq_false q] at i3
          cases m <;> simp [m_put_well_b3, f1, f2, i1, i2, encW, f3, krD, i3, q])
  have lc := lcL_up (vs := [4]) (g := gN 4) (ft := eNox (m_put_well_ct1 Fp Ft Fw Fa)) (fe := eNox (m_put_well_ce2 Fp Ft Fw Fa)) [some ⟨b.enc, .sh⟩, some ⟨t.enc, .sh⟩, some ⟨.tuple (L.map encPt), .sh⟩, some ⟨.dict (L.map (kvI krD)), .sh⟩, none, none, none] (fun x : Pt => encI x.1)
    (fun x => [some ⟨b.enc, .sh⟩, some ⟨t.enc, .sh⟩, some ⟨.tuple (L.map encPt), .sh⟩, some ⟨.dict (L.map (kvI krD)), .sh⟩, some ⟨encI x.1, .sh⟩, none, none]) (fun x => !decide (x.1 ∈ t.places.map toI)) (fun x => encI x.1) L [] (fits (by simp; omega)) (fun x mx => by
      have i1 := in_places true x.1 t.places
      generalize PyData.dict (L.map (kvI krD)) = DD
      generalize PyData.tuple (L.map encPt) = PP
      generalize PyData.list (t.places.map encP) = LL at e1 i1
      have ie : ∃ ds, encI x.1 = .tuple ds := ⟨_, rfl⟩
      refine ⟨by simp, ?_, by simp, fun _ => by simp [m_put_well_ce2]⟩
      simp [m_put_well_ct1, e1, i1])
  rw [List.nil_append] at lc
  have ik : items (.dict (L.map (kvI krD))) = some (L.map fun x : Pt => encI x.1) := by
    show (if xnB (L.map (kvI krD)) then none else some ((L.map (kvI krD)).map (·.1))) = _
    rw [(mixB_I krD L []).2, if_neg Bool.false_ne_true, List.map_map]
    rfl
  unfold wellB
  rw [← pe] at loop
  have lz : decide ((((L.filter fun x => !decide (x.1 ∈ t.places.map toI)).map fun x : Pt => encI x.1).length : Int) = 0) = L.all fun x => decide (x.1 ∈ t.places.map toI) := by
    rw [List.length_map]
    rw [Bool.eq_iff_iff, decide_eq_true_eq, List.all_eq_true]
    constructor
    · intro h x mx
      have : L.filter (fun x => !decide (x.1 ∈ t.places.map toI)) = [] := List.eq_nil_of_length_eq_zero (by omega)
      have := List.filter_eq_nil_iff.mp this x mx
      simpa using this
    · intro h
      rw [List.filter_eq_nil_iff.mpr fun x mx => by have := h x mx; simp at this ⊢; exact this]
      rfl
  generalize (L.filter fun x => !decide (x.1 ∈ t.places.map toI)).map (fun x : Pt => encI x.1) = FF at lc lz
  generalize PyData.dict (L.map (kvI krD)) = DD at e0 loop lc ik
  generalize (L.map fun x : Pt => encI x.1) = KK at lc ik
  generalize PyData.tuple (L.map encPt) = PP at e0 loop lc ⊢
  generalize t.places.map encP = LL at e1 loop
  cases q : (t.pps []).all (okAt b L) with
  | false =>
    rw [q] at loop
    simp [m_put_well, e0, e1, loop]
  | true =>
    rw [q] at loop
    rw [Bool.true_and, ← lz]
    have sq : ∀ ρ, seqR (.sh DD) ρ = .ok KK ρ := fun ρ => by unfold seqR; simp only [ik]
    simp [m_put_well, e0, e1, loop, sq, lc]
end
end GM
namespace GM
open PySem L2 GS
def isPlanN (b : Bk) : Nat → D → Bool
  | 0, _ => false
  | n + 1, d => match d with
    | .tuple [.str k, ps] => match putsP ps, b.treeOf k with
      | some L, some t => wellB b t L && L.all fun x => isPlanN b n (krD x.2)
      | _, _ => false
    | _ => false
/-- what is_plan may be asked of -/
def preP : Nat → D → Prop
  | 0, d => ∀ k ps, d ≠ .tuple [.str k, ps]
  | n + 1, d => ∀ k ps L, d = .tuple [.str k, ps] → putsP ps = some L → L.length ≤ 100000 ∧ ∀ x ∈ L, PyData.strOk x.2.1 = true ∧ preP n (krD x.2)
structure BkZ (n : Nat) (b : Bk) : Prop where
  s : BkS n b
  z : ∀ p ∈ b.trees, p.2.pieces.length ≤ 1000
def IsPlanSp (h n : Nat) (F : FF) : Prop := ∀ (b : Bk) (d : D), BkZ h b → preP n d → F [some ⟨b.enc, .sh⟩, some ⟨d, .sh⟩] = .ok (.sh (.bool (isPlanN b n d))) [none, none]
theorem isPlan_no {b : Bk} {n : Nat} {d : D} (h : ∀ k ps, d ≠ .tuple [.str k, ps]) : isPlanN b n d = false := by
  cases n with
  | zero => rfl
  | succ n =>
    unfold isPlanN
    split
    · exact absurd rfl (h _ _)
    · rfl
section
variable {Fi Fw Ft Fa : FF}
theorem is_plan_ok {h n : Nat} (hi : ∀ m, m + 1 = n → IsPlanSp h m Fi) (hw : WellSp h Fw) (ht : TreeOfSp Ft) (ha : PutsSp Fa) : IsPlanSp h n (fnF 5 2 (m_is_plan Fi Fw Ft Fa)) := fun b d B hp => by
  rw [m_is_plan_eq]
  cases d with
  | tuple ds =>
    match ds, hp with
    | [], _ => rw [isPlan_no (by simp)]; simp [m_is_plan, isTup]
    | [a], _ => rw [isPlan_no (by simp)]; simp [m_is_plan, isTup]
    | u :: v :: w :: r, _ =>
      have z : ¬ ((r.length : Int) + 1 + 1 + 1 = 2) := by omega
      rw [isPlan_no (by simp)]
      simp [m_is_plan, isTup, z]
    | [a, ps], hp =>
      cases a with
      | str k =>
        have e1 := ha ps
        have e2 := ht b k
        cases n with
        | zero => exact absurd rfl (hp k ps)
        | succ n =>
          unfold isPlanN
          dsimp only
          cases hL : putsP ps with
          | none =>
            rw [hL] at e1
            simp [m_is_plan, isTup, isStr, e1]
          | some L =>
            rw [hL] at e1
            obtain ⟨q1, q2⟩ := hp k ps L rfl hL
            cases hk : b.treeOf k with
            | none =>
              rw [hk] at e2
              simp [m_is_plan, isTup, isStr, e1, e2, optT]
            | some t =>
              rw [hk] at e2
              have mt := treeOf_in hk
              have pe : ps = .tuple (L.map encPt) ∧ (L.map (·.1)).Nodup := by
                unfold putsP at hL
                split at hL
                · obtain ⟨r1, _, r3⟩ := goP_rising hL
                  exact ⟨by rw [r1], rising_nodup r3⟩
                · cases hL
              obtain ⟨rfl, nd⟩ := pe
              have e3 := hw b t L B.s (B.s.ok.ht _ mt) (B.z _ mt) nd q1 fun x m => (q2 x m).1
              have loop := forL_look (g := gT 2 (gsC (gN 3) (gsC (gN 4) gsN))) (b := m_is_plan_b1 Fi Fw Ft Fa) [some ⟨b.enc, .sh⟩, some ⟨.tuple [.str k, .tuple (L.map encPt)], .sh⟩, some ⟨t.enc, .sh⟩, none, none] [none, none, none, none, none] encPt (fun x => isPlanN b n (krD x.2)) (.sh (.bool false)) L (fun x mx => by
                have f := hi n rfl b (krD x.2) B (q2 x mx).2
                generalize PyData.tuple (L.map encPt) = PP
                unfold encPt
                unfold krD at f ⊢
                cases q : isPlanN b n (.tuple [.str x.2.1, x.2.2]) <;> rw [q] at f <;> simp [m_is_plan_b1, f])
              have et : ∃ w r, t.enc = .tuple (w :: r) := by cases t <;> exact ⟨_, _, rfl⟩
              have nn : ∀ neg, isD neg t.enc .none = some (.sh (.bool neg)) := fun neg => isD_enc neg t
              have so : optT (some t) = t.enc := rfl
              rw [so] at e2
              have sq : ∀ ρ, seqR (.sh (.tuple (L.map encPt))) ρ = .ok (L.map encPt) ρ := fun ρ => rfl
              generalize PyData.tuple (L.map encPt) = PP at e1 e3 loop sq ⊢
              generalize t.enc = tt at e2 e3 loop nn ⊢
              dsimp only
              cases q3 : wellB b t L with
              | false =>
                rw [q3] at e3
                simp [m_is_plan, isTup, isStr, e1, e2, nn, e3]
              | true =>
                rw [q3] at e3
                rw [Bool.true_and]
                cases q4 : L.all fun x => isPlanN b n (krD x.2) with
                | false =>
                  rw [q4] at loop
                  simp [m_is_plan, isTup, isStr, e1, e2, nn, e3, sq, loop]
                | true =>
                  rw [q4] at loop
                  simp [m_is_plan, isTup, isStr, e1, e2, nn, e3, sq, loop]
      | _ =>
        rw [isPlan_no (by simp)]
        simp [m_is_plan, isTup, isStr]
  | _ =>
    rw [isPlan_no (by simp)]
    simp [m_is_plan, isTup]
end
theorem lexLt_places : ∀ t : Tr, (t.places.map toI).Pairwise fun p q => HT.lexLt p q = true := fun t => by
  have gen : ∀ n : Nat, (∀ t : Tr, t.ht ≤ n → (t.places.map toI).Pairwise fun p q => HT.lexLt p q = true) := fun n => by
    induction n with
    | zero =>
      intro t h
      cases t with
      | knot a b c => rw [Tr.ht] at h; omega
      | _ => simp [Tr.places]
    | succ n ih =>
      intro t h
      have hk : ∀ u ∈ t.kids, u.ht ≤ n := fun u mu => by
        cases t with
        | knot a b c =>
          rw [Tr.ht] at h
          have := ht_mem (ts := c) mu
          omega
        | _ => simp [Tr.kids] at mu
      have kd : ∀ (ts : List Tr) (j : Nat), (∀ u ∈ ts, u.ht ≤ n) → ((Tr.placesL j ts).map toI).Pairwise (fun p q => HT.lexLt p q = true) ∧ ∀ p ∈ Tr.placesL j ts, ∃ k r, p = k :: r ∧ j ≤ k := fun ts => by
        induction ts with
        | nil => intro j _; exact ⟨by simp [Tr.placesL], fun p m => by simp [Tr.placesL] at m⟩
        | cons u ts ih2 =>
          intro j hu
          obtain ⟨g1, g2⟩ := ih2 (j + 1) fun u m => hu u (by simp [m])
          rw [Tr.placesL]
          constructor
          · rw [List.map_append, List.pairwise_append]
            refine ⟨?_, g1, ?_⟩
            · have := ih u (hu u (by simp))
              rw [List.map_map]
              rw [List.pairwise_map] at this ⊢
              refine this.imp fun {p q} l => ?_
              show HT.lexLt ((j : Int) :: toI p) ((j : Int) :: toI q) = true
              rw [HT.lexLt_cons, if_pos rfl]
              exact l
            · intro p mp q mq
              obtain ⟨p', mp', rfl⟩ := List.mem_map.mp mp
              obtain ⟨p'', _, rfl⟩ := List.mem_map.mp mp'
              obtain ⟨q', mq', rfl⟩ := List.mem_map.mp mq
              obtain ⟨k, r, rfl, hk⟩ := g2 q' mq'
              show HT.lexLt ((j : Int) :: toI p'') ((k : Int) :: toI r) = true
              rw [HT.lexLt_cons, if_neg (by omega), decide_eq_true_eq]
              omega
          · intro p mp
            rcases List.mem_append.mp mp with mp | mp
            · obtain ⟨p', _, rfl⟩ := List.mem_map.mp mp
              exact ⟨j, p', rfl, Nat.le_refl _⟩
            · obtain ⟨k, r, e, hk⟩ := g2 p mp
              exact ⟨k, r, e, by omega⟩
      obtain ⟨g1, g2⟩ := kd t.kids 0 hk
      rw [places_kids, List.map_cons]
      refine .cons (fun q mq => ?_) g1
      obtain ⟨q', mq', rfl⟩ := List.mem_map.mp mq
      obtain ⟨k, r, rfl, _⟩ := g2 q' mq'
      rfl
  exact gen t.ht t (Nat.le_refl _)
/-- a put as a datum -/
def ptOf (x : List Nat × Pl) : Pt := (toI x.1, x.2.key, .tuple (x.2.puts.map Pl.encX))
theorem ptOf_enc (x : List Nat × Pl) : Pl.encX x = encPt (ptOf x) := by
  rw [pencX_eq, encP_I, penc_eq]
  rfl
theorem krD_pt (x : List Nat × Pl) : krD (ptOf x).2 = x.2.enc := by rw [penc_eq]; rfl
theorem goP_of : ∀ (ps : List (List Nat × Pl)) (a : Option (List Int)), (∀ x ∈ ps, ltO a (toI x.1) = true) → (ps.map fun x => toI x.1).Pairwise (fun p q => HT.lexLt p q = true) → goP a (ps.map Pl.encX) = some (ps.map ptOf)
  | [], _, _, _ => rfl
  | x :: ps, a, h1, h2 => by
    rw [List.map_cons] at h2
    cases h2 with
    | cons q1 q2 =>
      have r := goP_of ps (some (toI x.1)) (fun y my => q1 _ (List.mem_map_of_mem (f := fun x : List Nat × Pl => toI x.1) my)) q2
      rw [List.map_cons, goP, ptOf_enc, putP_enc]
      dsimp only
      rw [show (ptOf x).1 = toI x.1 from rfl, h1 x (by simp), if_pos rfl, r]
      rfl
theorem PutsOk.sub {b : Bk} : ∀ {us : List (List Nat × Tr)} {ps : List (List Nat × Pl)}, PutsOk b us ps → (ps.map (·.1)).Sublist (us.map (·.1))
  | _, _, .nil => .slnil
  | _, _, .skip _ r => (PutsOk.sub r).cons _
  | _, _, .put _ _ r => (PutsOk.sub r).cons₂ _
theorem getI_no {ps : List (List Nat × Pl)} {p : List Nat} (h : p ∉ ps.map (·.1)) : getI (ps.map ptOf) (toI p) = none := by
  unfold getI
  rw [Option.map_eq_none_iff, List.find?_eq_none]
  intro x mx
  obtain ⟨y, my, rfl⟩ := List.mem_map.mp mx
  simp only [decide_eq_true_eq]
  intro e
  exact h (by rw [← toI_inj e]; exact List.mem_map_of_mem my)
theorem PutsOk.at {b : Bk} : ∀ {us : List (List Nat × Tr)} {ps : List (List Nat × Pl)}, PutsOk b us ps → (us.map (·.1)).Nodup → ∀ x ∈ us, okAt b (ps.map ptOf) x = true
  | _, _, .nil, _, x, m => by cases m
  | _, _, .skip (p := p) (u := u) (us := us) (ps := ps) hm r, nd, x, m => by
    rw [List.map_cons, List.nodup_cons] at nd
    rcases List.mem_cons.mp m with rfl | m
    · unfold okAt
      rw [getI_no fun m => nd.1 ((PutsOk.sub r).subset m), hm]
      rfl
    · exact PutsOk.at r nd.2 x m
  | _, _, .put (p := p) (u := u) (q := q) (us := us) (ps := ps) hk _ r, nd, x, m => by
    rw [List.map_cons, List.nodup_cons] at nd
    rcases List.mem_cons.mp m with rfl | m
    · unfold okAt getI
      rw [List.map_cons, List.find?_cons, show decide ((ptOf (p, q)).1 = toI p) = true from decide_eq_true rfl]
      exact decide_eq_true hk
    · have r := PutsOk.at r nd.2 x m
      have ne : ¬ (ptOf (p, q)).1 = toI x.1 := fun e => nd.1 (by
        have : p = x.1 := toI_inj e
        rw [this]
        exact List.mem_map.mpr ⟨x, m, rfl⟩)
      unfold okAt getI at r ⊢
      rw [List.map_cons, List.find?_cons, decide_eq_false ne]
      exact r
theorem pps_places (t : Tr) : (t.pps []).map (·.1) = t.places := by rw [pps_fst]; simp
theorem well_of {b : Bk} {t : Tr} {ps : List (List Nat × Pl)} (h : PutsOk b (t.pps []) ps) : wellB b t (ps.map ptOf) = true := by
  have hr := lexLt_places t
  have nd : ((t.pps []).map (·.1)).Nodup := by
    rw [pps_places]
    exact List.Pairwise.of_map toI (fun a b h e => h (by rw [e])) (rising_nodup hr)
  unfold wellB
  rw [Bool.and_eq_true, List.all_eq_true, List.all_eq_true]
  refine ⟨fun x m => h.at nd x m, fun x m => ?_⟩
  obtain ⟨y, my, rfl⟩ := List.mem_map.mp m
  refine decide_eq_true ?_
  refine List.mem_map_of_mem (f := toI) ?_
  rw [← pps_places]
  exact h.sub.subset (List.mem_map_of_mem my)
theorem puts_of {b : Bk} {t : Tr} {ps : List (List Nat × Pl)} (h : PutsOk b (t.pps []) ps) : putsP (.tuple (ps.map Pl.encX)) = some (ps.map ptOf) := by
  refine goP_of ps none (fun _ _ => rfl) ?_
  have hr := lexLt_places t
  rw [← pps_places] at hr
  have := hr.sublist (h.sub.map toI)
  rw [List.map_map] at this
  exact this
theorem depX_le {ps : List (List Nat × Pl)} {n : Nat} (h : Pl.depL ps ≤ n) : ∀ x ∈ ps, x.2.dep ≤ n := by
  induction ps with
  | nil => intro x m; cases m
  | cons y ps ih =>
    intro x m
    obtain ⟨p, q⟩ := y
    rw [Pl.depL, Pl.depX] at h
    rcases List.mem_cons.mp m with rfl | m
    · show q.dep ≤ n
      omega
    · exact ih (by omega) x m
theorem PutsOk.each {b : Bk} : ∀ {us : List (List Nat × Tr)} {ps : List (List Nat × Pl)}, PutsOk b us ps → ∀ x ∈ ps, PlOk b x.2
  | _, _, .nil, x, m => by cases m
  | _, _, .skip _ r, x, m => PutsOk.each r x m
  | _, _, .put _ o r, x, m => by
    rcases List.mem_cons.mp m with rfl | m
    · exact o
    · exact PutsOk.each r x m
theorem PlOk.is {b : Bk} : ∀ {n : Nat} {q : Pl}, PlOk b q → q.dep ≤ n → isPlanN b n q.enc = true
  | 0, .mk k ps, _, h => by rw [Pl.dep] at h; omega
  | n + 1, .mk k ps, .mk e r, h => by
    rw [Pl.dep] at h
    rw [penc_eq]
    unfold isPlanN
    dsimp only [Pl.key, Pl.puts]
    rw [puts_of r, e]
    dsimp only
    rw [well_of r, Bool.true_and, List.all_eq_true]
    intro x m
    obtain ⟨y, my, rfl⟩ := List.mem_map.mp m
    rw [krD_pt]
    exact PlOk.is (r.each y my) (depX_le (by omega) y my)
theorem PlOk.keyIn {b : Bk} {q : Pl} (h : PlOk b q) : ∃ t, b.treeOf q.key = some t := by
  cases h with
  | mk e _ => exact ⟨_, e⟩
theorem PlOk.pre {h : Nat} {b : Bk} (B : BkZ h b) : ∀ {n : Nat} {q : Pl}, PlOk b q → q.dep ≤ n → preP n q.enc
  | 0, .mk k ps, _, h => by rw [Pl.dep] at h; omega
  | n + 1, .mk k ps, .mk (t := t) e r, h => by
    rw [Pl.dep] at h
    rw [penc_eq]
    intro k' ps' L eq hL
    dsimp only [Pl.key, Pl.puts] at eq
    injection eq with eq
    injection eq with e1 eq
    injection eq with e2 _
    rw [← e2, puts_of r] at hL
    cases hL
    constructor
    · have h1 := r.sub.length_le
      have h2 := B.z _ (treeOf_in e)
      rw [List.length_map, List.length_map, pps_len] at h1
      dsimp only at h2
      rw [List.length_map]
      omega
    · intro x m
      obtain ⟨y, my, rfl⟩ := List.mem_map.mp m
      have o := r.each y my
      obtain ⟨t', et⟩ := o.keyIn
      refine ⟨B.s.so _ (treeOf_in et), ?_⟩
      rw [krD_pt]
      exact PlOk.pre B o (depX_le (by omega) y my)
end GM
namespace GM
open PySem L2 GS
/-- is_whole(book, plan); slots 0:book 1:plan 2:tree -/
def m_is_whole (F_name_of F_is_graft F_tree_of : FF) : SF := (sSeq (sSet 2 (eCall 2 none F_tree_of (aCons (eMv 0) (aCons (eBin ixA (eVb 1) (eC (.int 0))) aNil)))) (sEnd (sRet (eAnd (eB (eNot (eB (eCall 1 none F_is_graft (aCons (eMv 2) aNil))))) (eBin (eqB false) (eCall 1 none F_name_of (aCons (eMv 2) aNil)) (eBin ixA (eVb 0) (eC (.int 0))))))))
theorem m_is_whole_eq (F_name_of F_is_graft F_tree_of : FF) (ρ : Rho) : fnF 3 2 (m_is_whole F_name_of F_is_graft F_tree_of) ρ = finR 2 (m_is_whole F_name_of F_is_graft F_tree_of (ρ ++ [none])) := fnF_eq 3 2 _
end GM
namespace GM
open PySem L2 GS
def Tr.whole (t : Tr) (top : Str) : Bool := !decide (t.feet.length = 1) && decide (t.name = top)
def WholeSp (n : Nat) (F : FF) : Prop := ∀ (b : Bk) (q : Pl) (t : Tr), b.treeOf q.key = some t → t.ht ≤ n → t.pieces.length ≤ 100000 → t ≠ .void → F [some ⟨b.enc, .sh⟩, some ⟨q.enc, .sh⟩] = .ok (.sh (.bool (t.whole b.top))) [none, none]
theorem ix_key (q : Pl) : ixA q.enc (.int 0) = some (.sh (.str q.key)) := by rw [penc_eq]; simp
theorem ix_puts (q : Pl) : ixA q.enc (.int 1) = some (.sh (.tuple (q.puts.map Pl.encX))) := by rw [penc_eq]; simp
theorem is_whole_ok {n : Nat} {Fn Fg Ft : FF} (hn : NameOfSp n Fn) (hg : GraftSp n Fg) (ht : TreeOfSp Ft) : WholeSp n (fnF 3 2 (m_is_whole Fn Fg Ft)) := fun b q t et hh hz hv => by
  rw [m_is_whole_eq]
  have e1 := ht b q.key
  rw [et] at e1
  have so : optT (some t) = t.enc := rfl
  rw [so] at e1
  have e2 := hg t hh hz
  have e3 := hn t hh hz hv
  have i1 := ix_key q
  have i2 := ix_top b
  unfold Tr.whole
  generalize q.enc = qe at i1 ⊢
  generalize t.enc = te at e1 e2 e3
  generalize b.enc = be at e1 i2 ⊢
  by_cases c : t.feet.length = 1
  · rw [decide_eq_true c] at e2 ⊢
    simp [m_is_whole, i1, i2, e1, e2, e3]
  · rw [decide_eq_false c] at e2 ⊢
    simp [m_is_whole, i1, i2, e1, e2, e3]
theorem sizeL_mem {ps : List (List Nat × Pl)} : ∀ x ∈ ps, x.2.size ≤ Pl.sizeL ps := by
  induction ps with
  | nil => intro x m; cases m
  | cons y ps ih =>
    intro x m
    obtain ⟨p, q⟩ := y
    rw [Pl.sizeL, Pl.sizeX]
    rcases List.mem_cons.mp m with rfl | m
    · show q.size ≤ _
      omega
    · have := ih x m
      omega
mutual
def Pl.within : Pl → List Pl
  | .mk k ps => .mk k ps :: Pl.withinL ps
def Pl.withinL : List (List Nat × Pl) → List Pl
  | [] => []
  | x :: r => Pl.withinX x ++ Pl.withinL r
def Pl.withinX : List Nat × Pl → List Pl
  | (_, q) => q.within
end
mutual
theorem within_len : ∀ q : Pl, q.within.length = q.size
  | .mk k ps => by rw [Pl.within, Pl.size, List.length_cons, withinL_len ps]; omega
theorem withinL_len : ∀ ps : List (List Nat × Pl), (Pl.withinL ps).length = Pl.sizeL ps
  | [] => rfl
  | x :: r => by rw [Pl.withinL, Pl.sizeL, List.length_append, withinX_len x, withinL_len r]
theorem withinX_len : ∀ x : List Nat × Pl, (Pl.withinX x).length = Pl.sizeX x
  | (p, q) => by rw [Pl.withinX, Pl.sizeX, within_len q]
end
theorem withinL_flat (ps : List (List Nat × Pl)) : Pl.withinL ps = ps.flatMap fun x => x.2.within := by
  induction ps with
  | nil => rfl
  | cons y ps ih =>
    obtain ⟨p, q⟩ := y
    rw [Pl.withinL, Pl.withinX, ih, List.flatMap_cons]
mutual
theorem PlOk.inner {b : Bk} : ∀ {q : Pl}, PlOk b q → ∀ r ∈ q.within, PlOk b r ∧ r.dep ≤ q.dep ∧ r.size ≤ q.size
  | .mk k ps, .mk e o, r, m => by
    rw [Pl.within] at m
    rcases List.mem_cons.mp m with rfl | m
    · exact ⟨.mk e o, Nat.le_refl _, Nat.le_refl _⟩
    · obtain ⟨h1, h2, h3⟩ := PutsOk.inner o r m
      rw [Pl.dep, Pl.size]
      exact ⟨h1, by omega, by omega⟩
theorem PutsOk.inner {b : Bk} : ∀ {us : List (List Nat × Tr)} {ps : List (List Nat × Pl)}, PutsOk b us ps → ∀ r ∈ Pl.withinL ps, PlOk b r ∧ r.dep ≤ Pl.depL ps ∧ r.size ≤ Pl.sizeL ps
  | _, _, .nil, r, m => by cases m
  | _, _, .skip _ o, r, m => PutsOk.inner o r m
  | _, _, .put _ q o, r, m => by
    rw [Pl.withinL, Pl.withinX] at m
    rw [Pl.depL, Pl.depX, Pl.sizeL, Pl.sizeX]
    rcases List.mem_append.mp m with m | m
    · obtain ⟨h1, h2, h3⟩ := PlOk.inner q r m
      exact ⟨h1, by omega, by omega⟩
    · obtain ⟨h1, h2, h3⟩ := PutsOk.inner o r m
      exact ⟨h1, by omega, by omega⟩
end
end GM
namespace GS
open PySem L2
end GS
namespace GM
open PySem L2 GS
mutual
/-- a tree with another one in the place of its foot -/
def Tr.wf (o : Tr) : Tr → Tr
  | .foot _ => o
  | .knot n tk ks => .knot n tk (Tr.wfL o ks)
  | .sign s => .sign s
  | .void => .void
  | .hole s => .hole s
def Tr.wfL (o : Tr) : List Tr → List Tr
  | [] => []
  | t :: ts => Tr.wf o t :: Tr.wfL o ts
end
theorem wfL_map (o : Tr) : ∀ ts : List Tr, Tr.wfL o ts = ts.map (Tr.wf o)
  | [] => rfl
  | t :: ts => by rw [Tr.wfL, wfL_map o ts, List.map_cons]
mutual
/-- a piece, with what is put in and at it: g tells what is built of what is put at a place -/
def bAt (g : List Nat → Option Tr) (p : List Nat) : Tr → Tr
  | .hole s => (g p).getD (.hole s)
  | .knot n tk ks => match g p with
    | some o => Tr.wf (.knot n none (bAtL g p 0 ks)) o
    | none => .knot n none (bAtL g p 0 ks)
  | .sign s => .sign s
  | .void => .void
  | .foot s => .foot s
def bAtL (g : List Nat → Option Tr) (p : List Nat) (k : Nat) : List Tr → List Tr
  | [] => []
  | t :: ts => bAt g (p ++ [k]) t :: bAtL g p (k + 1) ts
end
def getN (ps : List (List Nat × Pl)) (p : List Nat) : Option Pl := (ps.find? fun x => decide (x.1 = p)).map (·.2)
def builtN (b : Bk) : Nat → Pl → Tr
  | 0, _ => .void
  | n + 1, q => bAt (fun p => (getN q.puts p).map (builtN b n)) [] ((b.treeOf q.key).getD .void)
def flatT {α : Type} (f : Tr → List α) (t : Tr) : List α := t.pieces.flatMap f
theorem flat_kids {α : Type} (f : Tr → List α) (t : Tr) : flatT f t = f t ++ t.kids.flatMap (flatT f) := by
  unfold flatT
  rw [pieces_kids, List.flatMap_cons, List.flatMap_assoc]
theorem flat_knot {α : Type} (f : Tr → List α) (n : Str) (tk : Option (Str × Bool)) (ks : List Tr) : flatT f (.knot n tk ks) = f (.knot n tk ks) ++ ks.flatMap (flatT f) := flat_kids f _
structure Own {α : Type} (f : Tr → List α) : Prop where
  ft : ∀ s, f (.foot s) = []
  kn : ∀ n tk ks tk' ks', f (.knot n tk ks) = f (.knot n tk' ks')
theorem perm_mid {α : Type} (a b c : List α) : (a ++ b ++ c).Perm (a ++ c ++ b) := by
  rw [List.append_assoc, List.append_assoc]
  exact List.perm_append_comm.append_left a
mutual
theorem wf_none (o : Tr) : ∀ t : Tr, t.feet = [] → Tr.wf o t = t
  | .foot s, h => by simp [Tr.feet, Tr.pieces, Tr.footN] at h
  | .knot n tk ks, h => by
    rw [feet_knot] at h
    rw [Tr.wf, wfL_none o ks h]
  | .sign s, _ => rfl
  | .void, _ => rfl
  | .hole s, _ => rfl
theorem wfL_none (o : Tr) : ∀ ts : List Tr, ts.flatMap Tr.feet = [] → Tr.wfL o ts = ts
  | [], _ => rfl
  | t :: ts, h => by
    rw [List.flatMap_cons, List.append_eq_nil_iff] at h
    rw [Tr.wfL, wf_none o t h.1, wfL_none o ts h.2]
end
mutual
theorem wf_flat {α : Type} {f : Tr → List α} (F : Own f) (o : Tr) : ∀ t : Tr, t.feet.length = 1 → (flatT f (Tr.wf o t)).Perm (flatT f t ++ flatT f o) ∧ (Tr.wf o t).feet = o.feet
  | .foot s, h => by
    refine ⟨?_, rfl⟩
    rw [Tr.wf, show flatT f (.foot s) = f (.foot s) ++ [] from flat_kids f _, F.ft, List.append_nil, List.nil_append]
  | .knot n tk ks, h => by
    rw [feet_knot] at h
    obtain ⟨h1, h2⟩ := wfL_flat F o ks h
    rw [Tr.wf, flat_knot, flat_knot, F.kn n tk (Tr.wfL o ks) tk ks, List.append_assoc, feet_knot]
    exact ⟨h1.append_left _, h2⟩
  | .sign s, h => by cases (show (0 : Nat) = 1 from h)
  | .void, h => by cases (show (0 : Nat) = 1 from h)
  | .hole s, h => by cases (show (0 : Nat) = 1 from h)
theorem wfL_flat {α : Type} {f : Tr → List α} (F : Own f) (o : Tr) : ∀ ts : List Tr, (ts.flatMap Tr.feet).length = 1 → ((Tr.wfL o ts).flatMap (flatT f)).Perm (ts.flatMap (flatT f) ++ flatT f o) ∧ (Tr.wfL o ts).flatMap Tr.feet = o.feet
  | [], h => by simp at h
  | t :: ts, h => by
    rw [List.flatMap_cons, List.length_append] at h
    rw [Tr.wfL, List.flatMap_cons, List.flatMap_cons, List.flatMap_cons]
    by_cases c : t.feet.length = 1
    · have hn : ts.flatMap Tr.feet = [] := List.eq_nil_of_length_eq_zero (by omega)
      obtain ⟨h1, h2⟩ := wf_flat F o t c
      rw [wfL_none o ts hn, h2, hn, List.append_nil]
      exact ⟨(h1.append_right _).trans (perm_mid _ _ _), rfl⟩
    · have hn : t.feet = [] := List.eq_nil_of_length_eq_zero (by omega)
      obtain ⟨h1, h2⟩ := wfL_flat F o ts (by omega)
      rw [wf_none o t hn, hn, List.nil_append, List.append_assoc]
      exact ⟨h1.append_left _, h2⟩
end
mutual
theorem wf_ht (o : Tr) : ∀ t : Tr, (Tr.wf o t).ht ≤ t.ht + o.ht
  | .foot s => by rw [Tr.wf]; omega
  | .knot n tk ks => by
    have := wfL_ht o ks
    rw [Tr.wf, Tr.ht, Tr.ht]
    omega
  | .sign s => by simp [Tr.wf, Tr.ht]
  | .void => by simp [Tr.wf, Tr.ht]
  | .hole s => by simp [Tr.wf, Tr.ht]
theorem wfL_ht (o : Tr) : ∀ ts : List Tr, Tr.htL (Tr.wfL o ts) ≤ Tr.htL ts + o.ht
  | [] => by simp [Tr.wfL, Tr.htL]
  | t :: ts => by
    have h1 := wf_ht o t
    have h2 := wfL_ht o ts
    rw [Tr.wfL, Tr.htL, Tr.htL]
    omega
end
theorem PutsOk.split {b : Bk} : ∀ {us vs : List (List Nat × Tr)} {ps : List (List Nat × Pl)}, PutsOk b (us ++ vs) ps → ∃ ps1 ps2, ps = ps1 ++ ps2 ∧ PutsOk b us ps1 ∧ PutsOk b vs ps2
  | [], vs, ps, h => ⟨[], ps, rfl, .nil, h⟩
  | (p, u) :: us, vs, ps, h => by
    cases h with
    | skip m r =>
      obtain ⟨a, c, e, h1, h2⟩ := PutsOk.split r
      exact ⟨a, c, e, .skip m h1, h2⟩
    | put m o r =>
      obtain ⟨a, c, e, h1, h2⟩ := PutsOk.split r
      exact ⟨_ :: a, c, by rw [e]; rfl, .put m o h1, h2⟩
theorem getN_no {ps : List (List Nat × Pl)} {p : List Nat} (h : p ∉ ps.map (·.1)) : getN ps p = none := by
  unfold getN
  rw [Option.map_eq_none_iff, List.find?_eq_none]
  intro x mx
  simp only [decide_eq_true_eq]
  intro e
  exact h (by rw [← e]; exact List.mem_map_of_mem mx)
theorem getN_left {a c : List (List Nat × Pl)} {p : List Nat} (h : p ∉ c.map (·.1)) : getN (a ++ c) p = getN a p := by
  have := getN_no h
  unfold getN at this ⊢
  rw [List.find?_append]
  cases h1 : a.find? fun x => decide (x.1 = p) with
  | none => rw [Option.none_or]; exact this
  | some x => rfl
theorem getN_right {a c : List (List Nat × Pl)} {p : List Nat} (h : p ∉ a.map (·.1)) : getN (a ++ c) p = getN c p := by
  have := getN_no h
  unfold getN at this ⊢
  rw [List.find?_append]
  rw [Option.map_eq_none_iff] at this
  rw [this]
  rfl
theorem getN_head (p : List Nat) (q : Pl) (ps : List (List Nat × Pl)) : getN ((p, q) :: ps) p = some q := by
  unfold getN
  rw [List.find?_cons, decide_eq_true rfl]
  rfl
/-- .. and nothing of a hole's own -/
def f0 {α : Type} (f : Tr → List α) : Tr → List α
  | .hole _ => []
  | t => f t
theorem starts_of {h : Nat} {b : Bk} (B : BookOk h b) {u : Tr} {k : Str} (m : k ∈ b.takers u) {t : Tr} (e : b.treeOf k = some t) : ∃ g n c, u.want = some (g, n, c) ∧ t.isGraft = g := by
  unfold Bk.takers at m
  cases hw : u.want with
  | none => rw [hw] at m; cases m
  | some w =>
    obtain ⟨g, n, c⟩ := w
    rw [hw] at m
    obtain ⟨p, mp, rfl⟩ := List.mem_map.mp m
    obtain ⟨mp, hp⟩ := List.mem_filter.mp mp
    have := treeOf_mem B.nd mp
    rw [e] at this
    cases this
    rw [Bool.and_eq_true, decide_eq_true_eq] at hp
    exact ⟨g, n, c, rfl, hp.1⟩
def kT (b : Bk) (k : Str) : Tr := (b.treeOf k).getD .void
section
variable {α : Type} {f : Tr → List α} {h : Nat} {b : Bk} {g : List Nat → Option Tr} {G : Pl → Tr}
mutual
theorem bAt_flat (F : Own f) (B : BookOk h b) : ∀ (t : Tr) (p : List Nat) (ps : List (List Nat × Pl)), PutsOk b (t.pps p) ps → ((t.pps p).map (·.1)).Nodup → (∀ x ∈ t.pps p, g x.1 = (getN ps x.1).map G) → (∀ x ∈ ps, (G x.2).feet = (kT b x.2.key).feet) →
    (flatT f (bAt g p t)).Perm (flatT (f0 f) t ++ ps.flatMap fun x => flatT f (G x.2)) ∧ (bAt g p t).feet = t.feet
  | .sign s, p, ps, o, nd, hg, hf => by
    rw [Tr.pps] at o
    cases o with
    | skip m r => cases r; exact ⟨by rw [bAt, List.flatMap_nil, List.append_nil]; exact .refl _, rfl⟩
    | put m _ _ => cases m
  | .void, p, ps, o, nd, hg, hf => by
    rw [Tr.pps] at o
    cases o with
    | skip m r => cases r; exact ⟨by rw [bAt, List.flatMap_nil, List.append_nil]; exact .refl _, rfl⟩
    | put m _ _ => cases m
  | .foot s, p, ps, o, nd, hg, hf => by
    rw [Tr.pps] at o
    cases o with
    | skip m r => cases r; exact ⟨by rw [bAt, List.flatMap_nil, List.append_nil]; exact .refl _, rfl⟩
    | put m _ _ => cases m
  | .hole s, p, ps, o, nd, hg, hf => by
    rw [Tr.pps] at o
    cases o with
    | skip m r => cases m
    | put m oq r =>
      rename_i q qs
      cases r
      have e := hg (p, .hole s) (by simp [Tr.pps])
      dsimp only at e
      rw [getN_head] at e
      obtain ⟨t, et⟩ := oq.keyIn
      obtain ⟨g', n, c, w1, w2⟩ := starts_of B m et
      cases w1
      have T := B.trees _ (treeOf_in et)
      have ff := hf (p, q) (by simp)
      have nf : t.feet = [] := by
        have := T.feet
        dsimp only at this
        unfold Tr.isGraft at w2
        rw [decide_eq_false_iff_not] at w2
        exact List.eq_nil_of_length_eq_zero (by omega)
      rw [bAt, e]
      dsimp only [Option.map_some, Option.getD_some]
      constructor
      · rw [List.flatMap_cons, List.flatMap_nil, List.append_nil, show flatT (f0 f) (.hole s) = f0 f (.hole s) ++ [] from flat_kids _ _]
        exact .refl _
      · dsimp only at ff
        rw [ff]
        unfold kT
        rw [et]
        exact nf
  | .knot n tk ks, p, ps, o, nd, hg, hf => by
    rw [Tr.pps] at o nd
    rw [List.map_cons, List.nodup_cons] at nd
    have kd : ∀ rs, PutsOk b (Tr.ppsL p 0 ks) rs → (∀ x ∈ rs, x ∈ ps) → (∀ x ∈ Tr.ppsL p 0 ks, g x.1 = (getN rs x.1).map G) → (flatT f (.knot n none (bAtL g p 0 ks))).Perm (flatT (f0 f) (.knot n tk ks) ++ rs.flatMap fun x => flatT f (G x.2)) ∧ (Tr.knot n none (bAtL g p 0 ks)).feet = (Tr.knot n tk ks).feet := fun rs ro sub ag => by
      obtain ⟨h1, h2⟩ := bAtL_flat F B ks p 0 rs ro nd.2 ag (fun x m => hf x (sub x m))
      rw [flat_knot, flat_knot, feet_knot, feet_knot, List.append_assoc]
      constructor
      · rw [F.kn n none (bAtL g p 0 ks) tk ks]
        exact h1.append_left _
      · exact h2
    have hp0 := hg (p, .knot n tk ks) (by rw [Tr.pps]; simp)
    dsimp only at hp0
    cases o with
    | skip m r =>
      have np : p ∉ ps.map (·.1) := fun e => nd.1 (r.sub.subset e)
      rw [getN_no np] at hp0
      have hp0 : g p = none := hp0
      obtain ⟨h1, h2⟩ := kd ps r (fun _ m => m) (fun x m => hg x (by rw [Tr.pps]; simp [m]))
      rw [bAt, hp0]
      exact ⟨h1, h2⟩
    | put m oq r =>
      rename_i q qs
      rw [getN_head] at hp0
      have hp0 : g p = some (G q) := hp0
      obtain ⟨h1, h2⟩ := kd qs r (fun _ m => by simp [m]) (fun x mx => by
        have e := hg x (by rw [Tr.pps]; simp [mx])
        have ne : ¬ p = x.1 := fun e => nd.1 (List.mem_map.mpr ⟨x, mx, e.symm⟩)
        rw [e]
        unfold getN
        rw [List.find?_cons, decide_eq_false ne])
      obtain ⟨t, et⟩ := oq.keyIn
      obtain ⟨g', n', c, w1, w2⟩ := starts_of B m et
      have gt : g' = true := by
        cases tk with
        | none => cases w1
        | some z => cases z; cases w1; rfl
      subst gt
      have ff := hf (p, q) (by simp)
      dsimp only at ff
      have lf : (G q).feet.length = 1 := by
        rw [ff]
        unfold kT
        rw [et]
        unfold Tr.isGraft at w2
        exact of_decide_eq_true w2
      obtain ⟨v1, v2⟩ := wf_flat F (.knot n none (bAtL g p 0 ks)) (G q) lf
      rw [bAt, hp0]
      dsimp only
      constructor
      · refine v1.trans ?_
        rw [List.flatMap_cons]
        refine (h1.append_left _).trans ?_
        dsimp only
        rw [← List.append_assoc, ← List.append_assoc]
        exact (List.perm_append_comm).append_right _
      · rw [v2, h2]
theorem bAtL_flat (F : Own f) (B : BookOk h b) : ∀ (ts : List Tr) (p : List Nat) (k : Nat) (ps : List (List Nat × Pl)), PutsOk b (Tr.ppsL p k ts) ps → ((Tr.ppsL p k ts).map (·.1)).Nodup → (∀ x ∈ Tr.ppsL p k ts, g x.1 = (getN ps x.1).map G) → (∀ x ∈ ps, (G x.2).feet = (kT b x.2.key).feet) →
    ((bAtL g p k ts).flatMap (flatT f)).Perm (ts.flatMap (flatT (f0 f)) ++ ps.flatMap fun x => flatT f (G x.2)) ∧ (bAtL g p k ts).flatMap Tr.feet = ts.flatMap Tr.feet
  | [], p, k, ps, o, nd, hg, hf => by
    rw [Tr.ppsL] at o
    cases o
    exact ⟨.refl _, rfl⟩
  | t :: ts, p, k, ps, o, nd, hg, hf => by
    rw [Tr.ppsL] at o nd
    obtain ⟨a, c, rfl, o1, o2⟩ := o.split
    rw [List.map_append, List.nodup_append] at nd
    obtain ⟨n1, n2, n3⟩ := nd
    obtain ⟨h1, h2⟩ := bAt_flat F B t (p ++ [k]) a o1 n1 (fun x m => by
      rw [hg x (by rw [Tr.ppsL]; simp [m]), getN_left fun e => n3 _ (List.mem_map_of_mem m) _ (o2.sub.subset e) rfl]) (fun x m => hf x (by simp [m]))
    obtain ⟨h3, h4⟩ := bAtL_flat F B ts p (k + 1) c o2 n2 (fun x m => by
      rw [hg x (by rw [Tr.ppsL]; simp [m]), getN_right fun e => n3 _ (o1.sub.subset e) _ (List.mem_map_of_mem m) rfl]) (fun x m => hf x (by simp [m]))
    rw [bAtL, List.flatMap_cons, List.flatMap_cons, List.flatMap_cons, List.flatMap_cons, h2, h4, List.flatMap_append]
    refine ⟨?_, rfl⟩
    refine (h1.append h3).trans ?_
    generalize flatT (f0 f) t = x1
    generalize List.flatMap (flatT (f0 f)) ts = x2
    generalize (List.flatMap (fun x : List Nat × Pl => flatT f (G x.2)) a) = y1
    generalize (List.flatMap (fun x : List Nat × Pl => flatT f (G x.2)) c) = y2
    rw [List.append_assoc, List.append_assoc]
    refine List.Perm.append_left x1 ?_
    rw [← List.append_assoc, ← List.append_assoc]
    exact List.perm_append_comm.append_right y2
end
end
end GM
namespace GM
open PySem L2 GS
mutual
def Pl.keys : Pl → List Str
  | .mk k ps => k :: Pl.keysL ps
def Pl.keysL : List (List Nat × Pl) → List Str
  | [] => []
  | x :: r => Pl.keysX x ++ Pl.keysL r
def Pl.keysX : List Nat × Pl → List Str
  | (_, q) => q.keys
end
theorem keysL_flat (ps : List (List Nat × Pl)) : Pl.keysL ps = ps.flatMap fun x => x.2.keys := by
  induction ps with
  | nil => rfl
  | cons y ps ih =>
    obtain ⟨p, q⟩ := y
    rw [Pl.keysL, Pl.keysX, ih, List.flatMap_cons]
mutual
theorem keys_len : ∀ q : Pl, q.keys.length = q.size
  | .mk k ps => by rw [Pl.keys, Pl.size, List.length_cons, keysL_len ps]; omega
theorem keysL_len : ∀ ps : List (List Nat × Pl), (Pl.keysL ps).length = Pl.sizeL ps
  | [] => rfl
  | x :: r => by rw [Pl.keysL, Pl.sizeL, List.length_append, keysX_len x, keysL_len r]
theorem keysX_len : ∀ x : List Nat × Pl, (Pl.keysX x).length = Pl.sizeX x
  | (p, q) => by rw [Pl.keysX, Pl.sizeX, keys_len q]
end
theorem pps_nodup (t : Tr) : ((t.pps []).map (·.1)).Nodup := by
  rw [pps_places]
  exact List.Pairwise.of_map toI (fun a b h e => h (by rw [e])) (rising_nodup (lexLt_places t))
theorem perm_congr {α β : Type} {u v : α → List β} : ∀ {ps : List α}, (∀ x ∈ ps, (u x).Perm (v x)) → (ps.flatMap u).Perm (ps.flatMap v)
  | [], _ => .refl _
  | x :: ps, h => by
    rw [List.flatMap_cons, List.flatMap_cons]
    exact (h x (by simp)).append (perm_congr fun y m => h y (by simp [m]))
theorem built_flat {α : Type} {f : Tr → List α} (F : Own f) {h : Nat} {b : Bk} (B : BookOk h b) : ∀ {n : Nat} {q : Pl}, PlOk b q → q.dep ≤ n → (flatT f (builtN b n q)).Perm (q.keys.flatMap fun k => flatT (f0 f) (kT b k)) ∧ (builtN b n q).feet = (kT b q.key).feet
  | 0, .mk k ps, _, h => by rw [Pl.dep] at h; omega
  | n + 1, .mk k ps, .mk (t := t) e r, hd => by
    rw [Pl.dep] at hd
    have ih : ∀ x ∈ ps, (flatT f (builtN b n x.2)).Perm (x.2.keys.flatMap fun k => flatT (f0 f) (kT b k)) ∧ (builtN b n x.2).feet = (kT b x.2.key).feet := fun x m => built_flat F B (r.each x m) (depX_le (by omega) x m)
    obtain ⟨h1, h2⟩ := bAt_flat (g := fun p => (getN ps p).map (builtN b n)) (G := builtN b n) F B t [] ps r (pps_nodup t) (fun x m => rfl) (fun x m => (ih x m).2)
    have kt : kT b k = t := by unfold kT; rw [e]; rfl
    unfold builtN
    dsimp only [Pl.key, Pl.puts]
    rw [e, Option.getD_some, kt, Pl.keys, List.flatMap_cons, kt, keysL_flat, List.flatMap_assoc]
    exact ⟨h1.trans ((perm_congr fun x m => (ih x m).1).append_left _), h2⟩
theorem base_nil {h : Nat} {b : Bk} (B : BookOk h b) {k : Str} {ps : List (List Nat × Pl)} (o : PlOk b (.mk k ps)) (hk : k ∈ baseK) : ps = [] := by
  cases o with
  | mk e r =>
    rename_i t
    have nw := (B.bs _ (treeOf_in e) hk).w
    have none : ∀ {vs : List (List Nat × Tr)} {rs : List (List Nat × Pl)}, (∀ x ∈ vs, noW x.2 = true) → PutsOk b vs rs → rs = [] := fun {vs rs} hv r => by
      induction vs generalizing rs with
      | nil => cases r; rfl
      | cons v vs ih =>
        cases r with
        | skip _ r => exact ih (fun x mx => hv x (by simp [mx])) r
        | put m _ _ =>
          have := want_no (hv _ List.mem_cons_self)
          unfold Bk.takers at m
          dsimp only at this
          rw [this] at m
          cases m
    exact none (fun x mx => nw x.2 (by rw [← pps_snd t []]; exact List.mem_map_of_mem mx)) r
mutual
/-- how many keys, by how many are none of the six -/
theorem PlOk.few {h : Nat} {b : Bk} (B : BookOk h b) : ∀ {q : Pl}, PlOk b q → q.size ≤ 1 + 50 * q.nb
  | .mk k ps, .mk (t := t) e r => by
    have h1 := PutsOk.few B r
    have h2 := (B.trees _ (treeOf_in e)).sz
    have h3 := r.sub.length_le
    rw [List.length_map, List.length_map, pps_len] at h3
    dsimp only at h2
    rw [Pl.size, Pl.nb]
    by_cases kb : k ∈ baseK
    · have := base_nil B (.mk e r) kb
      subst this
      simp [Pl.sizeL]
    · rw [if_neg kb]
      omega
theorem PutsOk.few {h : Nat} {b : Bk} (B : BookOk h b) : ∀ {us : List (List Nat × Tr)} {ps : List (List Nat × Pl)}, PutsOk b us ps → Pl.sizeL ps ≤ ps.length + 50 * Pl.nbL ps
  | _, _, .nil => by simp [Pl.sizeL]
  | _, _, .skip _ r => PutsOk.few B r
  | _, _, .put _ o r => by
    have h1 := PlOk.few B o
    have h2 := PutsOk.few B r
    rw [Pl.sizeL, Pl.sizeX, Pl.nbL, Pl.nbX, List.length_cons]
    omega
end
def sumW (w : Pl → Nat) : List (List Nat × Pl) → Nat
  | [] => 0
  | x :: r => w x.2 + sumW w r
theorem sumW_app (w : Pl → Nat) (a c : List (List Nat × Pl)) : sumW w (a ++ c) = sumW w a + sumW w c := by
  induction a with
  | nil => simp [sumW]
  | cons x a ih => rw [List.cons_append, sumW, sumW, ih]; omega
section
variable {b : Bk} {g : List Nat → Option Tr} {G : Pl → Tr} {H : Nat} {w : Pl → Nat}
mutual
theorem bAt_ht : ∀ (t : Tr) (p : List Nat) (ps : List (List Nat × Pl)), PutsOk b (t.pps p) ps → ((t.pps p).map (·.1)).Nodup → (∀ x ∈ t.pps p, g x.1 = (getN ps x.1).map G) → (∀ x ∈ ps, (G x.2).ht ≤ H + w x.2) → (bAt g p t).ht ≤ t.ht * (H + 1) + H + sumW w ps
  | .sign s, p, ps, o, nd, hg, hf => by simp [bAt, Tr.ht]
  | .void, p, ps, o, nd, hg, hf => by simp [bAt, Tr.ht]
  | .foot s, p, ps, o, nd, hg, hf => by simp [bAt, Tr.ht]
  | .hole s, p, ps, o, nd, hg, hf => by
    rw [Tr.pps] at o
    cases o with
    | skip m r => cases m
    | put m oq r =>
      rename_i q qs
      cases r
      have e := hg (p, .hole s) (by simp [Tr.pps])
      dsimp only at e
      rw [getN_head] at e
      have := hf (p, q) (by simp)
      dsimp only at this
      rw [bAt, e, sumW, sumW]
      show (G q).ht ≤ 0 * (H + 1) + H + (w q + 0)
      omega
  | .knot n tk ks, p, ps, o, nd, hg, hf => by
    rw [Tr.pps] at o nd
    rw [List.map_cons, List.nodup_cons] at nd
    have hp0 := hg (p, .knot n tk ks) (by rw [Tr.pps]; simp)
    dsimp only at hp0
    have kh : (Tr.knot n tk ks).ht = Tr.htL ks + 1 := by rw [Tr.ht]; try omega
    have kh2 : ∀ ts, (Tr.knot n none ts).ht = Tr.htL ts + 1 := fun ts => by rw [Tr.ht]; try omega
    rw [kh, Nat.add_mul]
    cases o with
    | skip m r =>
      have np : p ∉ ps.map (·.1) := fun e => nd.1 (r.sub.subset e)
      rw [getN_no np] at hp0
      have hp0 : g p = none := hp0
      have h1 := bAtL_ht ks p 0 ps r nd.2 (fun x m => hg x (by rw [Tr.pps]; simp [m])) hf
      rw [bAt, hp0]
      dsimp only
      rw [kh2]
      omega
    | put m oq r =>
      rename_i q qs
      rw [getN_head] at hp0
      have hp0 : g p = some (G q) := hp0
      have h1 := bAtL_ht ks p 0 qs r nd.2 (fun x mx => by
        have e := hg x (by rw [Tr.pps]; simp [mx])
        have ne : ¬ p = x.1 := fun e => nd.1 (List.mem_map.mpr ⟨x, mx, e.symm⟩)
        rw [e]
        unfold getN
        rw [List.find?_cons, decide_eq_false ne]) (fun x m => hf x (by simp [m]))
      have h2 := wf_ht (.knot n none (bAtL g p 0 ks)) (G q)
      have h3 := hf (p, q) (by simp)
      dsimp only at h3
      rw [bAt, hp0, sumW]
      dsimp only
      rw [kh2] at h2
      omega
theorem bAtL_ht : ∀ (ts : List Tr) (p : List Nat) (k : Nat) (ps : List (List Nat × Pl)), PutsOk b (Tr.ppsL p k ts) ps → ((Tr.ppsL p k ts).map (·.1)).Nodup → (∀ x ∈ Tr.ppsL p k ts, g x.1 = (getN ps x.1).map G) → (∀ x ∈ ps, (G x.2).ht ≤ H + w x.2) → Tr.htL (bAtL g p k ts) ≤ Tr.htL ts * (H + 1) + H + sumW w ps
  | [], p, k, ps, o, nd, hg, hf => by simp [bAtL, Tr.htL]
  | t :: ts, p, k, ps, o, nd, hg, hf => by
    rw [Tr.ppsL] at o nd
    obtain ⟨a, c, rfl, o1, o2⟩ := o.split
    rw [List.map_append, List.nodup_append] at nd
    obtain ⟨n1, n2, n3⟩ := nd
    have h1 := bAt_ht t (p ++ [k]) a o1 n1 (fun x m => by
      rw [hg x (by rw [Tr.ppsL]; simp [m]), getN_left fun e => n3 _ (List.mem_map_of_mem m) _ (o2.sub.subset e) rfl]) (fun x m => hf x (by simp [m]))
    have h2 := bAtL_ht ts p (k + 1) c o2 n2 (fun x m => by
      rw [hg x (by rw [Tr.ppsL]; simp [m]), getN_right fun e => n3 _ (o1.sub.subset e) _ (List.mem_map_of_mem m) rfl]) (fun x m => hf x (by simp [m]))
    rw [bAtL, Tr.htL, Tr.htL, sumW_app]
    have m1 : t.ht * (H + 1) ≤ max t.ht (Tr.htL ts) * (H + 1) := Nat.mul_le_mul_right _ (Nat.le_max_left _ _)
    have m2 : Tr.htL ts * (H + 1) ≤ max t.ht (Tr.htL ts) * (H + 1) := Nat.mul_le_mul_right _ (Nat.le_max_right _ _)
    omega
end
mutual
theorem bAt_no : ∀ (t : Tr) (p : List Nat), (∀ x ∈ t.pps p, g x.1 = none) → (bAt g p t).ht = t.ht
  | .sign s, p, _ => rfl
  | .void, p, _ => rfl
  | .foot s, p, _ => rfl
  | .hole s, p, hg => by
    have e := hg (p, .hole s) (by simp [Tr.pps])
    dsimp only at e
    rw [bAt, e]
    rfl
  | .knot n tk ks, p, hg => by
    have e := hg (p, .knot n tk ks) (by rw [Tr.pps]; simp)
    dsimp only at e
    have h1 := bAtL_no ks p 0 (fun x m => hg x (by rw [Tr.pps]; simp [m]))
    rw [bAt, e]
    dsimp only
    rw [Tr.ht, Tr.ht, h1]
theorem bAtL_no : ∀ (ts : List Tr) (p : List Nat) (k : Nat), (∀ x ∈ Tr.ppsL p k ts, g x.1 = none) → Tr.htL (bAtL g p k ts) = Tr.htL ts
  | [], p, k, _ => rfl
  | t :: ts, p, k, hg => by
    have h1 := bAt_no t (p ++ [k]) (fun x m => hg x (by rw [Tr.ppsL]; simp [m]))
    have h2 := bAtL_no ts p (k + 1) (fun x m => hg x (by rw [Tr.ppsL]; simp [m]))
    rw [bAtL, Tr.htL, Tr.htL, h1, h2]
end
end
theorem sumW_nb (W : Nat) (ps : List (List Nat × Pl)) : sumW (fun q => W * q.nb) ps = W * Pl.nbL ps := by
  induction ps with
  | nil => rfl
  | cons y ps ih =>
    obtain ⟨p, q⟩ := y
    rw [sumW, ih, Pl.nbL, Pl.nbX, Nat.mul_add]
theorem built_ht {h : Nat} {b : Bk} (B : BookOk h b) : ∀ {n : Nat} {q : Pl}, PlOk b q → q.dep ≤ n → (builtN b n q).ht ≤ 3 + h * 4 * q.nb
  | 0, .mk k ps, _, h => by rw [Pl.dep] at h; omega
  | n + 1, .mk k ps, .mk (t := t) e r, hd => by
    rw [Pl.dep] at hd
    have T := (B.trees _ (treeOf_in e)).ht
    dsimp only at T
    unfold builtN
    dsimp only [Pl.key, Pl.puts]
    rw [e, Option.getD_some, Pl.nb]
    by_cases kb : k ∈ baseK
    · have low := (B.bs _ (treeOf_in e) kb).h
      have := base_nil B (.mk e r) kb
      subst this
      rw [bAt_no t [] (fun x m => rfl)]
      dsimp only at low
      omega
    · have h1 := bAt_ht (g := fun p => (getN ps p).map (builtN b n)) (G := builtN b n) (H := 3) (w := fun q => h * 4 * q.nb) t [] ps r (pps_nodup t) (fun x m => rfl) (fun x m => built_ht B (r.each x m) (depX_le (by omega) x m))
      rw [sumW_nb] at h1
      have h2 : t.ht * (3 + 1) ≤ h * 4 := Nat.mul_le_mul_right _ T
      rw [if_neg kb, Nat.mul_add, Nat.mul_one]
      omega
end GM
namespace GM
open PySem L2 GS
/-- with_foot(tree, other); slots 0:tree 1:other 2:kid -/
def m_with_foot_ce1 (F_with_foot : FF) : EF := (eCall 2 none F_with_foot (aCons (eMv 2) (aCons (eMv 1) aNil)))
def m_with_foot (F_with_foot : FF) : SF := (sSeq (sIf (eB (eBin (eqB false) (eBin ixA (eVb 0) (eC (.int 0))) (eC (.str (Str.ofString "foot"))))) (sEnd (sRet (eRv 1))) sNil) (sSeq (sIf (eB (eBin (eqB true) (eBin ixA (eVb 0) (eC (.int 0))) (eC (.str (Str.ofString "knot"))))) (sEnd (sRet (eRv 0))) sNil) (sEnd (sRet (eBin addD (eSl (eVb 0) none (some (eC (.int 3)))) (eTup (aCons (eCB (un1 tupleD) (aCons (eLc [2] (iSq (eBin ixA (eVb 0) (eC (.int 3)))) (gN 2) (eNox eYes) (eNox (m_with_foot_ce1 F_with_foot))) aNil)) aNil)))))))
theorem m_with_foot_eq (F_with_foot : FF) (ρ : Rho) : fnF 3 2 (m_with_foot F_with_foot) ρ = finR 2 (m_with_foot F_with_foot (ρ ++ [none])) := fnF_eq 3 2 _
/-- built_at(book, tree, place, puts); slots 0:book 1:tree 2:place 3:puts 4:kids 5:knot 6:k 7:kid -/
def m_built_at_ce1 (F_built F_with_foot F_built_at : FF) : EF := (eCall 4 none F_built_at (aCons (eMv 0) (aCons (eMv 7) (aCons (eBin addD (eVb 2) (eTup (aCons (eMv 6) aNil))) (aCons (eMv 3) aNil)))))
def m_built_at (F_built F_with_foot F_built_at : FF) : SF := (sSeq (sIf (eB (eBin (eqB false) (eBin ixA (eVb 1) (eC (.int 0))) (eC (.str (Str.ofString "hole"))))) (sEnd (sRet (eCall 2 none F_built (aCons (eMv 0) (aCons (eBin ixA (eVb 3) (eVb 2)) aNil))))) sNil) (sSeq (sIf (eB (eBin (eqB true) (eBin ixA (eVb 1) (eC (.int 0))) (eC (.str (Str.ofString "knot"))))) (sEnd (sRet (eRv 1))) sNil) (sSeq (sSet 4 (eLc [6, 7] (iEn (eBin ixA (eVb 1) (eC (.int 3)))) (gT 2 (gsC (gN 6) (gsC (gN 7) gsN))) (eNox eYes) (eNox (m_built_at_ce1 F_built F_with_foot F_built_at)))) (sSeq (sSet 5 (eTup (aCons (eC (.str (Str.ofString "knot"))) (aCons (eBin ixA (eVb 1) (eC (.int 1))) (aCons (eC .none) (aCons (eCB (un1 tupleD) (aCons (eVb 4) aNil)) aNil)))))) (sEnd (sRet (eIf (eB (eBin (inB false) (eVb 2) (eVb 3))) (eCall 2 none F_with_foot (aCons (eCall 2 none F_built (aCons (eMv 0) (aCons (eBin ixA (eVb 3) (eVb 2)) aNil))) (aCons (eMv 5) aNil))) (eMv 5))))))))
theorem m_built_at_eq (F_built F_with_foot F_built_at : FF) (ρ : Rho) : fnF 8 4 (m_built_at F_built F_with_foot F_built_at) ρ = finR 4 (m_built_at F_built F_with_foot F_built_at (ρ ++ [none, none, none, none])) := fnF_eq 8 4 _
/-- built(book, plan); slots 0:book 1:plan -/
def m_built (F_tree_of F_built_at : FF) : SF := (sEnd (sRet (eCall 4 none F_built_at (aCons (eMv 0) (aCons (eCall 2 none F_tree_of (aCons (eMv 0) (aCons (eBin ixA (eVb 1) (eC (.int 0))) aNil))) (aCons (eTup aNil) (aCons (eCB (un1 dictD) (aCons (eBin ixA (eVb 1) (eC (.int 1))) aNil)) aNil)))))))
theorem m_built_eq (F_tree_of F_built_at : FF) (ρ : Rho) : fnF 2 2 (m_built F_tree_of F_built_at) ρ = finR 2 (m_built F_tree_of F_built_at (ρ ++ [])) := fnF_eq 2 2 _
/-- row_of(book, plan); slots 0:book 1:plan -/
def m_row_of (F_built F_signs_of : FF) : SF := (sEnd (sRet (eCall 1 none F_signs_of (aCons (eCall 2 none F_built (aCons (eMv 0) (aCons (eMv 1) aNil))) aNil))))
theorem m_row_of_eq (F_built F_signs_of : FF) (ρ : Rho) : fnF 2 2 (m_row_of F_built F_signs_of) ρ = finR 2 (m_row_of F_built F_signs_of (ρ ++ [])) := fnF_eq 2 2 _
end GM
namespace GM
open PySem L2 GS
def WfSp (n : Nat) (F : FF) : Prop := ∀ t o : Tr, t.ht ≤ n → t.pieces.length ≤ 100000 → F [some ⟨t.enc, .sh⟩, some ⟨o.enc, .sh⟩] = .ok (.sh (Tr.wf o t).enc) [none, none]
theorem with_foot_ok {n : Nat} {Fw : FF} (hw : ∀ m, m + 1 = n → WfSp m Fw) : WfSp n (fnF 3 2 (m_with_foot Fw)) := fun t o hh hz => by
  rw [m_with_foot_eq]
  cases t with
  | knot nm tk ks =>
    rw [Tr.ht] at hh
    rw [pieces_knot] at hz
    have ekn : ∀ ts, Tr.enc (.knot nm tk ts) = .tuple [.str (Str.ofString "knot"), .str nm, encTk tk, .tuple (ts.map Tr.enc)] := fun ts => by rw [Tr.enc, encL_map]
    have kl : ks.length ≤ (ks.flatMap Tr.pieces).length := by
      clear hh hz ekn
      induction ks with
      | nil => simp
      | cons k ks ih =>
        rw [List.flatMap_cons, List.length_append, List.length_cons]
        have : 1 ≤ k.pieces.length := by rw [pieces_kids]; simp
        omega
    have lc := lcL_all (vs := [2]) (g := gN 2) (fe := eNox (m_with_foot_ce1 Fw)) [some ⟨Tr.enc (.knot nm tk ks), .sh⟩, some ⟨o.enc, .sh⟩, none] Tr.enc (fun k => [some ⟨Tr.enc (.knot nm tk ks), .sh⟩, some ⟨o.enc, .sh⟩, some ⟨k.enc, .sh⟩]) (fun k => (Tr.wf o k).enc) ks [] (fits (by simp; omega)) (fun k mk => by
      have h1 := ht_mem mk
      have h2 := pieces_kid_le (t := .knot nm tk ks) (k := k) mk
      rw [pieces_knot] at h2
      have e := hw (n - 1) (by omega) k o (by omega) (by omega)
      generalize Tr.enc (.knot nm tk ks) = te
      exact ⟨by simp, by simp, by simp [m_with_foot_ce1, e]⟩)
    rw [List.nil_append] at lc
    have c3 : cutD [PyData.str (Str.ofString "knot"), .str nm, encTk tk, .tuple (ks.map Tr.enc)] none (some 3) = [PyData.str (Str.ofString "knot"), .str nm, encTk tk] := cutD_to _ 3
    have s3 : 3 + 1 ≤ sizeLine := by decide
    rw [Tr.wf, wfL_map, ekn (ks.map (Tr.wf o)), List.map_map]
    have ec : (Tr.enc ∘ Tr.wf o) = fun k => (Tr.wf o k).enc := rfl
    rw [ec]
    rw [ekn ks] at lc ⊢
    generalize (ks.map fun k => (Tr.wf o k).enc) = we at lc ⊢
    generalize o.enc = oe at lc ⊢
    simp [m_with_foot, lc, c3, s3]
  | foot s => simp [m_with_foot, Tr.enc, Tr.wf]
  | sign s => simp [m_with_foot, Tr.enc, Tr.wf]
  | void => simp [m_with_foot, Tr.enc, Tr.wf]
  | hole s => simp [m_with_foot, Tr.enc, Tr.wf]
/-- the puts as a dict -/
def dPuts (ps : List (List Nat × Pl)) : D := .dict ((ps.map ptOf).map (kvI krD))
theorem getI_N (ps : List (List Nat × Pl)) (p : List Nat) : (getI (ps.map ptOf) (toI p)).map krD = (getN ps p).map Pl.enc := by
  induction ps with
  | nil => rfl
  | cons x ps ih =>
    unfold getI getN at ih ⊢
    rw [List.map_cons, List.find?_cons, List.find?_cons]
    by_cases c : x.1 = p
    · have c' : (ptOf x).1 = toI p := by rw [← c]; rfl
      rw [decide_eq_true c, decide_eq_true c']
      show some (krD (ptOf x).2) = some x.2.enc
      rw [krD_pt]
    · have c' : ¬ (ptOf x).1 = toI p := fun e => c (toI_inj e)
      rw [decide_eq_false c, decide_eq_false c']
      exact ih
theorem in_puts (neg : Bool) (ps : List (List Nat × Pl)) (p : List Nat) : inB neg (encP p) (dPuts ps) = some (.sh (.bool (neg ^^ (getN ps p).isSome))) := by
  obtain ⟨m1, m2⟩ := mixB_I krD (ps.map ptOf) (toI p)
  unfold dPuts
  rw [encP_I, inB_d, isK_I, m1, m2, dGet_I, getI_N, Option.isSome_map]
  rfl
theorem ix_dputs (ps : List (List Nat × Pl)) (p : List Nat) : ixA (dPuts ps) (encP p) = ((getN ps p).map Pl.enc).map Hd.sh := by
  unfold dPuts
  rw [encP_I, ixA_d, isK_I, if_pos rfl, dGet_I, getI_N]
theorem bAtL_zip (g : List Nat → Option Tr) (p : List Nat) : ∀ (ts : List Tr) (k : Nat), bAtL g p k ts = (ts.zipIdx k).map fun x => bAt g (p ++ [x.2]) x.1
  | [], k => rfl
  | t :: ts, k => by rw [bAtL, bAtL_zip g p ts (k + 1), List.zipIdx_cons, List.map_cons]
theorem enD_zip (ts : List Tr) : enD (ts.map Tr.enc) = ts.zipIdx.map fun x : Tr × Nat => PyData.tuple [.int (x.2 : Int), x.1.enc] := by
  unfold enD
  rw [List.mapIdx_eq_zipIdx_map, List.zipIdx_map, List.map_map]
  rfl
theorem ppsL_mem {q : List Nat} {x : List Nat × Tr} : ∀ (ts : List Tr) (j k : Nat) (t : Tr), (t, k) ∈ ts.zipIdx j → x ∈ t.pps (q ++ [k]) → x ∈ Tr.ppsL q j ts
  | [], j, k, t, h, _ => by simp at h
  | u :: ts, j, k, t, h, m => by
    rw [Tr.ppsL]
    rw [List.zipIdx_cons] at h
    rcases List.mem_cons.mp h with e | h
    · cases e
      exact List.mem_append_left _ m
    · exact List.mem_append_right _ (ppsL_mem ts (j + 1) k t h m)
/-- a plan that may be built -/
structure PlB (h : Nat) (b : Bk) (n : Nat) (q : Pl) : Prop where
  ok : PlOk b q
  dep : q.dep ≤ n
  nb : q.nb ≤ 12
  hn : h * q.nb ≤ 36
def BuiltSp (h n : Nat) (F : FF) : Prop := ∀ (b : Bk) (q : Pl), BookOk h b → PlB h b n q → F [some ⟨b.enc, .sh⟩, some ⟨q.enc, .sh⟩] = .ok (.sh (builtN b n q).enc) [none, none]
def BAtSp (h n m : Nat) (F : FF) : Prop := ∀ (b : Bk) (t : Tr) (p : List Nat) (ps : List (List Nat × Pl)), BookOk h b → (∀ x ∈ ps, PlB h b n x.2) → t.ht ≤ m → t.pieces.length ≤ 1000 → p.length + t.ht ≤ 1000 → (∀ x ∈ t.pps p, ∀ s, x.2 = .hole s → (getN ps x.1).isSome = true) →
  F [some ⟨b.enc, .sh⟩, some ⟨t.enc, .sh⟩, some ⟨encP p, .sh⟩, some ⟨dPuts ps, .sh⟩] = .ok (.sh (bAt (fun p => (getN ps p).map (builtN b n)) p t).enc) [none, none, none, none]
theorem getN_mem {ps : List (List Nat × Pl)} {p : List Nat} {q : Pl} (h : getN ps p = some q) : ∃ x ∈ ps, x.2 = q := by
  unfold getN at h
  obtain ⟨x, hx, e⟩ := Option.map_eq_some_iff.mp h
  exact ⟨x, List.mem_of_find?_eq_some hx, e⟩
theorem len_flat_le {α β : Type} {u : α → List β} {c : Nat} : ∀ {l : List α}, (∀ k ∈ l, (u k).length ≤ c) → (l.flatMap u).length ≤ l.length * c
  | [], _ => by simp
  | x :: l, h => by
    have h1 := h x (by simp)
    have h2 := len_flat_le (l := l) fun k m => h k (by simp [m])
    rw [List.flatMap_cons, List.length_append, List.length_cons, Nat.add_mul]
    omega
mutual
theorem PlOk.keysIn {b : Bk} : ∀ {q : Pl}, PlOk b q → ∀ k ∈ q.keys, ∃ t, b.treeOf k = some t
  | .mk k ps, .mk e o, j, m => by
    rw [Pl.keys] at m
    rcases List.mem_cons.mp m with rfl | m
    · exact ⟨_, e⟩
    · exact PutsOk.keysIn o j m
theorem PutsOk.keysIn {b : Bk} : ∀ {us : List (List Nat × Tr)} {ps : List (List Nat × Pl)}, PutsOk b us ps → ∀ k ∈ Pl.keysL ps, ∃ t, b.treeOf k = some t
  | _, _, .nil, j, m => by cases m
  | _, _, .skip _ o, j, m => PutsOk.keysIn o j m
  | _, _, .put _ q o, j, m => by
    rw [Pl.keysL, Pl.keysX] at m
    rcases List.mem_append.mp m with m | m
    · exact PlOk.keysIn q j m
    · exact PutsOk.keysIn o j m
end
def fP : Tr → List Unit
  | .foot _ => []
  | _ => [()]
theorem ownP : Own fP := ⟨fun _ => rfl, fun _ _ _ _ _ => rfl⟩
theorem fP_len (t : Tr) : (flatT fP t).length + t.feet.length = t.pieces.length := by
  unfold flatT Tr.feet
  induction t.pieces with
  | nil => rfl
  | cons u us ih =>
    have h1 : (u.footN = none ∧ (fP u).length = 1) ∨ (∃ s, u.footN = some s ∧ (fP u).length = 0) := by cases u <;> first | exact .inl ⟨rfl, rfl⟩ | exact .inr ⟨_, rfl, rfl⟩
    rw [List.flatMap_cons, List.length_append, List.length_cons, List.filterMap_cons]
    rcases h1 with ⟨e1, e2⟩ | ⟨s, e1, e2⟩
    · rw [e1, e2]
      dsimp only
      omega
    · rw [e1, e2]
      dsimp only
      rw [List.length_cons]
      omega
theorem kT_of {b : Bk} {k : Str} {t : Tr} (e : b.treeOf k = some t) : kT b k = t := by unfold kT; rw [e]; rfl
theorem built_sz {h n : Nat} {b : Bk} {q : Pl} (B : BookOk h b) (Q : PlB h b n q) : (builtN b n q).pieces.length ≤ 100000 ∧ q.size ≤ 601 := by
  obtain ⟨h1, h2⟩ := built_flat ownP B Q.ok Q.dep
  have h3 := fP_len (builtN b n q)
  have h4 := Q.ok.few B
  have h5 := Q.nb
  obtain ⟨t, et⟩ := Q.ok.keyIn
  have h6 := (B.trees _ (treeOf_in et)).feet
  dsimp only at h6
  rw [kT_of et] at h2
  have h7 := h1.length_eq
  have h8 := len_flat_le (l := q.keys) (u := fun k => flatT (f0 fP) (kT b k)) (c := 50) (fun k m => by
    obtain ⟨t, et⟩ := Q.ok.keysIn k m
    have sz := (B.trees _ (treeOf_in et)).sz
    dsimp only at sz ⊢
    rw [kT_of et]
    refine Nat.le_trans ?_ sz
    unfold flatT
    have := len_flat_le (l := t.pieces) (u := f0 fP) (c := 1) (fun u _ => by cases u <;> simp [f0, fP])
    omega)
  rw [keys_len] at h8
  rw [h2] at h3
  omega
theorem built_ht3 {h n : Nat} {b : Bk} {q : Pl} (B : BookOk h b) (Q : PlB h b n q) : (builtN b n q).ht ≤ 147 := by
  have h1 := built_ht B Q.ok Q.dep
  have h2 := Q.hn
  have h4 : h * 4 * q.nb = 4 * (h * q.nb) := by rw [Nat.mul_comm h 4, Nat.mul_assoc]
  omega
section
variable {Fb Fw Fa Ft : FF}
theorem built_at_ok {h n m : Nat} (hb : BuiltSp h n Fb) (hw : WfSp 147 Fw) (ha : ∀ k, k + 1 = m → BAtSp h n k Fa) : BAtSp h n m (fnF 8 4 (m_built_at Fb Fw Fa)) := fun b t p ps B hps hh hz hl hol => by
  rw [m_built_at_eq]
  have ix := ix_dputs ps p
  have inp := in_puts false ps p
  have Q0 : ∀ q, getN ps p = some q → PlB h b n q := fun q e => by
    obtain ⟨x, mx, rfl⟩ := getN_mem e
    exact hps x mx
  cases t with
  | hole s =>
    have hs := hol (p, .hole s) (by simp [Tr.pps]) s rfl
    obtain ⟨q, hq⟩ := Option.isSome_iff_exists.mp hs
    dsimp only at hq
    rw [hq] at ix
    have ix : ixA (dPuts ps) (encP p) = some (.sh q.enc) := ix
    have e1 := hb b q B (Q0 q hq)
    rw [bAt, hq]
    show _ = RE.ok (.sh (builtN b n q).enc) _
    generalize dPuts ps = dp at ix ⊢
    generalize encP p = pe at ix ⊢
    simp [m_built_at, Tr.enc, ix, e1]
  | knot nm tk ks =>
    rw [Tr.ht] at hh hl
    rw [pieces_knot] at hz
    have ekn : ∀ tk' ts, Tr.enc (.knot nm tk' ts) = .tuple [.str (Str.ofString "knot"), .str nm, encTk tk', .tuple (ts.map Tr.enc)] := fun tk' ts => by rw [Tr.enc, encL_map]
    have kl : ks.length ≤ (ks.flatMap Tr.pieces).length := by
      clear hh hz hl hol ekn
      induction ks with
      | nil => simp
      | cons k ks ih =>
        rw [List.flatMap_cons, List.length_append, List.length_cons]
        have : 1 ≤ k.pieces.length := by rw [pieces_kids]; simp
        omega
    have lc := lcL_all (vs := [6, 7]) (g := gT 2 (gsC (gN 6) (gsC (gN 7) gsN))) (fe := eNox (m_built_at_ce1 Fb Fw Fa)) [some ⟨b.enc, .sh⟩, some ⟨Tr.enc (.knot nm tk ks), .sh⟩, some ⟨encP p, .sh⟩, some ⟨dPuts ps, .sh⟩, none, none, none, none] (fun x : Tr × Nat => PyData.tuple [.int (x.2 : Int), x.1.enc])
      (fun x => [some ⟨b.enc, .sh⟩, some ⟨Tr.enc (.knot nm tk ks), .sh⟩, some ⟨encP p, .sh⟩, some ⟨dPuts ps, .sh⟩, none, none, some ⟨.int (x.2 : Int), .sh⟩, some ⟨x.1.enc, .sh⟩]) (fun x => (bAt (fun p => (getN ps p).map (builtN b n)) (p ++ [x.2]) x.1).enc) ks.zipIdx [] (fits (by simp; omega)) (fun x mx => by
      have mk : x.1 ∈ ks := by
        have := List.mem_zipIdx_iff_getElem?.mp mx
        exact List.mem_of_getElem? this
      have h1 := ht_mem mk
      have h2 := pieces_kid_le (t := .knot nm tk ks) (k := x.1) mk
      rw [pieces_knot] at h2
      have e := ha (m - 1) (by omega) b x.1 (p ++ [x.2]) ps B hps (by omega) (by omega) (by simp; omega) (fun y my s es => hol y (by rw [Tr.pps]; exact List.mem_cons_of_mem _ (ppsL_mem ks 0 x.2 x.1 mx my)) s es)
      have ea : encP (p ++ [x.2]) = .tuple ((p.map fun n : Nat => PyData.int (n : Int)) ++ [.int (x.2 : Int)]) := by unfold encP; rw [List.map_append]; rfl
      have z : p.length + 1 ≤ sizeLine := fits (by omega)
      rw [ea] at e
      have ep : encP p = .tuple (p.map fun n : Nat => PyData.int (n : Int)) := rfl
      rw [ep]
      generalize dPuts ps = dp at e ⊢
      generalize Tr.enc (.knot nm tk ks) = te
      exact ⟨by simp, by simp, by simp [m_built_at_ce1, e, z]⟩)
    have kd : (ks.zipIdx.map fun x => (bAt (fun p => (getN ps p).map (builtN b n)) (p ++ [x.2]) x.1).enc) = (bAtL (fun p => (getN ps p).map (builtN b n)) p 0 ks).map Tr.enc := by
      rw [bAtL_zip, List.map_map]
      rfl
    rw [List.nil_append, kd, ← enD_zip] at lc
    rw [bAt]
    cases hg : getN ps p with
    | none =>
      rw [hg] at inp
      dsimp only [Option.map_none]
      rw [ekn tk ks] at lc ⊢
      rw [ekn none, show encTk none = PyData.none from rfl]
      generalize (bAtL (fun p => (getN ps p).map (builtN b n)) p 0 ks).map Tr.enc = bl at lc ⊢
      generalize dPuts ps = dp at lc inp ⊢
      generalize encP p = pe at lc inp ⊢
      simp [m_built_at, lc, inp]
    | some q =>
      rw [hg] at inp ix
      have ix : ixA (dPuts ps) (encP p) = some (.sh q.enc) := ix
      have Q := Q0 q hg
      have e1 := hb b q B Q
      have e2 := hw (builtN b n q) (.knot nm none (bAtL (fun p => (getN ps p).map (builtN b n)) p 0 ks)) (built_ht3 B Q) (built_sz B Q).1
      dsimp only [Option.map_some]
      rw [ekn none] at e2
      rw [ekn tk ks] at lc ⊢
      generalize (Tr.wf (.knot nm none (bAtL (fun p => (getN ps p).map (builtN b n)) p 0 ks)) (builtN b n q)).enc = we at e2 ⊢
      generalize (bAtL (fun p => (getN ps p).map (builtN b n)) p 0 ks).map Tr.enc = bl at lc e2 ⊢
      generalize dPuts ps = dp at lc inp ix ⊢
      generalize encP p = pe at lc inp ix ⊢
      generalize q.enc = qe at ix e1
      generalize (builtN b n q).enc = be at e1 e2
      have en : encTk none = PyData.none := rfl
      rw [en] at e2
      simp [m_built_at, lc, inp, ix, e1, e2]
  | foot s => simp [m_built_at, Tr.enc, bAt]
  | sign s => simp [m_built_at, Tr.enc, bAt]
  | void => simp [m_built_at, Tr.enc, bAt]
theorem PutsOk.holes {b : Bk} : ∀ {us : List (List Nat × Tr)} {ps : List (List Nat × Pl)}, PutsOk b us ps → ∀ x ∈ us, ∀ s, x.2 = .hole s → (getN ps x.1).isSome = true
  | _, _, .nil, x, m, s, e => by cases m
  | _, _, .skip hm r, x, m, s, e => by
    rcases List.mem_cons.mp m with rfl | m
    · dsimp only at e
      subst e
      cases hm
    · exact PutsOk.holes r x m s e
  | _, _, .put (p := p) (q := q) _ _ r, x, m, s, e => by
    by_cases c : p = x.1
    · rw [← c, getN_head]; rfl
    · rcases List.mem_cons.mp m with rfl | m
      · exact absurd rfl c
      · have := PutsOk.holes r x m s e
        unfold getN at this ⊢
        rw [List.find?_cons, decide_eq_false c]
        exact this
theorem nbL_mem {ps : List (List Nat × Pl)} : ∀ x ∈ ps, x.2.nb ≤ Pl.nbL ps := by
  induction ps with
  | nil => intro x m; cases m
  | cons y ps ih =>
    intro x m
    obtain ⟨p, q⟩ := y
    rw [Pl.nbL, Pl.nbX]
    rcases List.mem_cons.mp m with rfl | m
    · show q.nb ≤ _
      omega
    · have := ih x m
      omega
theorem built_ok {h n : Nat} (ht : TreeOfSp Ft) (ha : ∀ k, k + 1 = n → BAtSp h k h Fa) (h3 : h ≤ 1000) : BuiltSp h n (fnF 2 2 (m_built Ft Fa)) := fun b q B Q => by
  rw [m_built_eq]
  obtain ⟨k, ps⟩ := q
  obtain ⟨o, hd, hn, hhn⟩ := Q
  cases o with
  | mk e r =>
    rename_i t
    rw [Pl.dep] at hd
    rw [Pl.nb] at hn hhn
    obtain ⟨n', rfl⟩ : ∃ n', n = n' + 1 := ⟨n - 1, by omega⟩
    have T := B.trees _ (treeOf_in e)
    have tz := T.sz
    have th := T.ht
    dsimp only at tz th
    have e1 := ht b k
    rw [e] at e1
    have so : optT (some t) = t.enc := rfl
    rw [so] at e1
    have e2 := ha n' rfl b t [] ps B (fun x mx => ⟨r.each x mx, depX_le (by omega) x mx, by have := nbL_mem x mx; omega, by have := nbL_mem x mx; exact Nat.le_trans (Nat.mul_le_mul_left _ (by omega)) hhn⟩) th (by omega) (by simp; omega) r.holes
    have i0 := ix_key (.mk k ps)
    have i1 := ix_puts (.mk k ps)
    dsimp only [Pl.key, Pl.puts] at i0 i1
    have dd : dictD (.tuple (ps.map Pl.encX)) = some (.fr (dPuts ps)) := by
      have nd : ((ps.map ptOf).map (·.1)).Nodup := by
        rw [List.map_map]
        have := rising_nodup ((lexLt_places t).sublist (by rw [← pps_places]; exact r.sub.map toI))
        rw [List.map_map] at this
        exact this
      have := dict_puts nd
      rw [List.map_map] at this
      have em : (encPt ∘ ptOf) = Pl.encX := by funext x; exact (ptOf_enc x).symm
      rw [em] at this
      exact this
    unfold builtN
    dsimp only [Pl.key, Pl.puts]
    rw [e, Option.getD_some]
    have e2' : Fa [some ⟨b.enc, .sh⟩, some ⟨t.enc, .sh⟩, some ⟨.tuple [], .sh⟩, some ⟨dPuts ps, .sh⟩] = .ok (.sh (bAt (fun p => (getN ps p).map (builtN b n')) [] t).enc) [none, none, none, none] := e2
    generalize (bAt (fun p => (getN ps p).map (builtN b n')) [] t).enc = be at e2' ⊢
    generalize dPuts ps = dp at dd e2'
    generalize PyData.tuple (ps.map Pl.encX) = pe at i1 dd
    generalize t.enc = te at e1 e2'
    generalize Pl.enc (.mk k ps) = qe at i0 i1 ⊢
    simp [m_built, i0, i1, e1, dd, e2']
def RowOfSp (h n : Nat) (F : FF) : Prop := ∀ (b : Bk) (q : Pl), BookOk h b → PlB h b n q → F [some ⟨b.enc, .sh⟩, some ⟨q.enc, .sh⟩] = .ok (.sh (.tuple ((builtN b n q).signs.map .str))) [none, none]
theorem row_of_ok {h n : Nat} (hb : BuiltSp h n Fb) (hs : SignsSp 147 Ft) : RowOfSp h n (fnF 2 2 (m_row_of Fb Ft)) := fun b q B Q => by
  rw [m_row_of_eq]
  have e1 := hb b q B Q
  have e2 := hs (builtN b n q) (built_ht3 B Q) (built_sz B Q).1
  simp [m_row_of, e1, e2]
end
end GM
namespace GM
open PySem L2 GS
end GM
namespace GM
open PySem L2 GS
def dpN (i : Nat) : Str := [Str.ofString "S1", Str.ofString "S2", Str.ofString "Z"].getD i default
def deepK : Nat → List Tr → List Tr
  | 0, ks => ks
  | n + 1, ks => [.knot (dpN n) none (deepK n ks)]
def Tr.deepen (n : Nat) : Tr → Tr
  | .knot nm tk ks => .knot nm tk (deepK n ks)
  | t => t
theorem deepK_pc (ks : List Tr) : ∀ n, ((deepK n ks).flatMap Tr.pieces).length = (ks.flatMap Tr.pieces).length + n
  | 0 => rfl
  | n + 1 => by
    rw [deepK, List.flatMap_cons, List.flatMap_nil, List.append_nil, pieces_knot, deepK_pc ks n]
    omega
theorem deepK_ft (ks : List Tr) : ∀ n, (deepK n ks).flatMap Tr.feet = ks.flatMap Tr.feet
  | 0 => rfl
  | n + 1 => by rw [deepK, List.flatMap_cons, List.flatMap_nil, List.append_nil, feet_knot, deepK_ft ks n]
theorem deepK_sg (ks : List Tr) : ∀ n, (deepK n ks).flatMap Tr.signs = ks.flatMap Tr.signs
  | 0 => rfl
  | n + 1 => by rw [deepK, List.flatMap_cons, List.flatMap_nil, List.append_nil, signs_knot, deepK_sg ks n]
theorem deepK_ht (ks : List Tr) : ∀ n, Tr.htL (deepK n ks) = Tr.htL ks + n
  | 0 => rfl
  | n + 1 => by
    rw [deepK, Tr.htL, Tr.htL, Tr.ht, deepK_ht ks n]
    omega
theorem dpN_ok : ∀ n, n ≤ 2 → nameB (dpN n) = true
  | 0, _ => by decide +kernel
  | 1, _ => by decide +kernel
  | 2, _ => by decide +kernel
  | n + 3, h => by omega
theorem dpN_3 : ∀ n, n ≤ 1 → dpN n ∈ nm3
  | 0, _ => by decide +kernel
  | 1, _ => by decide +kernel
  | n + 2, h => by omega
theorem deepK_ok {ks : List Tr} (h : Tr.okL ks = true) (h1 : 1 ≤ ks.length) (h8 : ks.length ≤ 8) : ∀ n, n ≤ 3 → Tr.okL (deepK n ks) = true ∧ 1 ≤ (deepK n ks).length ∧ (deepK n ks).length ≤ 8
  | 0, _ => ⟨h, h1, h8⟩
  | n + 1, hn => by
    obtain ⟨i1, i2, i3⟩ := deepK_ok h h1 h8 n (by omega)
    refine ⟨?_, by rw [deepK]; simp, by rw [deepK]; simp⟩
    rw [deepK, Tr.okL, Tr.okL, Tr.ok, dpN_ok n (by omega), i1, decide_eq_true i2, decide_eq_true i3]
    rfl
theorem deepK_wn {ks : List Tr} (h : ∀ k ∈ ks, Wn k) : ∀ n, n ≤ 2 → ∀ k ∈ deepK n ks, Wn k
  | 0, _ => h
  | n + 1, hn => fun k m => by
    rw [deepK] at m
    simp only [List.mem_cons, List.not_mem_nil, or_false] at m
    subst m
    exact Wn.knot (by rw [decide_eq_true (dpN_3 n (by omega))]; rfl) (deepK_wn h n (by omega))
theorem deepK_nw {ks : List Tr} (h : ∀ k ∈ ks, NoW k) : ∀ n, ∀ k ∈ deepK n ks, NoW k
  | 0 => h
  | n + 1 => fun k m => by
    rw [deepK] at m
    simp only [List.mem_cons, List.not_mem_nil, or_false] at m
    subst m
    intro u mu
    rw [Tr.pieces] at mu
    rcases List.mem_cons.mp mu with rfl | mu
    · rfl
    · rw [piecesL_flat] at mu
      obtain ⟨k, mk, mu⟩ := List.mem_flatMap.mp mu
      exact deepK_nw h n k mk u mu
theorem knot_all {P : Tr → Prop} {n : Str} {tk : Option (Str × Bool)} {ks : List Tr} (h : ∀ u ∈ (Tr.knot n tk ks).pieces, P u) : ∀ k ∈ ks, ∀ u ∈ k.pieces, P u := fun k mk u mu => h u (by
  rw [Tr.pieces, piecesL_flat]
  exact List.mem_cons_of_mem _ (List.mem_flatMap.mpr ⟨k, mk, mu⟩))
theorem knot_is {t : Tr} (h : t.isKnot = true) : ∃ n tk ks, t = .knot n tk ks := by
  cases t <;> first | exact ⟨_, _, _, rfl⟩ | cases h
theorem TreeOk.deep {h : Nat} {t : Tr} (T : TreeOk h t) (h3 : h ≤ 3) {n : Nat} (hn : n ≤ 2) : TreeOk (h + 2) (t.deepen n) ∧ (t.deepen n).feet = t.feet ∧ (t.deepen n).word = t.word ∧ (NoW t → NoW (t.deepen n)) ∧ (t.deepen n).ht = t.ht + n := by
  obtain ⟨nm, tk, ks, rfl⟩ := knot_is T.kn
  obtain ⟨o1, o2, o3, o4, o5⟩ := knot_parts T.ok
  obtain ⟨d1, d2, d3⟩ := deepK_ok (okL_of o5) o3 o4 n (by omega)
  have pc := deepK_pc ks n
  have ft : (Tr.knot nm tk (deepK n ks)).feet = (Tr.knot nm tk ks).feet := by rw [feet_knot, feet_knot, deepK_ft]
  have s4 := T.s4
  have hh := T.ht
  rw [pieces_knot] at s4
  rw [Tr.ht] at hh
  have hw := T.wn
  have nh : (Tr.knot nm tk (deepK n ks)).ht = (Tr.knot nm tk ks).ht + n := by rw [Tr.ht, Tr.ht, deepK_ht]; omega
  show TreeOk (h + 2) (.knot nm tk (deepK n ks)) ∧ _
  refine ⟨⟨?_, rfl, by rw [ft]; exact T.feet, ?_, ?_, ?_, ?_, ?_⟩, ft, rfl, fun hnw => ?_, nh⟩
  · simp only [Tr.ok, Bool.and_eq_true, decide_eq_true_eq]
    exact ⟨o1, o2, d2, d3, d1⟩
  · rw [Tr.ht, deepK_ht]; omega
  · rw [pieces_knot, pc]; omega
  · rw [pieces_knot, pc]; omega
  · rw [signs_knot, deepK_sg, ← signs_knot nm tk ks]; exact T.sg
  · exact Wn.knot hw.self (deepK_wn (knot_all hw) n hn)
  · intro u mu
    rw [Tr.deepen, Tr.pieces] at mu
    rcases List.mem_cons.mp mu with rfl | mu
    · have := hnw (.knot nm tk ks) (by rw [Tr.pieces]; simp)
      cases tk with
      | none => rfl
      | some w => exact this
    · rw [piecesL_flat] at mu
      obtain ⟨k, mk, mu⟩ := List.mem_flatMap.mp mu
      exact deepK_nw (knot_all hnw) n k mk u mu
theorem TreeOk.up {h h' : Nat} {t : Tr} (T : TreeOk h t) (hh : h ≤ h') : TreeOk h' t := ⟨T.ok, T.kn, T.feet, Nat.le_trans T.ht hh, T.sz, by have := T.s4; omega, T.sg, T.wn⟩
end GM
namespace GM
open PySem L2 GS
theorem BookOk.up {h h' : Nat} {b : Bk} (B : BookOk h b) (hh : h ≤ h') : BookOk h' b := ⟨B.top, B.len, B.pos, B.nd, B.keys, fun p m => (B.trees p m).up hh, B.base, fun p m k => ⟨(B.bs p m k).w, (B.bs p m k).h, by have := (B.bs p m k).h1; omega⟩⟩
def Deeper (ts us : List (Str × Tr)) : Prop := Paired (fun p q : Str × Tr => q.1 = p.1 ∧ ∃ n, n ≤ 2 ∧ q.2 = p.2.deepen n) ts us
theorem Deeper.keys {ts us : List (Str × Tr)} (h : Deeper ts us) : us.map (·.1) = ts.map (·.1) := by
  induction h with
  | nil => rfl
  | cons e _ ih => rw [List.map_cons, List.map_cons, ih, e.1]
theorem Deeper.fwd {ts us : List (Str × Tr)} (h : Deeper ts us) : ∀ p ∈ ts, ∃ q ∈ us, q.1 = p.1 ∧ ∃ n, n ≤ 2 ∧ q.2 = p.2.deepen n := by
  induction h with
  | nil => intro p m; cases m
  | cons e _ ih =>
    intro p m
    rcases List.mem_cons.mp m with rfl | m
    · exact ⟨_, List.mem_cons_self, e⟩
    · obtain ⟨q, mq, r⟩ := ih p m
      exact ⟨q, List.mem_cons_of_mem _ mq, r⟩
theorem Deeper.bwd {ts us : List (Str × Tr)} (h : Deeper ts us) : ∀ q ∈ us, ∃ p ∈ ts, q.1 = p.1 ∧ ∃ n, n ≤ 2 ∧ q.2 = p.2.deepen n := by
  induction h with
  | nil => intro p m; cases m
  | cons e _ ih =>
    intro p m
    rcases List.mem_cons.mp m with rfl | m
    · exact ⟨_, List.mem_cons_self, e⟩
    · obtain ⟨q, mq, r⟩ := ih p m
      exact ⟨q, List.mem_cons_of_mem _ mq, r⟩
theorem deep_name {h : Nat} {t : Tr} (T : TreeOk h t) (h3 : h ≤ 3) {n : Nat} (hn : n ≤ 2) : (t.deepen n).isGraft = t.isGraft ∧ (t.deepen n).name = t.name := by
  obtain ⟨_, e1, e2, _, _⟩ := T.deep h3 hn
  unfold Tr.isGraft Tr.name
  rw [e1, e2]
  exact ⟨rfl, rfl⟩
theorem Deeper.ok {b : Bk} (B : BookOk 3 b) {us : List (Str × Tr)} (D : Deeper b.trees us) : BookOk 5 ⟨b.top, us⟩ := by
  have hl : us.length = b.trees.length := by have := congrArg List.length D.keys; simpa using this
  refine ⟨B.top, by show us.length ≤ 11; rw [hl]; exact B.len, by show 6 ≤ us.length; rw [hl]; exact B.pos, by show (us.map (·.1)).Nodup; rw [D.keys]; exact B.nd, fun q mq => ?_, fun q mq => ?_, ⟨fun n mn => ?_, fun n mn => ?_⟩, fun q mq kb => ?_⟩
  · obtain ⟨p, mp, e, _⟩ := D.bwd q mq
    rw [e]; exact B.keys p mp
  · obtain ⟨p, mp, e, n, hn, e2⟩ := D.bwd q mq
    rw [e2]; exact ((B.trees p mp).deep (by omega) hn).1
  · obtain ⟨p, mp, bk, r1, r2⟩ := B.base.st n mn
    obtain ⟨q, mq, e, m, hm, e2⟩ := D.fwd p mp
    obtain ⟨g1, g2⟩ := deep_name (B.trees p mp) (by omega) hm
    exact ⟨q, mq, by rw [e]; exact bk, by rw [e2, g1]; exact r1, by rw [e2, g2]; exact r2⟩
  · obtain ⟨p, mp, bk, r1, r2⟩ := B.base.gr n mn
    obtain ⟨q, mq, e, m, hm, e2⟩ := D.fwd p mp
    obtain ⟨g1, g2⟩ := deep_name (B.trees p mp) (by omega) hm
    exact ⟨q, mq, by rw [e]; exact bk, by rw [e2, g1]; exact r1, by rw [e2, g2]; exact r2⟩
  · obtain ⟨p, mp, e, n, hn, e2⟩ := D.bwd q mq
    rw [e] at kb
    obtain ⟨_, _, _, w, hh⟩ := (B.trees p mp).deep (by omega) hn
    have bs := B.bs p mp kb
    have h1 := bs.h1
    rw [e2]
    exact ⟨w bs.w, by omega, by omega⟩
def trS (s : Str) : Str := if s = Str.ofString "a" then Str.ofString "b" else Str.ofString "a"
mutual
def Tr.turn : Tr → Tr
  | .sign s => .sign (trS s)
  | .knot n tk ks => .knot n tk (Tr.turnL ks)
  | .void => .void
  | .hole s => .hole s
  | .foot s => .foot s
def Tr.turnL : List Tr → List Tr
  | [] => []
  | t :: ts => t.turn :: Tr.turnL ts
end
end GM
namespace GM
open PySem L2 GS
end GM
namespace GM
open PySem L2 GS
end GM
namespace GM
open PySem L2 GS
/-- _law_keys(plan); slots 0:plan 1:found 2:place 3:one -/
def m_law_keys_b1 (F__law_keys : FF) : SF := (sKill [2, 3] (sExt 1 (eCall 1 none F__law_keys (aCons (eMv 3) aNil))))
def m_law_keys (F__law_keys : FF) : SF := (sSeq (sSet 1 (eLst (aCons (eBin ixA (eVb 0) (eC (.int 0))) aNil))) (sSeq (sFor (iSq (eBin ixA (eVb 0) (eC (.int 1)))) (gT 2 (gsC (gN 2) (gsC (gN 3) gsN))) (m_law_keys_b1 F__law_keys)) (sEnd (sRet (eRv 1)))))
theorem m_law_keys_eq (F__law_keys : FF) (ρ : Rho) : fnF 4 1 (m_law_keys F__law_keys) ρ = finR 1 (m_law_keys F__law_keys (ρ ++ [none, none, none])) := fnF_eq 4 1 _
end GM
namespace GM
open PySem L2 GS
def KeysSp (n : Nat) (F : FF) : Prop := ∀ q : Pl, q.dep ≤ n → q.size ≤ 100000 → F [some ⟨q.enc, .sh⟩] = .ok (.fr (.list (q.keys.map .str))) [none]
theorem law_keys_ok {n : Nat} {Fw : FF} (hw : ∀ m, m + 1 = n → KeysSp m Fw) : KeysSp n (fnF 4 1 (m_law_keys Fw)) := fun q hd hz => by
  rw [m_law_keys_eq]
  have i1 := ix_puts q
  have i0 := ix_key q
  obtain ⟨k, ps⟩ := q
  rw [Pl.dep] at hd
  rw [Pl.size] at hz
  dsimp only [Pl.puts, Pl.key] at i1 i0
  have loop : ∀ (rs : List (List Nat × Pl)) (acc : List Str), (∀ x ∈ rs, x.2.dep + 1 ≤ n) → acc.length + Pl.sizeL rs ≤ 100000 → forL (gT 2 (gsC (gN 2) (gsC (gN 3) gsN))) (m_law_keys_b1 Fw) (rs.map Pl.encX) [some ⟨Pl.enc (.mk k ps), .sh⟩, some ⟨.list (acc.map .str), .ow⟩, none, none] = .nx [some ⟨Pl.enc (.mk k ps), .sh⟩, some ⟨.list ((acc ++ Pl.keysL rs).map .str), .ow⟩, none, none] := fun rs => by
    induction rs with
    | nil => intro acc _ _; rw [Pl.keysL, List.append_nil]; rfl
    | cons y rs ih =>
      intro acc h1 h2
      obtain ⟨p, u⟩ := y
      rw [Pl.sizeL, Pl.sizeX] at h2
      have d1 := h1 (p, u) (by simp)
      dsimp only at d1
      have e := hw (n - 1) (by omega) u (by omega) (by omega)
      have wl := keys_len u
      have z : acc.length + u.keys.length ≤ sizeLine := fits (by omega)
      have st : optR (gT 2 (gsC (gN 2) (gsC (gN 3) gsN)) (Pl.encX (p, u)) [some ⟨Pl.enc (.mk k ps), .sh⟩, some ⟨.list (acc.map .str), .ow⟩, none, none]) (m_law_keys_b1 Fw) = .nx [some ⟨Pl.enc (.mk k ps), .sh⟩, some ⟨.list ((acc ++ u.keys).map .str), .ow⟩, none, none] := by
        rw [pencX_eq]
        generalize Pl.enc (.mk k ps) = qe
        simp [m_law_keys_b1, e, z]
      rw [List.map_cons, forL_cons2, st, turnR_nx, ih (acc ++ u.keys) (fun x m => h1 x (by simp [m])) (by rw [List.length_append]; omega), Pl.keysL, Pl.keysX, List.append_assoc]
  have l := loop ps [k] (fun x mx => by have := depX_le (Nat.le_refl _) x mx; omega) (by rw [List.length_singleton]; omega)
  have l' : forL (gT 2 (gsC (gN 2) (gsC (gN 3) gsN))) (m_law_keys_b1 Fw) (ps.map Pl.encX) [some ⟨Pl.enc (.mk k ps), .sh⟩, some ⟨.list [.str k], .ow⟩, none, none] = .nx [some ⟨Pl.enc (.mk k ps), .sh⟩, some ⟨.list ((Pl.keys (.mk k ps)).map .str), .ow⟩, none, none] := by
    rw [Pl.keys]
    exact l
  generalize (Pl.keys (.mk k ps)).map PyData.str = we at l' ⊢
  generalize Pl.enc (.mk k ps) = qe at i0 i1 l' ⊢
  generalize ps.map Pl.encX = pe at i1 l'
  simp [m_law_keys, i0, i1, l']
def Tr.sort : Tr → Str
  | .knot _ _ _ => Str.ofString "knot"
  | .sign _ => Str.ofString "sign"
  | .void => Str.ofString "void"
  | .hole _ => Str.ofString "hole"
  | .foot _ => Str.ofString "foot"
/-- how many pieces of a sort -/
def cN (w : Str) (t : Tr) : Nat := t.pieces.countP fun u => decide (u.sort = w)
def fW (w : Str) (u : Tr) : List Unit := if u.sort = w then [()] else []
theorem cN_flat (w : Str) (t : Tr) : cN w t = (flatT (fW w) t).length := by
  unfold cN flatT
  induction t.pieces with
  | nil => rfl
  | cons u us ih =>
    rw [List.countP_cons, List.flatMap_cons, List.length_append, ih]
    unfold fW
    by_cases c : u.sort = w <;> simp [c] <;> omega
theorem ownW {w : Str} (h : w ≠ Str.ofString "foot") : Own (fW w) := ⟨fun s => if_neg fun e => h e.symm, fun _ _ _ _ _ => rfl⟩
def fS (u : Tr) : List Str := u.signN.toList
theorem ownS : Own fS := ⟨fun _ => rfl, fun _ _ _ _ _ => rfl⟩
theorem flat_signs (t : Tr) : flatT fS t = t.signs := by
  unfold flatT Tr.signs
  induction t.pieces with
  | nil => rfl
  | cons u us ih =>
    rw [List.flatMap_cons, List.filterMap_cons, ih]
    unfold fS
    cases u.signN <;> rfl
theorem f0_S : f0 fS = fS := by funext u; cases u <;> rfl
theorem f0_W {w : Str} (h : w ≠ Str.ofString "hole") : f0 (fW w) = fW w := by
  funext u
  cases u <;> first | rfl | exact (if_neg fun e => h e.symm).symm
section
variable {h n : Nat} {b : Bk} {q : Pl}
theorem flat_sum {α β : Type} (u : α → List β) (l : List α) : (l.flatMap u).length = (l.map fun x => (u x).length).sum := by
  induction l with
  | nil => rfl
  | cons x l ih => rw [List.flatMap_cons, List.length_append, ih, List.map_cons, List.sum_cons]
theorem built_count (B : BookOk h b) (Q : PlB h b n q) {w : Str} (h1 : w ≠ Str.ofString "foot") (h2 : w ≠ Str.ofString "hole") : cN w (builtN b n q) = (q.keys.map fun k => cN w (kT b k)).sum := by
  have := (built_flat (ownW h1) B Q.ok Q.dep).1.length_eq
  rw [f0_W h2, flat_sum] at this
  rw [cN_flat, this]
  congr 1
  refine List.map_congr_left fun k _ => ?_
  rw [cN_flat]
end
end GM
namespace GM
open PySem L2 GS
end GM
namespace GM
open PySem L2 GS
section
variable {Fc Fz Fg Fs Fp Fk Fr Fb : FF}
end
end GM
namespace GM
open PySem L2 GS
section
variable {Fc Fz Fg Fs Fp Fk Fr Fb : FF}
end
end GM
namespace GM
open PySem L2 GS
end GM
namespace GM
open PySem L2 GS
theorem PutsOk.set {b : Bk} : ∀ {us : List (List Nat × Tr)} {ps : List (List Nat × Pl)}, PutsOk b us ps → ∀ (i : Nat) (p : List Nat) (q : Pl), ps[i]? = some (p, q) → ∃ u, (p, u) ∈ us ∧ q.key ∈ b.takers u ∧ ∀ q', q'.key ∈ b.takers u → PlOk b q' → PutsOk b us (ps.take i ++ (p, q') :: ps.drop (i + 1))
  | _, _, .nil, i, p, q, h => by simp at h
  | _, _, .skip hm r, i, p, q, h => by
    obtain ⟨u, mu, mk, k⟩ := PutsOk.set r i p q h
    exact ⟨u, List.mem_cons_of_mem _ mu, mk, fun q' h1 h2 => .skip hm (k q' h1 h2)⟩
  | _, _, .put (u := u) hk o r, 0, p, q, h => by
    simp at h
    obtain ⟨rfl, rfl⟩ := h
    exact ⟨u, List.mem_cons_self, hk, fun q' h1 h2 => .put h1 h2 r⟩
  | _, _, .put hk o r, i + 1, p, q, h => by
    simp only [List.getElem?_cons_succ] at h
    obtain ⟨u, mu, mk, k⟩ := PutsOk.set r i p q h
    exact ⟨u, List.mem_cons_of_mem _ mu, mk, fun q' h1 h2 => .put hk o (k q' h1 h2)⟩
section
variable {Fr Fi Fp Fa Ft Fb Fc : FF}
end
end GM
namespace GM
open PySem L2 GS
end GM
namespace GM
open PySem L2 GS
/-- what the law's is_plan may be asked of -/
def preQ : Nat → D → Prop
  | 0, d => ∀ k ps, d ≠ .tuple [.str k, ps]
  | n + 1, d => ∀ k ps, d = .tuple [.str k, ps] → PyData.strOk k = true ∧ ∀ xs, ps = .tuple xs → xs.length ≤ 60 ∧ ∀ x ∈ xs, ∀ ns o, x = .tuple [.tuple ns, o] → ns.length ≤ 1000 ∧ preQ n o
theorem preQ.p : ∀ {n : Nat} {d : D}, preQ n d → preP n d
  | 0, _, h => h
  | n + 1, d, h => fun k ps L e hL => by
    obtain ⟨_, h2⟩ := h k ps e
    have pe : ps = .tuple (L.map encPt) := by
      unfold putsP at hL
      split at hL
      · obtain ⟨r1, _, _⟩ := goP_rising hL
        rw [r1]
      · cases hL
    obtain ⟨l, q⟩ := h2 _ pe
    rw [List.length_map] at l
    refine ⟨by omega, fun x mx => ?_⟩
    obtain ⟨_, r⟩ := q _ (List.mem_map_of_mem mx) (x.1.map .int) (krD x.2) rfl
    refine ⟨?_, preQ.p r⟩
    cases n with
    | zero => exact absurd rfl (r x.2.1 x.2.2)
    | succ n => exact (r x.2.1 x.2.2 rfl).1
end GM
namespace GM
open PySem L2 GS
section
variable {Ft Fi Fp Fu : FF}
end
end GM
namespace GM
open PySem L2 GS
end GM
namespace GW
open PySem L2 GS GM
def WmB : Tr → Bool
  | .hole n => decide (n ∈ nm3)
  | .knot _ tk _ => wtk tk
  | _ => true
theorem wm_of {u : Tr} (h : WnB u = true) : WmB u = true := by
  cases u with
  | hole n => exact h
  | knot n tk ks => rw [WnB, Bool.and_eq_true] at h; exact h.2
  | _ => rfl
structure TreeW (h : Nat) (t : Tr) : Prop where
  ok : t.ok = true
  kn : t.isKnot = true
  feet : t.feet.length ≤ 1
  ht : t.ht ≤ h
  sz : t.pieces.length ≤ 50
  wn : ∀ u ∈ t.pieces, WmB u = true
structure NWx (t : Tr) : Prop where
  w : NoW t
structure BookW (h : Nat) (b : Bk) : Prop where
  len : b.trees.length ≤ 11
  pos : 6 ≤ b.trees.length
  nd : (b.trees.map (·.1)).Nodup
  keys : ∀ p ∈ b.trees, p.1 ∈ baseK ++ moreK
  trees : ∀ p ∈ b.trees, TreeW h p.2
  base : Base b.trees
  bs : ∀ p ∈ b.trees, p.1 ∈ baseK → NWx p.2
section
variable {Fp Fl Ft Fc : FF}
end
section
variable {Fp Fl Ft Fc : FF}
end
theorem deepK_wm {ks : List Tr} (h : ∀ k ∈ ks, ∀ u ∈ k.pieces, WmB u = true) : ∀ n, ∀ k ∈ deepK n ks, ∀ u ∈ k.pieces, WmB u = true
  | 0 => h
  | n + 1 => fun k m => by
    rw [deepK] at m
    simp only [List.mem_cons, List.not_mem_nil, or_false] at m
    subst m
    intro u mu
    rw [Tr.pieces] at mu
    rcases List.mem_cons.mp mu with rfl | mu
    · rfl
    · rw [piecesL_flat] at mu
      obtain ⟨k, mk, mu⟩ := List.mem_flatMap.mp mu
      exact deepK_wm h n k mk u mu
theorem deep_ok {h : Nat} {t : Tr} (T : GM.TreeOk h t) (h3 : h ≤ 3) {n : Nat} (hn : n ≤ 3) : TreeW (h + 3) (t.deepen n) ∧ (t.deepen n).feet = t.feet ∧ (t.deepen n).word = t.word ∧ (NoW t → NoW (t.deepen n)) := by
  obtain ⟨nm, tk, ks, rfl⟩ := knot_is T.kn
  obtain ⟨o1, o2, o3, o4, o5⟩ := knot_parts T.ok
  obtain ⟨d1, d2, d3⟩ := deepK_ok (okL_of o5) o3 o4 n (by omega)
  have pc := deepK_pc ks n
  have ft : (Tr.knot nm tk (deepK n ks)).feet = (Tr.knot nm tk ks).feet := by rw [feet_knot, feet_knot, deepK_ft]
  have s4 := T.s4
  have hh := T.ht
  rw [pieces_knot] at s4
  rw [Tr.ht] at hh
  have hw := T.wn
  show TreeW (h + 3) (.knot nm tk (deepK n ks)) ∧ _
  refine ⟨⟨?_, rfl, by rw [ft]; exact T.feet, ?_, ?_, fun u mu => ?_⟩, ft, rfl, fun hnw => ?_⟩
  · simp only [Tr.ok, Bool.and_eq_true, decide_eq_true_eq]
    exact ⟨o1, o2, d2, d3, d1⟩
  · rw [Tr.ht, deepK_ht]; omega
  · rw [pieces_knot, pc]; omega
  · rw [Tr.pieces] at mu
    rcases List.mem_cons.mp mu with rfl | mu
    · exact wm_of (u := .knot nm tk ks) hw.self
    · rw [piecesL_flat] at mu
      obtain ⟨k, mk, mu⟩ := List.mem_flatMap.mp mu
      exact deepK_wm (fun k mk u mu => wm_of (knot_all hw k mk u mu)) n k mk u mu
  · intro u mu
    rw [Tr.deepen, Tr.pieces] at mu
    rcases List.mem_cons.mp mu with rfl | mu
    · have := hnw (.knot nm tk ks) (by rw [Tr.pieces]; simp)
      cases tk with
      | none => rfl
      | some w => exact this
    · rw [piecesL_flat] at mu
      obtain ⟨k, mk, mu⟩ := List.mem_flatMap.mp mu
      exact deepK_nw (knot_all hnw) n k mk u mu
def Deep3 (ts us : List (Str × Tr)) : Prop := Paired (fun p q : Str × Tr => q.1 = p.1 ∧ ∃ n, n ≤ 3 ∧ q.2 = p.2.deepen n) ts us
theorem Deep3.keys {ts us : List (Str × Tr)} (h : Deep3 ts us) : us.map (·.1) = ts.map (·.1) := by
  induction h with
  | nil => rfl
  | cons e _ ih => rw [List.map_cons, List.map_cons, ih, e.1]
theorem Deep3.fwd {ts us : List (Str × Tr)} (h : Deep3 ts us) : ∀ p ∈ ts, ∃ q ∈ us, q.1 = p.1 ∧ ∃ n, n ≤ 3 ∧ q.2 = p.2.deepen n := by
  induction h with
  | nil => intro p m; cases m
  | cons e _ ih =>
    intro p m
    rcases List.mem_cons.mp m with rfl | m
    · exact ⟨_, List.mem_cons_self, e⟩
    · obtain ⟨q, mq, r⟩ := ih p m
      exact ⟨q, List.mem_cons_of_mem _ mq, r⟩
theorem Deep3.bwd {ts us : List (Str × Tr)} (h : Deep3 ts us) : ∀ q ∈ us, ∃ p ∈ ts, q.1 = p.1 ∧ ∃ n, n ≤ 3 ∧ q.2 = p.2.deepen n := by
  induction h with
  | nil => intro p m; cases m
  | cons e _ ih =>
    intro p m
    rcases List.mem_cons.mp m with rfl | m
    · exact ⟨_, List.mem_cons_self, e⟩
    · obtain ⟨q, mq, r⟩ := ih p m
      exact ⟨q, List.mem_cons_of_mem _ mq, r⟩
theorem deep_nm {h : Nat} {t : Tr} (T : GM.TreeOk h t) (h3 : h ≤ 3) {n : Nat} (hn : n ≤ 3) : (t.deepen n).isGraft = t.isGraft ∧ (t.deepen n).name = t.name := by
  obtain ⟨_, e1, e2, _⟩ := deep_ok T h3 hn
  unfold Tr.isGraft Tr.name
  rw [e1, e2]
  exact ⟨rfl, rfl⟩
theorem Deep3.ok {b : Bk} (B : GM.BookOk 2 b) {us : List (Str × Tr)} (D : Deep3 b.trees us) : BookW 5 ⟨b.top, us⟩ := by
  have hl : us.length = b.trees.length := by have := congrArg List.length D.keys; simpa using this
  refine ⟨by show us.length ≤ 11; rw [hl]; exact B.len, by show 6 ≤ us.length; rw [hl]; exact B.pos, by show (us.map (·.1)).Nodup; rw [D.keys]; exact B.nd, fun q mq => ?_, fun q mq => ?_, ⟨fun n mn => ?_, fun n mn => ?_⟩, fun q mq kb => ?_⟩
  · obtain ⟨p, mp, e, _⟩ := D.bwd q mq
    rw [e]; exact B.keys p mp
  · obtain ⟨p, mp, e, n, hn, e2⟩ := D.bwd q mq
    rw [e2]; exact (deep_ok (B.trees p mp) (by omega) hn).1
  · obtain ⟨p, mp, bk, r1, r2⟩ := B.base.st n mn
    obtain ⟨q, mq, e, m, hm, e2⟩ := D.fwd p mp
    obtain ⟨g1, g2⟩ := deep_nm (B.trees p mp) (by omega) hm
    exact ⟨q, mq, by rw [e]; exact bk, by rw [e2, g1]; exact r1, by rw [e2, g2]; exact r2⟩
  · obtain ⟨p, mp, bk, r1, r2⟩ := B.base.gr n mn
    obtain ⟨q, mq, e, m, hm, e2⟩ := D.fwd p mp
    obtain ⟨g1, g2⟩ := deep_nm (B.trees p mp) (by omega) hm
    exact ⟨q, mq, by rw [e]; exact bk, by rw [e2, g1]; exact r1, by rw [e2, g2]; exact r2⟩
  · obtain ⟨p, mp, e, n, hn, e2⟩ := D.bwd q mq
    rw [e] at kb
    obtain ⟨_, _, _, w⟩ := deep_ok (B.trees p mp) (by omega) hn
    have bs := B.bs p mp kb
    rw [e2]
    exact ⟨w bs.w⟩
end GW
namespace GM
open PySem L2 GS
end GM
namespace GW
open PySem L2 GS GM
theorem pq_no {d : D} (h : ∀ k ps, d ≠ .tuple [.str k, ps]) : ∀ n, preQ n d
  | 0 => h
  | _ + 1 => fun k ps e => absurd e (h k ps)
def PutQ (n : Nat) (x : D) : Prop := ∀ ns o, x = .tuple [.tuple ns, o] → ns.length ≤ 1000 ∧ preQ n o
end GW
namespace GM
open PySem L2 GS GW
theorem preQ.up : ∀ {n : Nat} {d : D}, preQ n d → preQ (n + 1) d
  | 0, _, h => GW.pq_no h 1
  | n + 1, d, h => fun k ps e => by
    obtain ⟨h1, h2⟩ := h k ps e
    refine ⟨h1, fun xs ex => ?_⟩
    obtain ⟨l, q⟩ := h2 xs ex
    exact ⟨l, fun x mx ns o eo => ⟨(q x mx ns o eo).1, preQ.up (q x mx ns o eo).2⟩⟩
end GM
namespace GW
open PySem L2 GS GM
theorem pq_k {n : Nat} {k : Str} {xs : List D} (hk : PyData.strOk k = true) (hl : xs.length ≤ 60) (h : ∀ x ∈ xs, PutQ n x) : preQ (n + 1) (.tuple [.str k, .tuple xs]) := fun k' ps e => by
  injection e with e
  injection e with e1 e
  injection e with e2 _
  injection e1 with e1
  subst e1
  refine ⟨hk, fun xs' ex => ?_⟩
  rw [← e2] at ex
  injection ex with ex
  subst ex
  exact ⟨hl, h⟩
/-- puts in a row -/
def PsQ (n m : Nat) (ys : List D) : Prop := ys.length ≤ m ∧ ∀ y ∈ ys, PutQ n y
theorem PsQ.nil {n : Nat} : PsQ n 0 [] := ⟨Nat.le_refl _, fun _ m => by cases m⟩
theorem PsQ.one {n : Nat} {y : D} (h : PutQ n y) : PsQ n 1 [y] := ⟨Nat.le_refl _, fun _ m => by rw [List.mem_singleton] at m; subst m; exact h⟩
theorem PsQ.app {n m m' : Nat} {a b : List D} (h : PsQ n m a) (g : PsQ n m' b) : PsQ n (m + m') (a ++ b) := ⟨by have := h.1; have := g.1; rw [List.length_append]; omega, fun y my => (List.mem_append.mp my).elim (h.2 y) (g.2 y)⟩
theorem PsQ.cons {n m : Nat} {a : D} {b : List D} (h : PutQ n a) (g : PsQ n m b) : PsQ n (m + 1) (a :: b) := ⟨by have := g.1; rw [List.length_cons]; omega, fun y my => (List.mem_cons.mp my).elim (fun e => e ▸ h) (g.2 y)⟩
theorem PsQ.k {n m : Nat} {k : Str} {a : List D} (h : PsQ n m a) (hk : PyData.strOk k = true) (hm : m ≤ 60) : preQ (n + 1) (.tuple [.str k, .tuple a]) := pq_k hk (Nat.le_trans h.1 hm) h.2
def AllQ (n : Nat) (S : List D) : Prop := ∀ d ∈ S, preQ n d
theorem AllQ.app {n : Nat} {a b : List D} (h : AllQ n a) (g : AllQ n b) : AllQ n (a ++ b) := fun d m => (List.mem_append.mp m).elim (h d) (g d)
theorem AllQ.nil {n : Nat} : AllQ n [] := fun _ m => by cases m
theorem AllQ.cons {n : Nat} {a : D} {b : List D} (h : preQ n a) (g : AllQ n b) : AllQ n (a :: b) := fun d m => (List.mem_cons.mp m).elim (fun e => e ▸ h) (g d)
theorem PsQ.cut {n m : Nat} {a : List D} (h : PsQ n m a) (lo hi : Option Int) : PsQ n m (cutD a lo hi) := ⟨Nat.le_trans (cutD_len a lo hi) h.1, fun y my => h.2 y (cutD_mem my)⟩
theorem AllQ.rep {n : Nat} {d : D} (h : preQ n d) : ∀ k : Nat, AllQ n (List.replicate k [d]).flatten
  | 0 => .nil
  | k + 1 => by rw [List.replicate_succ, List.flatten_cons]; exact .app (.cons h .nil) (AllQ.rep h k)
end GW
namespace GM
open PySem L2 GS
end GM
namespace GW
open PySem L2 GS GM
section
variable {Fo Fb : FF}
end
end GW
namespace GS
open PySem L2
section
variable {K : KW} {X : Cx} {C : Ct} {a b : Expr} {ta tb : TE} {fa fb : EF} {apos pos : Pos}
end
section
variable {ρ : Rho}
end
end GS
namespace GS
open PySem L2
section
variable {K : KW} {ρ ρ0 ρ0' ρ2 : Rho} {σ : St} {B H B' H' : Hp} {ios : List Nat} {hs : List Hd} {vs : List V}
end
section
variable {X : Cx} {C : Ct} {e : Expr} {es : List Expr} {pos p : Pos} {x : Str} {k n : Nat} {f : Addr} {fd : FuncData} {ps : List Str} {ios : List Nat} {F : FF} {t : TA} {g : AF}
end
end GS
namespace GS
open PySem L2 PySem.Spec PyProof.Rows
end GS
namespace GS
open PySem L2
section
variable {ρ ρ1 : Rho} {c : Prop} [Decidable c]
def putX (ρ : Rho) (h : Option Hd) (c' : Option Cel) : Option Rho := match h with
  | some (.bw i) => putBC ρ i (slot ρ i) c'
  | _ => none
@[simp] theorem putX_bw (i : Nat) (c' : Option Cel) : putX ρ (some (.bw i)) c' = putBC ρ i (slot ρ i) c' := rfl
theorem putB_x (j : Nat) (hs : List Hd) (outs : Rho) : putB ρ (some j) hs outs = putX ρ (hs[j]?) (slot outs j) := by
  show (match hs[j]? with | some (.bw i) => (match slot ρ i, slot outs j with | some c, some c' => some (ρ.set i (some ⟨c'.d, c.fl⟩)) | _, _ => none) | _ => none) = _
  unfold putX putBC
  generalize hs[j]? = v
  cases v with
  | none => rfl
  | some v =>
    cases v with
    | bw i => rfl
    | _ => rfl
end
end GS
namespace GZ
open PySem L2 GS GM
structure BkW (h : Nat) (b : Bk) : Prop where
  nd : (b.trees.map (·.1)).Nodup
  feet : ∀ p ∈ b.trees, p.2.feet.length ≤ 1
  ht : ∀ p ∈ b.trees, p.2.ht ≤ h
  sz : ∀ p ∈ b.trees, p.2.pieces.length ≤ 60
theorem starts_of {h : Nat} {b : Bk} (B : BkW h b) {u : Tr} {k : Str} (m : k ∈ b.takers u) {t : Tr} (e : b.treeOf k = some t) : ∃ g n c, u.want = some (g, n, c) ∧ t.isGraft = g := by
  unfold Bk.takers at m
  cases hw : u.want with
  | none => rw [hw] at m; cases m
  | some w =>
    obtain ⟨g, n, c⟩ := w
    rw [hw] at m
    obtain ⟨p, mp, rfl⟩ := List.mem_map.mp m
    obtain ⟨mp, hp⟩ := List.mem_filter.mp mp
    have := treeOf_mem B.nd mp
    rw [e] at this
    cases this
    rw [Bool.and_eq_true, decide_eq_true_eq] at hp
    exact ⟨g, n, c, rfl, hp.1⟩
section
variable {α : Type} {f : Tr → List α} {h : Nat} {b : Bk} {g : List Nat → Option Tr} {G : Pl → Tr}
mutual
theorem bAt_flat (F : Own f) (B : BkW h b) : ∀ (t : Tr) (p : List Nat) (ps : List (List Nat × Pl)), PutsOk b (t.pps p) ps → ((t.pps p).map (·.1)).Nodup → (∀ x ∈ t.pps p, g x.1 = (getN ps x.1).map G) → (∀ x ∈ ps, (G x.2).feet = (kT b x.2.key).feet) →
    (flatT f (bAt g p t)).Perm (flatT (f0 f) t ++ ps.flatMap fun x => flatT f (G x.2)) ∧ (bAt g p t).feet = t.feet
  | .sign s, p, ps, o, nd, hg, hf => by
    rw [Tr.pps] at o
    cases o with
    | skip m r => cases r; exact ⟨by rw [bAt, List.flatMap_nil, List.append_nil]; exact .refl _, rfl⟩
    | put m _ _ => cases m
  | .void, p, ps, o, nd, hg, hf => by
    rw [Tr.pps] at o
    cases o with
    | skip m r => cases r; exact ⟨by rw [bAt, List.flatMap_nil, List.append_nil]; exact .refl _, rfl⟩
    | put m _ _ => cases m
  | .foot s, p, ps, o, nd, hg, hf => by
    rw [Tr.pps] at o
    cases o with
    | skip m r => cases r; exact ⟨by rw [bAt, List.flatMap_nil, List.append_nil]; exact .refl _, rfl⟩
    | put m _ _ => cases m
  | .hole s, p, ps, o, nd, hg, hf => by
    rw [Tr.pps] at o
    cases o with
    | skip m r => cases m
    | put m oq r =>
      rename_i q qs
      cases r
      have e := hg (p, .hole s) (by simp [Tr.pps])
      dsimp only at e
      rw [getN_head] at e
      obtain ⟨t, et⟩ := oq.keyIn
      obtain ⟨g', n, c, w1, w2⟩ := starts_of B m et
      cases w1
      have T := B.feet _ (treeOf_in et)
      have ff := hf (p, q) (by simp)
      have nf : t.feet = [] := by
        have := T
        dsimp only at this
        unfold Tr.isGraft at w2
        rw [decide_eq_false_iff_not] at w2
        exact List.eq_nil_of_length_eq_zero (by omega)
      rw [bAt, e]
      dsimp only [Option.map_some, Option.getD_some]
      constructor
      · rw [List.flatMap_cons, List.flatMap_nil, List.append_nil, show flatT (f0 f) (.hole s) = f0 f (.hole s) ++ [] from flat_kids _ _]
        exact .refl _
      · dsimp only at ff
        rw [ff]
        unfold kT
        rw [et]
        exact nf
  | .knot n tk ks, p, ps, o, nd, hg, hf => by
    rw [Tr.pps] at o nd
    rw [List.map_cons, List.nodup_cons] at nd
    have kd : ∀ rs, PutsOk b (Tr.ppsL p 0 ks) rs → (∀ x ∈ rs, x ∈ ps) → (∀ x ∈ Tr.ppsL p 0 ks, g x.1 = (getN rs x.1).map G) → (flatT f (.knot n none (bAtL g p 0 ks))).Perm (flatT (f0 f) (.knot n tk ks) ++ rs.flatMap fun x => flatT f (G x.2)) ∧ (Tr.knot n none (bAtL g p 0 ks)).feet = (Tr.knot n tk ks).feet := fun rs ro sub ag => by
      obtain ⟨h1, h2⟩ := bAtL_flat F B ks p 0 rs ro nd.2 ag (fun x m => hf x (sub x m))
      rw [flat_knot, flat_knot, feet_knot, feet_knot, List.append_assoc]
      constructor
      · rw [F.kn n none (bAtL g p 0 ks) tk ks]
        exact h1.append_left _
      · exact h2
    have hp0 := hg (p, .knot n tk ks) (by rw [Tr.pps]; simp)
    dsimp only at hp0
    cases o with
    | skip m r =>
      have np : p ∉ ps.map (·.1) := fun e => nd.1 (r.sub.subset e)
      rw [getN_no np] at hp0
      have hp0 : g p = none := hp0
      obtain ⟨h1, h2⟩ := kd ps r (fun _ m => m) (fun x m => hg x (by rw [Tr.pps]; simp [m]))
      rw [bAt, hp0]
      exact ⟨h1, h2⟩
    | put m oq r =>
      rename_i q qs
      rw [getN_head] at hp0
      have hp0 : g p = some (G q) := hp0
      obtain ⟨h1, h2⟩ := kd qs r (fun _ m => by simp [m]) (fun x mx => by
        have e := hg x (by rw [Tr.pps]; simp [mx])
        have ne : ¬ p = x.1 := fun e => nd.1 (List.mem_map.mpr ⟨x, mx, e.symm⟩)
        rw [e]
        unfold getN
        rw [List.find?_cons, decide_eq_false ne])
      obtain ⟨t, et⟩ := oq.keyIn
      obtain ⟨g', n', c, w1, w2⟩ := starts_of B m et
      have gt : g' = true := by
        cases tk with
        | none => cases w1
        | some z => cases z; cases w1; rfl
      subst gt
      have ff := hf (p, q) (by simp)
      dsimp only at ff
      have lf : (G q).feet.length = 1 := by
        rw [ff]
        unfold kT
        rw [et]
        unfold Tr.isGraft at w2
        exact of_decide_eq_true w2
      obtain ⟨v1, v2⟩ := wf_flat F (.knot n none (bAtL g p 0 ks)) (G q) lf
      rw [bAt, hp0]
      dsimp only
      constructor
      · refine v1.trans ?_
        rw [List.flatMap_cons]
        refine (h1.append_left _).trans ?_
        dsimp only
        rw [← List.append_assoc, ← List.append_assoc]
        exact (List.perm_append_comm).append_right _
      · rw [v2, h2]
theorem bAtL_flat (F : Own f) (B : BkW h b) : ∀ (ts : List Tr) (p : List Nat) (k : Nat) (ps : List (List Nat × Pl)), PutsOk b (Tr.ppsL p k ts) ps → ((Tr.ppsL p k ts).map (·.1)).Nodup → (∀ x ∈ Tr.ppsL p k ts, g x.1 = (getN ps x.1).map G) → (∀ x ∈ ps, (G x.2).feet = (kT b x.2.key).feet) →
    ((bAtL g p k ts).flatMap (flatT f)).Perm (ts.flatMap (flatT (f0 f)) ++ ps.flatMap fun x => flatT f (G x.2)) ∧ (bAtL g p k ts).flatMap Tr.feet = ts.flatMap Tr.feet
  | [], p, k, ps, o, nd, hg, hf => by
    rw [Tr.ppsL] at o
    cases o
    exact ⟨.refl _, rfl⟩
  | t :: ts, p, k, ps, o, nd, hg, hf => by
    rw [Tr.ppsL] at o nd
    obtain ⟨a, c, rfl, o1, o2⟩ := o.split
    rw [List.map_append, List.nodup_append] at nd
    obtain ⟨n1, n2, n3⟩ := nd
    obtain ⟨h1, h2⟩ := bAt_flat F B t (p ++ [k]) a o1 n1 (fun x m => by
      rw [hg x (by rw [Tr.ppsL]; simp [m]), getN_left fun e => n3 _ (List.mem_map_of_mem m) _ (o2.sub.subset e) rfl]) (fun x m => hf x (by simp [m]))
    obtain ⟨h3, h4⟩ := bAtL_flat F B ts p (k + 1) c o2 n2 (fun x m => by
      rw [hg x (by rw [Tr.ppsL]; simp [m]), getN_right fun e => n3 _ (o1.sub.subset e) _ (List.mem_map_of_mem m) rfl]) (fun x m => hf x (by simp [m]))
    rw [bAtL, List.flatMap_cons, List.flatMap_cons, List.flatMap_cons, List.flatMap_cons, h2, h4, List.flatMap_append]
    refine ⟨?_, rfl⟩
    refine (h1.append h3).trans ?_
    generalize flatT (f0 f) t = x1
    generalize List.flatMap (flatT (f0 f)) ts = x2
    generalize (List.flatMap (fun x : List Nat × Pl => flatT f (G x.2)) a) = y1
    generalize (List.flatMap (fun x : List Nat × Pl => flatT f (G x.2)) c) = y2
    rw [List.append_assoc, List.append_assoc]
    refine List.Perm.append_left x1 ?_
    rw [← List.append_assoc, ← List.append_assoc]
    exact List.perm_append_comm.append_right y2
end
end
theorem built_flat {α : Type} {f : Tr → List α} (F : Own f) {h : Nat} {b : Bk} (B : BkW h b) : ∀ {n : Nat} {q : Pl}, PlOk b q → q.dep ≤ n → (flatT f (builtN b n q)).Perm (q.keys.flatMap fun k => flatT (f0 f) (kT b k)) ∧ (builtN b n q).feet = (kT b q.key).feet
  | 0, .mk k ps, _, h => by rw [Pl.dep] at h; omega
  | n + 1, .mk k ps, .mk (t := t) e r, hd => by
    rw [Pl.dep] at hd
    have ih : ∀ x ∈ ps, (flatT f (builtN b n x.2)).Perm (x.2.keys.flatMap fun k => flatT (f0 f) (kT b k)) ∧ (builtN b n x.2).feet = (kT b x.2.key).feet := fun x m => built_flat F B (r.each x m) (depX_le (by omega) x m)
    obtain ⟨h1, h2⟩ := bAt_flat (g := fun p => (getN ps p).map (builtN b n)) (G := builtN b n) F B t [] ps r (pps_nodup t) (fun x m => rfl) (fun x m => (ih x m).2)
    have kt : kT b k = t := by unfold kT; rw [e]; rfl
    unfold builtN
    dsimp only [Pl.key, Pl.puts]
    rw [e, Option.getD_some, kt, Pl.keys, List.flatMap_cons, kt, keysL_flat, List.flatMap_assoc]
    exact ⟨h1.trans ((perm_congr fun x m => (ih x m).1).append_left _), h2⟩
theorem built_ht {h : Nat} {b : Bk} (B : BkW h b) : ∀ {n : Nat} {q : Pl}, PlOk b q → q.dep ≤ n → (builtN b n q).ht ≤ h * q.size
  | 0, .mk k ps, _, h => by rw [Pl.dep] at h; omega
  | n + 1, .mk k ps, .mk (t := t) e r, hd => by
    rw [Pl.dep] at hd
    have T := B.ht _ (treeOf_in e)
    dsimp only at T
    unfold builtN
    dsimp only [Pl.key, Pl.puts]
    rw [e, Option.getD_some, Pl.size]
    have h1 := bAt_ht (g := fun p => (getN ps p).map (builtN b n)) (G := builtN b n) (H := 0) (w := fun q => h * q.size) t [] ps r (pps_nodup t) (fun x m => rfl) (fun x m => by
      have := built_ht B (n := n) (r.each x m) (depX_le (by omega) x m)
      rw [Nat.zero_add]
      exact this)
    have h2 : sumW (fun q => h * q.size) ps = h * Pl.sizeL ps := by
      clear h1 hd r e
      induction ps with
      | nil => rfl
      | cons x ps ih => obtain ⟨p, q⟩ := x; rw [sumW, ih, Pl.sizeL, Pl.sizeX, Nat.mul_add]
    rw [h2] at h1
    rw [Nat.mul_add]
    omega
/-- a plan that may be built -/
structure PlW (h : Nat) (b : Bk) (n : Nat) (q : Pl) : Prop where
  ok : PlOk b q
  dep : q.dep ≤ n
  hs : h * q.size ≤ 147
  sz : q.size ≤ 300
def BuiltSp (h n : Nat) (F : FF) : Prop := ∀ (b : Bk) (q : Pl), BkW h b → PlW h b n q → F [some ⟨b.enc, .sh⟩, some ⟨q.enc, .sh⟩] = .ok (.sh (builtN b n q).enc) [none, none]
def BAtSp (h n m : Nat) (F : FF) : Prop := ∀ (b : Bk) (t : Tr) (p : List Nat) (ps : List (List Nat × Pl)), BkW h b → (∀ x ∈ ps, PlW h b n x.2) → t.ht ≤ m → t.pieces.length ≤ 1000 → p.length + t.ht ≤ 1000 → (∀ x ∈ t.pps p, ∀ s, x.2 = .hole s → (getN ps x.1).isSome = true) →
  F [some ⟨b.enc, .sh⟩, some ⟨t.enc, .sh⟩, some ⟨encP p, .sh⟩, some ⟨dPuts ps, .sh⟩] = .ok (.sh (bAt (fun p => (getN ps p).map (builtN b n)) p t).enc) [none, none, none, none]
theorem built_sz {h n : Nat} {b : Bk} {q : Pl} (B : BkW h b) (Q : PlW h b n q) : (builtN b n q).pieces.length ≤ 100000 ∧ q.size ≤ 601 := by
  obtain ⟨h1, h2⟩ := built_flat ownP B Q.ok Q.dep
  have h3 := fP_len (builtN b n q)
  have h4 := Q.sz
  obtain ⟨t, et⟩ := Q.ok.keyIn
  have h6 := B.feet _ (treeOf_in et)
  dsimp only at h6
  rw [kT_of et] at h2
  have h7 := h1.length_eq
  have h8 := len_flat_le (l := q.keys) (u := fun k => flatT (f0 fP) (kT b k)) (c := 60) (fun k m => by
    obtain ⟨t, et⟩ := Q.ok.keysIn k m
    have sz := B.sz _ (treeOf_in et)
    dsimp only at sz ⊢
    rw [kT_of et]
    refine Nat.le_trans ?_ sz
    unfold flatT
    have := len_flat_le (l := t.pieces) (u := f0 fP) (c := 1) (fun u _ => by cases u <;> simp [f0, fP])
    omega)
  rw [keys_len] at h8
  rw [h2] at h3
  omega
theorem built_ht3 {h n : Nat} {b : Bk} {q : Pl} (B : BkW h b) (Q : PlW h b n q) : (builtN b n q).ht ≤ 147 := by
  have h1 := built_ht B Q.ok Q.dep
  have h2 := Q.hs
  omega
section
variable {Fb Fw Fa Ft : FF}
theorem built_at_ok {h n m : Nat} (hb : BuiltSp h n Fb) (hw : WfSp 147 Fw) (ha : ∀ k, k + 1 = m → BAtSp h n k Fa) : BAtSp h n m (fnF 8 4 (m_built_at Fb Fw Fa)) := fun b t p ps B hps hh hz hl hol => by
  rw [m_built_at_eq]
  have ix := ix_dputs ps p
  have inp := in_puts false ps p
  have Q0 : ∀ q, getN ps p = some q → PlW h b n q := fun q e => by
    obtain ⟨x, mx, rfl⟩ := getN_mem e
    exact hps x mx
  cases t with
  | hole s =>
    have hs := hol (p, .hole s) (by simp [Tr.pps]) s rfl
    obtain ⟨q, hq⟩ := Option.isSome_iff_exists.mp hs
    dsimp only at hq
    rw [hq] at ix
    have ix : ixA (dPuts ps) (encP p) = some (.sh q.enc) := ix
    have e1 := hb b q B (Q0 q hq)
    rw [bAt, hq]
    show _ = RE.ok (.sh (builtN b n q).enc) _
    generalize dPuts ps = dp at ix ⊢
    generalize encP p = pe at ix ⊢
    simp [m_built_at, Tr.enc, ix, e1]
  | knot nm tk ks =>
    rw [Tr.ht] at hh hl
    rw [pieces_knot] at hz
    have ekn : ∀ tk' ts, Tr.enc (.knot nm tk' ts) = .tuple [.str (Str.ofString "knot"), .str nm, encTk tk', .tuple (ts.map Tr.enc)] := fun tk' ts => by rw [Tr.enc, encL_map]
    have kl : ks.length ≤ (ks.flatMap Tr.pieces).length := by
      clear hh hz hl hol ekn
      induction ks with
      | nil => simp
      | cons k ks ih =>
        rw [List.flatMap_cons, List.length_append, List.length_cons]
        have : 1 ≤ k.pieces.length := by rw [pieces_kids]; simp
        omega
    have lc := lcL_all (vs := [6, 7]) (g := gT 2 (gsC (gN 6) (gsC (gN 7) gsN))) (fe := eNox (m_built_at_ce1 Fb Fw Fa)) [some ⟨b.enc, .sh⟩, some ⟨Tr.enc (.knot nm tk ks), .sh⟩, some ⟨encP p, .sh⟩, some ⟨dPuts ps, .sh⟩, none, none, none, none] (fun x : Tr × Nat => PyData.tuple [.int (x.2 : Int), x.1.enc])
      (fun x => [some ⟨b.enc, .sh⟩, some ⟨Tr.enc (.knot nm tk ks), .sh⟩, some ⟨encP p, .sh⟩, some ⟨dPuts ps, .sh⟩, none, none, some ⟨.int (x.2 : Int), .sh⟩, some ⟨x.1.enc, .sh⟩]) (fun x => (bAt (fun p => (getN ps p).map (builtN b n)) (p ++ [x.2]) x.1).enc) ks.zipIdx [] (fits (by simp; omega)) (fun x mx => by
      have mk : x.1 ∈ ks := by
        have := List.mem_zipIdx_iff_getElem?.mp mx
        exact List.mem_of_getElem? this
      have h1 := ht_mem mk
      have h2 := pieces_kid_le (t := .knot nm tk ks) (k := x.1) mk
      rw [pieces_knot] at h2
      have e := ha (m - 1) (by omega) b x.1 (p ++ [x.2]) ps B hps (by omega) (by omega) (by simp; omega) (fun y my s es => hol y (by rw [Tr.pps]; exact List.mem_cons_of_mem _ (ppsL_mem ks 0 x.2 x.1 mx my)) s es)
      have ea : encP (p ++ [x.2]) = .tuple ((p.map fun n : Nat => PyData.int (n : Int)) ++ [.int (x.2 : Int)]) := by unfold encP; rw [List.map_append]; rfl
      have z : p.length + 1 ≤ sizeLine := fits (by omega)
      rw [ea] at e
      have ep : encP p = .tuple (p.map fun n : Nat => PyData.int (n : Int)) := rfl
      rw [ep]
      generalize dPuts ps = dp at e ⊢
      generalize Tr.enc (.knot nm tk ks) = te
      exact ⟨by simp, by simp, by simp [m_built_at_ce1, e, z]⟩)
    have kd : (ks.zipIdx.map fun x => (bAt (fun p => (getN ps p).map (builtN b n)) (p ++ [x.2]) x.1).enc) = (bAtL (fun p => (getN ps p).map (builtN b n)) p 0 ks).map Tr.enc := by
      rw [bAtL_zip, List.map_map]
      rfl
    rw [List.nil_append, kd, ← enD_zip] at lc
    rw [bAt]
    cases hg : getN ps p with
    | none =>
      rw [hg] at inp
      dsimp only [Option.map_none]
      rw [ekn tk ks] at lc ⊢
      rw [ekn none, show encTk none = PyData.none from rfl]
      generalize (bAtL (fun p => (getN ps p).map (builtN b n)) p 0 ks).map Tr.enc = bl at lc ⊢
      generalize dPuts ps = dp at lc inp ⊢
      generalize encP p = pe at lc inp ⊢
      simp [m_built_at, lc, inp]
    | some q =>
      rw [hg] at inp ix
      have ix : ixA (dPuts ps) (encP p) = some (.sh q.enc) := ix
      have Q := Q0 q hg
      have e1 := hb b q B Q
      have e2 := hw (builtN b n q) (.knot nm none (bAtL (fun p => (getN ps p).map (builtN b n)) p 0 ks)) (built_ht3 B Q) (built_sz B Q).1
      dsimp only [Option.map_some]
      rw [ekn none] at e2
      rw [ekn tk ks] at lc ⊢
      generalize (Tr.wf (.knot nm none (bAtL (fun p => (getN ps p).map (builtN b n)) p 0 ks)) (builtN b n q)).enc = we at e2 ⊢
      generalize (bAtL (fun p => (getN ps p).map (builtN b n)) p 0 ks).map Tr.enc = bl at lc e2 ⊢
      generalize dPuts ps = dp at lc inp ix ⊢
      generalize encP p = pe at lc inp ix ⊢
      generalize q.enc = qe at ix e1
      generalize (builtN b n q).enc = be at e1 e2
      have en : encTk none = PyData.none := rfl
      rw [en] at e2
      simp [m_built_at, lc, inp, ix, e1, e2]
  | foot s => simp [m_built_at, Tr.enc, bAt]
  | sign s => simp [m_built_at, Tr.enc, bAt]
  | void => simp [m_built_at, Tr.enc, bAt]
theorem built_ok {h n : Nat} (ht : TreeOfSp Ft) (ha : ∀ k, k + 1 = n → BAtSp h k h Fa) (h3 : h ≤ 1000) : BuiltSp h n (fnF 2 2 (m_built Ft Fa)) := fun b q B Q => by
  rw [m_built_eq]
  obtain ⟨k, ps⟩ := q
  obtain ⟨o, hd, hhn, hn⟩ := Q
  cases o with
  | mk e r =>
    rename_i t
    rw [Pl.dep] at hd
    rw [Pl.size] at hn hhn
    have hm := Nat.mul_add h 1 (Pl.sizeL ps)
    obtain ⟨n', rfl⟩ : ∃ n', n = n' + 1 := ⟨n - 1, by omega⟩
    have tz := B.sz _ (treeOf_in e)
    have th := B.ht _ (treeOf_in e)
    dsimp only at tz th
    have e1 := ht b k
    rw [e] at e1
    have so : optT (some t) = t.enc := rfl
    rw [so] at e1
    have e2 := ha n' rfl b t [] ps B (fun x mx => ⟨r.each x mx, depX_le (by omega) x mx, by have := sizeL_mem x mx; exact Nat.le_trans (Nat.mul_le_mul_left _ (by omega)) hhn, by have := sizeL_mem x mx; omega⟩) th (by omega) (by simp; omega) r.holes
    have i0 := ix_key (.mk k ps)
    have i1 := ix_puts (.mk k ps)
    dsimp only [Pl.key, Pl.puts] at i0 i1
    have dd : dictD (.tuple (ps.map Pl.encX)) = some (.fr (dPuts ps)) := by
      have nd : ((ps.map ptOf).map (·.1)).Nodup := by
        rw [List.map_map]
        have := rising_nodup ((lexLt_places t).sublist (by rw [← pps_places]; exact r.sub.map toI))
        rw [List.map_map] at this
        exact this
      have := dict_puts nd
      rw [List.map_map] at this
      have em : (encPt ∘ ptOf) = Pl.encX := by funext x; exact (ptOf_enc x).symm
      rw [em] at this
      exact this
    unfold builtN
    dsimp only [Pl.key, Pl.puts]
    rw [e, Option.getD_some]
    have e2' : Fa [some ⟨b.enc, .sh⟩, some ⟨t.enc, .sh⟩, some ⟨.tuple [], .sh⟩, some ⟨dPuts ps, .sh⟩] = .ok (.sh (bAt (fun p => (getN ps p).map (builtN b n')) [] t).enc) [none, none, none, none] := e2
    generalize (bAt (fun p => (getN ps p).map (builtN b n')) [] t).enc = be at e2' ⊢
    generalize dPuts ps = dp at dd e2'
    generalize PyData.tuple (ps.map Pl.encX) = pe at i1 dd
    generalize t.enc = te at e1 e2'
    generalize Pl.enc (.mk k ps) = qe at i0 i1 ⊢
    simp [m_built, i0, i1, e1, dd, e2']
def RowOfSp (h n : Nat) (F : FF) : Prop := ∀ (b : Bk) (q : Pl), BkW h b → PlW h b n q → F [some ⟨b.enc, .sh⟩, some ⟨q.enc, .sh⟩] = .ok (.sh (.tuple ((builtN b n q).signs.map .str))) [none, none]
theorem row_of_ok {h n : Nat} (hb : BuiltSp h n Fb) (hs : SignsSp 147 Ft) : RowOfSp h n (fnF 2 2 (m_row_of Fb Ft)) := fun b q B Q => by
  rw [m_row_of_eq]
  have e1 := hb b q B Q
  have e2 := hs (builtN b n q) (built_ht3 B Q) (built_sz B Q).1
  simp [m_row_of, e1, e2]
end
end GZ
namespace GM
open PySem L2 GS
/-- _law_names(cell); slots 0:cell 1:letter 2:more 3:k -/
def m_law_names_2_ce1 : EF := (eBin addD (eBin addD (eBin mulA (eVb 1) (eBin addD (eVb 2) (eC (.int 1)))) (eBin ixA (eC (.str (Str.ofString "053172"))) (eVb 3))) (eBin mulA (eVb 1) (eBin modD (eBin divD (eVb 0) (eC (.int 468))) (eC (.int 9)))))
def m_law_names_2_ce2 : EF := (eBin mulA (eVb 1) (eBin subD (eBin addD (eVb 2) (eC (.int 6))) (eVb 3)))
def m_law_names_2 : SF := (sSeq (sSet 1 (eBin ixA (eC (.str (Str.ofString "ABCDEFGHIJKLMNOPQRSTUVWXYZ"))) (eBin modD (eVb 0) (eC (.int 26))))) (sSeq (sSet 2 (eBin modD (eBin divD (eVb 0) (eC (.int 26))) (eC (.int 9)))) (sSeq (sIf (eB (eBin (eqB false) (eBin modD (eBin divD (eVb 0) (eC (.int 234))) (eC (.int 2))) (eC (.int 1)))) (sEnd (sRet (eLc [3] (iR1 (eC (.int 6))) (gN 3) (eNox eYes) (eNox (m_law_names_2_ce2))))) sNil) (sEnd (sRet (eLc [3] (iR1 (eC (.int 6))) (gN 3) (eNox eYes) (eNox (m_law_names_2_ce1))))))))
theorem m_law_names_2_eq (ρ : Rho) : fnF 4 1 (m_law_names_2) ρ = finR 1 (m_law_names_2 (ρ ++ [none, none, none])) := fnF_eq 4 1 _
/-- _law_keys(cell, many); slots 0:cell 1:many 2:letter 3:more 4:k -/
def m_law_keys_2_ce1 : EF := (eBin addD (eBin addD (eBin mulA (eVb 2) (eBin addD (eVb 3) (eC (.int 1)))) (eBin ixA (eC (.str (Str.ofString "427130"))) (eVb 4))) (eBin mulA (eVb 2) (eBin modD (eBin divD (eVb 0) (eC (.int 468))) (eC (.int 9)))))
def m_law_keys_2_ce2 : EF := (eBin mulA (eVb 2) (eBin addD (eVb 3) (eBin ixA (eLst (aCons (eC (.int 4)) (aCons (eC (.int 1)) (aCons (eC (.int 6)) (aCons (eC (.int 2)) (aCons (eC (.int 5)) (aCons (eC (.int 3)) aNil))))))) (eVb 4))))
def m_law_keys_2 : SF := (sSeq (sSet 2 (eBin ixA (eC (.str (Str.ofString "abcdefghijklmnopqrstuvwxyz"))) (eBin modD (eVb 0) (eC (.int 26))))) (sSeq (sSet 3 (eBin modD (eBin divD (eVb 0) (eC (.int 26))) (eC (.int 9)))) (sSeq (sIf (eB (eBin (eqB false) (eBin modD (eBin divD (eVb 0) (eC (.int 234))) (eC (.int 2))) (eC (.int 1)))) (sEnd (sRet (eLc [4] (iR1 (eVb 1)) (gN 4) (eNox eYes) (eNox (m_law_keys_2_ce2))))) sNil) (sEnd (sRet (eLc [4] (iR1 (eVb 1)) (gN 4) (eNox eYes) (eNox (m_law_keys_2_ce1))))))))
theorem m_law_keys_2_eq (ρ : Rho) : fnF 5 2 (m_law_keys_2) ρ = finR 2 (m_law_keys_2 (ρ ++ [none, none, none])) := fnF_eq 5 2 _
end GM
namespace GZ
open PySem L2 GS GM
theorem mulA_ok {z : Str} {m : Int} (h0 : 0 ≤ m) (h1 : m ≤ 1000) (hz : z.length ≤ 1000) : mulA (.str z) (.int m) = some (.sh (.str (Txt.mul z m))) := by
  rw [mulA_s, if_pos]
  rw [Bool.and_eq_true, Bool.and_eq_true, decide_eq_true_eq]
  exact ⟨⟨h0, Nat.ble_eq_true_of_le (by omega)⟩, Nat.ble_eq_true_of_le hz⟩
def ltr (o a : Nat) : Str := ⟨#[o + a]⟩
def dgs (s : Nat) : List Nat := if s = 0 then [48, 53, 51, 49, 55, 50] else [52, 50, 55, 49, 51, 48]
def dgt (s k : Nat) : Str := ⟨#[(dgs s).getD k 48]⟩
def tnk (k : Nat) : Nat := [4, 1, 6, 2, 5, 3].getD k 0
def nmV (v : Bool) (s a b d k : Nat) : Str := if v then Txt.mul (ltr (if s = 0 then 65 else 97) a) ((if s = 0 then 6 - k + b else b + tnk k : Nat) : Int)
  else Txt.mul (ltr (if s = 0 then 65 else 97) a) ((b + 1 : Nat) : Int) ++ dgt s k ++ Txt.mul (ltr (if s = 0 then 65 else 97) a) (d : Int)
def nmL (v : Bool) (s a b d : Nat) : List Str := (List.range 6).map (nmV v s a b d)
theorem foldl_rep (c : Nat) : ∀ (n : Nat) (acc : Array Nat), ((List.replicate n #[c]).foldl (· ++ ·) acc).toList = acc.toList ++ List.replicate n c
  | 0, acc => by simp
  | n + 1, acc => by
    rw [List.replicate_succ, List.foldl_cons, foldl_rep c n, List.replicate_succ]
    simp
theorem mul_cps (c n : Nat) : (Txt.mul (⟨#[c]⟩ : Str) (n : Int)).cps.toList = List.replicate n c := by
  unfold Txt.mul
  by_cases h : n = 0
  · subst h; rfl
  · rw [if_neg (by omega)]
    by_cases h1 : n = 1
    · subst h1; rfl
    · rw [if_neg (by
        have : ((n : Int) == 1) = false := by rw [beq_eq_false_iff_ne]; omega
        rw [this]
        simp [Str.length])]
      have := foldl_rep c n #[]
      simpa using this
def lto (s a : Nat) : Nat := if s = 0 then 65 + a else 97 + a
theorem nmV_cps (v : Bool) (s a b d k : Nat) : (nmV v s a b d k).cps.toList = if v then List.replicate (if s = 0 then 6 - k + b else b + tnk k) (lto s a) else List.replicate (b + 1) (lto s a) ++ (dgs s).getD k 48 :: List.replicate d (lto s a) := by
  have e : (if s = 0 then 65 else 97) + a = lto s a := by unfold lto; split <;> rfl
  cases v with
  | true =>
    unfold nmV ltr
    simp only [if_true]
    rw [e, mul_cps]
  | false =>
    unfold nmV ltr dgt
    simp only [Bool.false_eq_true, if_false]
    rw [e]
    have h1 := mul_cps (lto s a) (b + 1)
    have h2 := mul_cps (lto s a) d
    show ((Txt.mul ⟨#[lto s a]⟩ ((b + 1 : Nat) : Int)).cps ++ #[(dgs s).getD k 48] ++ (Txt.mul ⟨#[lto s a]⟩ (d : Int)).cps).toList = _
    rw [Array.toList_append, Array.toList_append, h1, h2]
    simp
theorem slen_app (x y : Str) : (x ++ y).length = x.length + y.length := by
  show (x.cps ++ y.cps).size = _
  rw [Array.size_append]
  rfl
theorem mul_len (o a m : Nat) : (Txt.mul (ltr o a) (m : Int)).length = m := by
  rw [len_eq]
  unfold ltr
  rw [mul_cps, List.length_replicate]
theorem at_great : ∀ a : Nat, a < 26 → atI (Str.ofString "ABCDEFGHIJKLMNOPQRSTUVWXYZ").cps.toList (a : Int) = some (65 + a) := by decide +kernel
theorem at_small : ∀ a : Nat, a < 26 → atI (Str.ofString "abcdefghijklmnopqrstuvwxyz").cps.toList (a : Int) = some (97 + a) := by decide +kernel
theorem at_dg0 : ∀ k : Nat, k < 6 → atI (Str.ofString "053172").cps.toList (k : Int) = some ((dgs 0).getD k 48) := by decide +kernel
theorem at_dg1 : ∀ k : Nat, k < 6 → atI (Str.ofString "427130").cps.toList (k : Int) = some ((dgs 1).getD k 48) := by decide +kernel
theorem at_tn : ∀ k : Nat, k < 6 → atI [PyData.int 4, .int 1, .int 6, .int 2, .int 5, .int 3] (k : Int) = some (.int (tnk k)) := by
  intro k hk
  rcases (show k = 0 ∨ k = 1 ∨ k = 2 ∨ k = 3 ∨ k = 4 ∨ k = 5 by omega) with rfl | rfl | rfl | rfl | rfl | rfl <;> rfl
theorem tnk_le : ∀ k < 6, tnk k ≤ 6 := by decide
theorem lto_in (s : Nat) {a : Nat} (ha : a < 26) : lto s a ∈ (if s = 0 then GRT else SML).cps ∧ lto s a < 128 := by
  have h1 : ∀ a : Nat, a < 26 → 65 + a ∈ GRT.cps := by decide +kernel
  have h2 : ∀ a : Nat, a < 26 → 97 + a ∈ SML.cps := by decide +kernel
  unfold lto
  split
  · exact ⟨h1 a ha, by omega⟩
  · exact ⟨h2 a ha, by omega⟩
theorem dgs_in (s : Nat) {k : Nat} (hk : k < 6) : (dgs s).getD k 48 ∈ FIG.cps ∧ (dgs s).getD k 48 < 128 := by
  have h1 : ∀ k : Nat, k < 6 → (dgs 0).getD k 48 ∈ FIG.cps ∧ (dgs 0).getD k 48 < 128 := by decide +kernel
  have h2 : ∀ k : Nat, k < 6 → (dgs 1).getD k 48 ∈ FIG.cps ∧ (dgs 1).getD k 48 < 128 := by decide +kernel
  by_cases h : s = 0
  · subst h; exact h1 k hk
  · have : dgs s = dgs 1 := by unfold dgs; rw [if_neg h, if_neg (by decide)]
    rw [this]; exact h2 k hk
/-- names or keys, by s -/
def wdB (s : Nat) (z : Str) : Bool := if s = 0 then nameB z else keyB z
theorem nmV_wd (v : Bool) (s : Nat) {a b d k : Nat} (ha : a < 26) (hb : b < 9) (hd : d < 9) (hk : k < 6) : wdB s (nmV v s a b d k) = true ∧ PyData.strOk (nmV v s a b d k) = true ∧ (nmV v s a b d k).length ≤ 24 := by
  have e := nmV_cps v s a b d k
  obtain ⟨l1, l2⟩ := lto_in s ha
  obtain ⟨d1, d2⟩ := dgs_in s hk
  have tk := tnk_le k hk
  have t0 : 1 ≤ tnk k := by
    have : ∀ k < 6, 1 ≤ tnk k := by decide
    exact this k hk
  have key : ∃ cs, (nmV v s a b d k).cps.toList = lto s a :: cs ∧ (lto s a :: cs).length ≤ 24 ∧ ∀ c ∈ lto s a :: cs, c = lto s a ∨ c = (dgs s).getD k 48 := by
    cases v with
    | true =>
      rw [if_pos rfl] at e
      obtain ⟨n, hn, hn2⟩ : ∃ n, (if s = 0 then 6 - k + b else b + tnk k) = n + 1 ∧ n + 1 ≤ 20 := by
        split
        · exact ⟨6 - k + b - 1, by omega, by omega⟩
        · exact ⟨b + tnk k - 1, by omega, by omega⟩
      rw [hn, List.replicate_succ] at e
      refine ⟨_, e, by simp; omega, fun c m => ?_⟩
      rcases List.mem_cons.mp m with rfl | m
      · exact .inl rfl
      · exact .inl (List.eq_of_mem_replicate m)
    | false =>
      rw [if_neg (by simp), List.replicate_succ, List.cons_append] at e
      refine ⟨_, e, by simp; omega, fun c m => ?_⟩
      rcases List.mem_cons.mp m with rfl | m
      · exact .inl rfl
      · rcases List.mem_append.mp m with m | m
        · exact .inl (List.eq_of_mem_replicate m)
        · rcases List.mem_cons.mp m with rfl | m
          · exact .inr rfl
          · exact .inl (List.eq_of_mem_replicate m)
  obtain ⟨cs, e, hl, hc⟩ := key
  refine ⟨?_, ?_, by rw [len_eq, e]; exact hl⟩
  · have gen : nameL (if s = 0 then GRT else SML) (nmV v s a b d k).cps.toList = true := by
      rw [e, nameL, Bool.and_eq_true, Bool.and_eq_true, decide_eq_true_eq, decide_eq_true_eq, List.all_eq_true]
      refine ⟨⟨hl, l1⟩, fun c m => ?_⟩
      unfold okN
      rcases hc c m with rfl | rfl
      · rw [decide_eq_true l1, Bool.true_or]
      · rw [decide_eq_true d1, Bool.or_true]
    unfold wdB nameB keyB
    by_cases h : s = 0
    · rw [if_pos h] at gen ⊢; exact gen
    · rw [if_neg h] at gen ⊢; exact gen
  · exact strOk_of fun c m => by
      rw [e] at m
      rcases hc c m with rfl | rfl <;> omega
theorem nmV_inj (v : Bool) (s a b d : Nat) {k k' : Nat} (hk : k < 6) (hk' : k' < 6) (e : nmV v s a b d k = nmV v s a b d k') : k = k' := by
  have e : (nmV v s a b d k).cps.toList = (nmV v s a b d k').cps.toList := by rw [e]
  rw [nmV_cps, nmV_cps] at e
  cases v with
  | true =>
    rw [if_pos rfl, if_pos rfl] at e
    have := congrArg List.length e
    rw [List.length_replicate, List.length_replicate] at this
    by_cases h : s = 0
    · rw [if_pos h, if_pos h] at this; omega
    · rw [if_neg h, if_neg h] at this
      have inj : ∀ k < 6, ∀ k' < 6, tnk k = tnk k' → k = k' := by decide
      exact inj k hk k' hk' (by omega)
  | false =>
    rw [if_neg (by simp), if_neg (by simp)] at e
    have e := List.append_cancel_left e
    injection e with e _
    have i0 : ∀ k < 6, ∀ k' < 6, (dgs 0).getD k 48 = (dgs 0).getD k' 48 → k = k' := by decide
    have i1 : ∀ k < 6, ∀ k' < 6, (dgs 1).getD k 48 = (dgs 1).getD k' 48 → k = k' := by decide
    by_cases h : s = 0
    · subst h; exact i0 k hk k' hk' e
    · have : dgs s = dgs 1 := by unfold dgs; rw [if_neg h, if_neg (by decide)]
      rw [this] at e
      exact i1 k hk k' hk' e
structure Wds (s : Nat) (L : List Str) : Prop where
  nd : L.Nodup
  wd : ∀ z ∈ L, wdB s z = true
  so : ∀ z ∈ L, PyData.strOk z = true
  ln : ∀ z ∈ L, z.length ≤ 24
theorem nmL_ok (v : Bool) (s : Nat) {a b d : Nat} (ha : a < 26) (hb : b < 9) (hd : d < 9) : Wds s (nmL v s a b d) ∧ (nmL v s a b d).length = 6 := by
  have mem : ∀ z ∈ nmL v s a b d, ∃ k, k < 6 ∧ z = nmV v s a b d k := fun z m => by
    obtain ⟨k, mk, rfl⟩ := List.mem_map.mp m
    exact ⟨k, List.mem_range.mp mk, rfl⟩
  refine ⟨⟨?_, fun z m => ?_, fun z m => ?_, fun z m => ?_⟩, by unfold nmL; simp⟩
  · unfold nmL List.Nodup
    rw [List.pairwise_map]
    refine List.Pairwise.imp_of_mem ?_ (List.nodup_range (n := 6))
    intro x y mx my ne e
    exact ne (nmV_inj v s a b d (List.mem_range.mp mx) (List.mem_range.mp my) e)
  · obtain ⟨k, hk, rfl⟩ := mem z m; exact (nmV_wd v s ha hb hd hk).1
  · obtain ⟨k, hk, rfl⟩ := mem z m; exact (nmV_wd v s ha hb hd hk).2.1
  · obtain ⟨k, hk, rfl⟩ := mem z m; exact (nmV_wd v s ha hb hd hk).2.2
theorem Wds.take {s : Nat} {L : List Str} (h : Wds s L) (n : Nat) : Wds s (L.take n) :=
  ⟨h.nd.sublist (List.take_sublist _ _), fun z m => h.wd z (List.mem_of_mem_take m), fun z m => h.so z (List.mem_of_mem_take m), fun z m => h.ln z (List.mem_of_mem_take m)⟩
/-- what a cell says -/
theorem cell_parts (cell : Int) : ∃ (a b d : Nat) (v : Bool), a < 26 ∧ b < 9 ∧ d < 9 ∧ cell % 26 = a ∧ cell / 26 % 9 = b ∧ cell / 468 % 9 = d ∧ decide (cell / 234 % 2 = 1) = v :=
  ⟨(cell % 26).toNat, (cell / 26 % 9).toNat, (cell / 468 % 9).toNat, _, by omega, by omega, by omega, by omega, by omega, by omega, rfl⟩
def NamesSp (F : FF) : Prop := ∀ cell : Int, ∃ (a b d : Nat) (v : Bool), a < 26 ∧ b < 9 ∧ d < 9 ∧ F [some ⟨.int cell, .sh⟩] = .ok (.fr (.list ((nmL v 0 a b d).map .str))) [none]
def KeysSp (F : FF) : Prop := ∀ (cell : Int) (n : Nat), n ≤ 6 → ∃ (a b d : Nat) (v : Bool), a < 26 ∧ b < 9 ∧ d < 9 ∧ F [some ⟨.int cell, .sh⟩, some ⟨.int n, .sh⟩] = .ok (.fr (.list (((nmL v 1 a b d).take n).map .str))) [none, none]
theorem law_names_ok : NamesSp (fnF 4 1 m_law_names_2) := fun cell => by
  obtain ⟨a, b, d, v, ha, hb, hd, e1, e2, e3, e4⟩ := cell_parts cell
  refine ⟨a, b, d, v, ha, hb, hd, ?_⟩
  rw [m_law_names_2_eq]
  have g1 := at_great a ha
  have l1 : (Str.ofString "ABCDEFGHIJKLMNOPQRSTUVWXYZ").length = 26 := by decide +kernel
  have l2 : (Str.ofString "053172").length = 6 := by decide +kernel
  have rg : rgD 0 6 = (List.range 6).map fun k : Nat => PyData.int (k : Int) := by unfold rgD; simp
  have z1 : (ltr 65 a).length = 1 := rfl
  have s26 : (26 : Nat) ≤ sizeLine := fits (by omega)
  have s6 : (6 : Nat) ≤ sizeLine := fits (by omega)
  have h1 : okR 6 = true := by decide
  cases v with
  | true =>
    have lc := lcL_all (vs := [3]) (g := gN 3) (fe := eNox m_law_names_2_ce2) [some ⟨.int cell, .sh⟩, some ⟨.str (ltr 65 a), .sh⟩, some ⟨.int b, .sh⟩, none] (fun k : Nat => PyData.int (k : Int)) (fun k => [some ⟨.int cell, .sh⟩, some ⟨.str (ltr 65 a), .sh⟩, some ⟨.int b, .sh⟩, some ⟨.int k, .sh⟩]) (fun k => .str (nmV true 0 a b d k)) (List.range 6) [] (fits (by simp)) (fun k mk => by
      have hk := List.mem_range.mp mk
      have em : (b : Int) + 6 - (k : Int) = ((6 - k + b : Nat) : Int) := by omega
      have e := mulA_ok (z := ltr 65 a) (m := ((6 - k + b : Nat) : Int)) (by omega) (by omega) (by omega)
      rw [← em] at e
      refine ⟨by simp, by simp, ?_⟩
      unfold nmV
      simp only [if_true]
      rw [← em]
      generalize Txt.mul (ltr 65 a) ((b : Int) + 6 - (k : Int)) = zz at e ⊢
      simp [m_law_names_2_ce2, e])
    rw [List.nil_append, ← rg] at lc
    have c4 : cell / 234 % 2 = 1 := of_decide_eq_true e4
    have el : (List.range 6).map (fun k => PyData.str (nmV true 0 a b d k)) = (nmL true 0 a b d).map .str := by unfold nmL; rw [List.map_map]; rfl
    rw [el] at lc
    generalize (nmL true 0 a b d).map PyData.str = nl at lc ⊢
    have g1' : ltr 65 a = ⟨#[65 + a]⟩ := rfl
    rw [g1'] at lc
    simp [m_law_names_2, e1, e2, c4, g1, l1, s26, h1, lc]
  | false =>
    have lc := lcL_all (vs := [3]) (g := gN 3) (fe := eNox m_law_names_2_ce1) [some ⟨.int cell, .sh⟩, some ⟨.str (ltr 65 a), .sh⟩, some ⟨.int b, .sh⟩, none] (fun k : Nat => PyData.int (k : Int)) (fun k => [some ⟨.int cell, .sh⟩, some ⟨.str (ltr 65 a), .sh⟩, some ⟨.int b, .sh⟩, some ⟨.int k, .sh⟩]) (fun k => .str (nmV false 0 a b d k)) (List.range 6) [] (fits (by simp)) (fun k mk => by
      have hk := List.mem_range.mp mk
      have em : (b : Int) + 1 = ((b + 1 : Nat) : Int) := by omega
      have e := mulA_ok (z := ltr 65 a) (m := ((b + 1 : Nat) : Int)) (by omega) (by omega) (by omega)
      have e' := mulA_ok (z := ltr 65 a) (m := (d : Int)) (by omega) (by omega) (by omega)
      have q1 := mul_len 65 a (b + 1)
      have q2 := mul_len 65 a d
      have g2 := at_dg0 k hk
      have ld : (dgt 0 k).length = 1 := rfl
      have la : (Txt.mul (ltr 65 a) ((b + 1 : Nat) : Int) ++ dgt 0 k).length = (Txt.mul (ltr 65 a) ((b + 1 : Nat) : Int)).length + 1 := by rw [slen_app, ld]
      have z1 : (Txt.mul (ltr 65 a) ((b + 1 : Nat) : Int)).length + 1 ≤ sizeLine := fits (by omega)
      have z2 : (Txt.mul (ltr 65 a) ((b + 1 : Nat) : Int)).length + 1 + (Txt.mul (ltr 65 a) (d : Int)).length ≤ sizeLine := fits (by omega)
      refine ⟨by simp, by simp, ?_⟩
      have dd : (⟨#[(dgs 0).getD k 48]⟩ : Str) = dgt 0 k := rfl
      unfold nmV
      simp only [Bool.false_eq_true, if_false, if_true]
      generalize (dgs 0).getD k 48 = dg at g2 dd
      generalize dgt 0 k = dz at *
      generalize Txt.mul (ltr 65 a) (d : Int) = zd at *
      rw [← em] at e z1 z2 la
      rw [← em]
      generalize Txt.mul (ltr 65 a) ((b : Int) + 1) = zb at *
      simp [m_law_names_2_ce1, e, e', e3, g2, l2, s6, ld, la, z1, z2, dd])
    rw [List.nil_append, ← rg] at lc
    have c4 : ¬ cell / 234 % 2 = 1 := of_decide_eq_false e4
    have el : (List.range 6).map (fun k => PyData.str (nmV false 0 a b d k)) = (nmL false 0 a b d).map .str := by unfold nmL; rw [List.map_map]; rfl
    rw [el] at lc
    generalize (nmL false 0 a b d).map PyData.str = nl at lc ⊢
    have g1' : ltr 65 a = ⟨#[65 + a]⟩ := rfl
    rw [g1'] at lc
    simp [m_law_names_2, e1, e2, c4, g1, l1, s26, h1, lc]
theorem law_keys_ok : KeysSp (fnF 5 2 m_law_keys_2) := fun cell n hn => by
  obtain ⟨a, b, d, v, ha, hb, hd, e1, e2, e3, e4⟩ := cell_parts cell
  refine ⟨a, b, d, v, ha, hb, hd, ?_⟩
  rw [m_law_keys_2_eq]
  have g1 := at_small a ha
  have l1 : (Str.ofString "abcdefghijklmnopqrstuvwxyz").length = 26 := by decide +kernel
  have l2 : (Str.ofString "427130").length = 6 := by decide +kernel
  have rg : rgD 0 n = (List.range n).map fun k : Nat => PyData.int (k : Int) := by unfold rgD; simp
  have z1 : (ltr 97 a).length = 1 := rfl
  have s26 : (26 : Nat) ≤ sizeLine := fits (by omega)
  have s6 : (6 : Nat) ≤ sizeLine := fits (by omega)
  have h1 : okR n = true := okR_nat (by omega)
  have tk : (List.range 6).take n = List.range n := by
    rcases (show n = 0 ∨ n = 1 ∨ n = 2 ∨ n = 3 ∨ n = 4 ∨ n = 5 ∨ n = 6 by omega) with rfl | rfl | rfl | rfl | rfl | rfl | rfl <;> rfl
  have g1' : ltr 97 a = ⟨#[97 + a]⟩ := rfl
  have tn : (n : Int).toNat = n := by omega
  cases v with
  | true =>
    have lc := lcL_all (vs := [4]) (g := gN 4) (fe := eNox m_law_keys_2_ce2) [some ⟨.int cell, .sh⟩, some ⟨.int n, .sh⟩, some ⟨.str (ltr 97 a), .sh⟩, some ⟨.int b, .sh⟩, none] (fun k : Nat => PyData.int (k : Int)) (fun k => [some ⟨.int cell, .sh⟩, some ⟨.int n, .sh⟩, some ⟨.str (ltr 97 a), .sh⟩, some ⟨.int b, .sh⟩, some ⟨.int k, .sh⟩]) (fun k => .str (nmV true 1 a b d k)) (List.range n) [] (fits (by simp; omega)) (fun k mk => by
      have hk := List.mem_range.mp mk
      have hk6 : k < 6 := by omega
      have tl := tnk_le k hk6
      have em : (b : Int) + (tnk k : Int) = ((b + tnk k : Nat) : Int) := by omega
      have e := mulA_ok (z := ltr 97 a) (m := ((b + tnk k : Nat) : Int)) (by omega) (by omega) (by omega)
      have g3 := at_tn k hk6
      rw [← em] at e
      refine ⟨by simp, by simp, ?_⟩
      unfold nmV
      simp only [if_true]
      rw [if_neg (by decide), if_neg (by decide), ← em]
      generalize Txt.mul (ltr 97 a) ((b : Int) + (tnk k : Int)) = zz at e ⊢
      simp [m_law_keys_2_ce2, g3, e])
    rw [List.nil_append, ← rg] at lc
    have c4 : cell / 234 % 2 = 1 := of_decide_eq_true e4
    have el : (List.range n).map (fun k => PyData.str (nmV true 1 a b d k)) = ((nmL true 1 a b d).take n).map .str := by unfold nmL; rw [← List.map_take, tk, List.map_map]; rfl
    rw [el] at lc
    generalize ((nmL true 1 a b d).take n).map PyData.str = nl at lc ⊢
    rw [g1'] at lc
    simp [m_law_keys_2, e1, e2, c4, g1, l1, s26, h1, tn, lc]
  | false =>
    have lc := lcL_all (vs := [4]) (g := gN 4) (fe := eNox m_law_keys_2_ce1) [some ⟨.int cell, .sh⟩, some ⟨.int n, .sh⟩, some ⟨.str (ltr 97 a), .sh⟩, some ⟨.int b, .sh⟩, none] (fun k : Nat => PyData.int (k : Int)) (fun k => [some ⟨.int cell, .sh⟩, some ⟨.int n, .sh⟩, some ⟨.str (ltr 97 a), .sh⟩, some ⟨.int b, .sh⟩, some ⟨.int k, .sh⟩]) (fun k => .str (nmV false 1 a b d k)) (List.range n) [] (fits (by simp; omega)) (fun k mk => by
      have hk := List.mem_range.mp mk
      have em : (b : Int) + 1 = ((b + 1 : Nat) : Int) := by omega
      have e := mulA_ok (z := ltr 97 a) (m := ((b + 1 : Nat) : Int)) (by omega) (by omega) (by omega)
      have e' := mulA_ok (z := ltr 97 a) (m := (d : Int)) (by omega) (by omega) (by omega)
      have q1 := mul_len 97 a (b + 1)
      have q2 := mul_len 97 a d
      have g2 := at_dg1 k (by omega)
      have ld : (dgt 1 k).length = 1 := rfl
      have la : (Txt.mul (ltr 97 a) ((b + 1 : Nat) : Int) ++ dgt 1 k).length = (Txt.mul (ltr 97 a) ((b + 1 : Nat) : Int)).length + 1 := by rw [slen_app, ld]
      have z1 : (Txt.mul (ltr 97 a) ((b + 1 : Nat) : Int)).length + 1 ≤ sizeLine := fits (by omega)
      have z2 : (Txt.mul (ltr 97 a) ((b + 1 : Nat) : Int)).length + 1 + (Txt.mul (ltr 97 a) (d : Int)).length ≤ sizeLine := fits (by omega)
      refine ⟨by simp, by simp, ?_⟩
      have dd : (⟨#[(dgs 1).getD k 48]⟩ : Str) = dgt 1 k := rfl
      unfold nmV
      simp only [Bool.false_eq_true, if_false]
      rw [if_neg (by decide)]
      generalize (dgs 1).getD k 48 = dg at g2 dd
      generalize dgt 1 k = dz at *
      generalize Txt.mul (ltr 97 a) (d : Int) = zd at *
      rw [← em] at e z1 z2 la
      rw [← em]
      generalize Txt.mul (ltr 97 a) ((b : Int) + 1) = zb at *
      simp [m_law_keys_2_ce1, e, e', e3, g2, l2, s6, ld, la, z1, z2, dd])
    rw [List.nil_append, ← rg] at lc
    have c4 : ¬ cell / 234 % 2 = 1 := of_decide_eq_false e4
    have el : (List.range n).map (fun k => PyData.str (nmV false 1 a b d k)) = ((nmL false 1 a b d).take n).map .str := by unfold nmL; rw [← List.map_take, tk, List.map_map]; rfl
    rw [el] at lc
    generalize ((nmL false 1 a b d).take n).map PyData.str = nl at lc ⊢
    rw [g1'] at lc
    simp [m_law_keys_2, e1, e2, c4, g1, l1, s26, h1, tn, lc]
end GZ
namespace ZM
open PySem
open PySem.Sem (wp)
/-- an iterator over a tuple (t) or a list, and what it goes over -/
def ItAt : Bool → Heap → Addr → Addr → Nat → Prop
  | true, h, a, l, i => h.IsTupleIter a l i
  | false, h, a, l, i => h.IsListIter a l i
def SqAt : Bool → Heap → Addr → Array Value → Prop
  | true, h, l, xs => h.IsTuple l xs
  | false, h, l, xs => h.IsList l xs
theorem ItAt.but {t : Bool} {h h' : Heap} {a b l : Addr} {i : Nat} (x : ItAt t h a l i) (hs : Heap.ExtBut b h h') (ne : a ≠ b) : ItAt t h' a l i := by
  cases t
  · exact Heap.IsListIter.extBut x hs ne
  · exact Heap.IsTupleIter.extBut x hs ne
theorem ItAt.at {t : Bool} {h h' : Heap} {a l : Addr} {i : Nat} (x : ItAt t h a l i) (e : ∀ o, h.get? a = some o → h'.get? a = some o) : ItAt t h' a l i := by
  cases t
  · exact Heap.IsListIter.at x e
  · exact Heap.IsTupleIter.at x e
theorem SqAt.but {t : Bool} {h h' : Heap} {b l : Addr} {xs : Array Value} (x : SqAt t h l xs) (hs : Heap.ExtBut b h h') (ne : l ≠ b) : SqAt t h' l xs := by
  cases t
  · exact Heap.IsList.extBut x hs ne
  · exact Heap.IsTuple.extBut x hs ne
theorem SqAt.lt {t : Bool} {h : Heap} {l : Addr} {xs : Array Value} (x : SqAt t h l xs) : l < h.objs.size := by
  cases t
  · obtain ⟨_, e, _⟩ := (show h.IsList l xs from x); exact Heap.lt_size e
  · obtain ⟨_, e, _⟩ := (show h.IsTuple l xs from x); exact Heap.lt_size e
theorem ItAt.obj {t : Bool} {h : Heap} {a l : Addr} {i : Nat} (x : ItAt t h a l i) : ∃ o, h.get? a = some o ∧ ∀ v, o.data ≠ .seq v := by
  cases t
  · obtain ⟨o, e, _, d⟩ := (show h.IsListIter a l i from x); exact ⟨o, e, fun v q => by rw [d] at q; cases q⟩
  · obtain ⟨o, e, _, d⟩ := (show h.IsTupleIter a l i from x); exact ⟨o, e, fun v q => by rw [d] at q; cases q⟩
section
variable {prog : Program} {w : World} {A : Around} {E : Value → Shared → Prop} {s : Shared}
end
section
variable {prog : Program} {w : World} {A : Around} {E : Value → Shared → Prop} {s : Shared}
end
end ZM
namespace L2
open PySem PySem.Spec PyProof.Rows ZM
def SqV (t : Bool) (K : PySem.W.Frag) (H : Hp) (a : Addr) (xs : List V) : Prop := match t with
  | true => SqT K H a xs
  | false => SqL K H a xs
theorem SqV.here {X : Cx} {pins : List (Addr × Obj)} {σ : St} {H : Hp} {s : Shared} {t : Bool} {a : Addr} {xs : List V} (I : Inv X pins σ H s) (h : SqV t X.K H a xs) : ∃ us, Vals xs us ∧ SqAt t s.heap a us.toArray := by
  cases t
  · obtain ⟨us, rv, p, _⟩ := I.list h; exact ⟨us, rv, p.isList⟩
  · obtain ⟨us, rv, p, _⟩ := I.tuple h; exact ⟨us, rv, p⟩
theorem SqV.inj {X : Cx} {pins : List (Addr × Obj)} {σ : St} {H : Hp} {s : Shared} {t : Bool} {a : Addr} {xs ys : List V} (I : Inv X pins σ H s) (h : SqV t X.K H a xs) (h' : SqV t X.K H a ys) : xs = ys := by
  cases t
  · exact I.list_inj h h'
  · exact I.tuple_inj h h'
end L2
namespace GS
open PySem L2
section
variable {X : Cx} {C : Ct} {ρ ρ1 : Rho} {σ σ1 : St} {B H B1 H1 : Hp} {a b tg : Expr} {ta tb : TE} {fa fb : EF} {pos p tpos : Pos} {K : KW}
end
end GS
namespace HT
open PySem PySem.Spec PyProof.Rows L2
section
variable {prog : Program} {w : World} {A : Around} {E : Value → Shared → Prop} {s : Shared}
end
end HT
namespace L2
open PySem PySem.Spec PyProof.Rows HT
section
variable {X : Cx}
end
end L2
namespace GS
open PySem L2
section
variable {X : Cx} {C : Ct} {e : Expr} {te : TE} {fe : EF} {pos p1 p2 p3 : Pos}
end
end GS
namespace GS
open PySem L2
/-- xs[i] by values -/
theorem get_list {X : Cx} : PGet X (rIxL X.K) := by
  intro pins s σ H x y v u Q I rx ry h
  obtain ⟨p, xs, i, z, rfl, rfl, hq, he, q⟩ := h
  cases rx
  obtain ⟨t, rfl⟩ := ry
  obtain ⟨its, r, pl, hz⟩ := I.list hq
  obtain ⟨j, h1, h2, h3, h4, h5⟩ := L2.atI_get he
  obtain ⟨w, ew, rw'⟩ := r.get h2
  have hl := r.length
  have hn := line63
  have fin : EP X pins σ Q w s := ⟨z, H, I, rw', q⟩
  by_cases h0 : 0 ≤ i
  · have hj : i.toNat = j := by
      rw [seqIndex_of h0 h5] at h1
      exact Option.some.inj h1
    exact wpAny_getItem_list pl.isList h0 (by omega) (by rw [hj]; simpa using ew) fin
  · have hj : (i + (its.toArray.size : Int)).toNat = j := by
      rw [seqIndex_neg (by omega) h4] at h1
      rw [List.size_toArray, ← hl]
      exact Option.some.inj h1
    exact wpAny_getItem_list_neg pl.isList (by omega) (by rw [List.size_toArray] <;> omega) (by omega) (by rw [hj]; simpa using ew) fin
section
variable {X : Cx} {C : Ct} {b e : Expr} {tb te : TE} {fb fe : EF} {pos pos' q1 : Pos} {op : Operator} {f : Int → Int → Int}
/-- a list's item -/
def setLD (k : Int) (y : D) : D → Option D
  | .list ds => (ixN ds.length k).map fun j => .list (ds.set j y)
  | _ => none
/-- name[b] op= e -/
def sAugI (f : Int → Int → Int) (i : Nat) (fb fe : EF) : SF := fun ρ => match slot ρ i with
  | none => .stuck
  | some ⟨_, .st⟩ => .stuck
  | some _ => bindES (eCap fb ρ) fun hb ρ1 => match hb with
    | .sh (.int k) => match slot ρ1 i with
      | some ⟨.list ds, _⟩ => match atI ds k with
        | some (.int x) => bindES (eCap fe ρ1) fun h ρ2 => match h with
          | .sh (.int y) => mutS ρ2 i (setLD k (.int (f x y)))
          | _ => .stuck
        | _ => .stuck
      | _ => .stuck
    | _ => .stuck
theorem ss_augI {i : Nat} {x : Str} (ho : PIp X op (ipI f)) (lb : SE X C b tb fb) (l : SE X C e te fe) (hN : X.N[i]? = some x := by rfl) (hv : Vis X.env.scope x := by first | exact Or.inl rfl | exact Or.inr (Or.inl rfl) | exact Or.inr (Or.inr rfl)) (hd : (x == ("__debug__" : Str)) = false := by decide)
    (hcd : (x == ("__classdict__" : Str)) = false := by decide)
    (ha : ∀ ov iv new, augStore b ov iv new = (do holding [new, ov, iv] (setItem ov iv new); release [new, ov, iv] []; pure .next) := by intros; rfl) (hk : X.K = C.K := by rfl) :
    SS X C (.AugAssign (.Subscript (.Name x q1) b pos') op e pos) (tAugS (tVar i) tb te (rIxL C.K) (ipI f) rSetL) (sAugI f i fb fe) := by
  refine ⟨by rw [← hk]; exact ps_augS (pe_var hN hv hd hcd) lb.pe get_list l.pe ho set_list ha, fun ρ σ B H E S g => ?_⟩
  unfold sAugI at g
  split at g
  · exact g.elim
  · exact g.elim
  rename_i c nst ec
  obtain ⟨v0, e0, _⟩ := S.sl i c (slot_some ec) (fun z => nst c.d (by rw [← z]))
  refine ⟨v0, e0, ?_⟩
  refine lb.lk.cap.bindS S g fun hb ρ1 w B1 H1 S1 x1 y1 g1 => ?_
  split at g1
  case h_2 => exact g1.elim
  rename_i k
  cases (show Rp C.K B1 w (.int k) from y1)
  split at g1
  case h_2 => exact g1.elim
  rename_i ds fl es
  split at g1
  case h_2 => exact g1.elim
  rename_i xi ex
  obtain ⟨a, vs, rfl, sq, rl⟩ := S1.tp (N := fun _ => True) (h := .bw i) (d := .list ds) e0 (by show (slot ρ1 i).map (·.d) = _; rw [es]; rfl)
  obtain ⟨xv, exv, rx⟩ := rl.atI ex
  cases (show Rp C.K B1 xv (.int xi) from rx)
  refine ⟨a, vs, k, _, rfl, rfl, sq, exv, ?_⟩
  refine l.lk.cap.bindS S1 (GoodS.ext x1 g1) fun h ρ2 v B2 H2 S2 x2 y2 g2 => ?_
  split at g2
  case h_2 => exact g2.elim
  rename_i yi
  cases (show Rp C.K B2 v (.int yi) from y2)
  refine ⟨_, _, rfl, rfl, ?_⟩
  obtain ⟨c, d', h1, h2, hst, h3, h4⟩ := mutS_ok g2
  obtain ⟨a', ea', hb, ow⟩ := S2.own h1 h2 hst
  rw [e0] at ea'
  cases ea'
  obtain ⟨d, fl⟩ := c
  cases d with
  | list ds' =>
    obtain ⟨j, ej, rfl⟩ := Option.map_eq_some_iff.mp h3
    obtain ⟨ws, ew, rw'⟩ := ow
    have ow' : Ow C.K B2 a (some (.lst (ws.set j (.int (f xi yi))))) (.list (ds'.set j (.int (f xi yi)))) := ⟨_, rfl, RpL.set (.int _) j rw'⟩
    obtain ⟨S3, x3⟩ := S2.mut h1 h2 e0 ow'
    exact ⟨a, ws, k, j, rfl, rfl, ew, by rw [rw'.length]; exact ej, h4 _ _ _ S3 (x2.trans x3)⟩
  | _ => cases h3
end
end GS
namespace GS
open PySem L2
section
variable {X : Cx} {C : Ct} {e : Expr} {te : TE} {fe : EF} {pos p : Pos}
/-- a name handed back, its own list or a lent one -/
def eRvL (i : Nat) : EF := fun ρ => match slot ρ i with
  | some ⟨d, .sh⟩ => .ok (.sh d) ρ
  | some ⟨d, .ow⟩ => .ok (.fr d) (ρ.set i none)
  | some ⟨_, .io⟩ => .ok (.bw i) ρ
  | _ => .stuck
theorem lk_rvL {i : Nat} : LkE C (tVar i) (eRvL i) := fun ρ σ B H Q S g => by
  unfold eRvL at g
  cases h : slot ρ i with
  | none => rw [h] at g; exact g.elim
  | some c =>
    rw [h] at g
    obtain ⟨d, fl⟩ := c
    have hi := slot_some h
    cases fl with
    | sh =>
      obtain ⟨v, e, q⟩ := S.sl i _ hi (by simp)
      rcases q with ⟨_, q⟩ | ⟨q, _⟩
      · exact ⟨v, e, g v B H S Ext.refl q⟩
      · exact absurd rfl q
    | ow =>
      obtain ⟨a, e, S1, x1, r⟩ := S.give hi
      exact ⟨.ref a, e, g _ B H S1 x1 r⟩
    | io =>
      obtain ⟨v, e, _⟩ := S.sl i _ hi (by simp)
      exact ⟨v, e, g v B H S Ext.refl e⟩
    | st => exact g.elim
theorem se_rvL (i : Nat) {x : Str} (hN : X.N[i]? = some x := by rfl) (hv : Vis X.env.scope x := by first | exact Or.inl rfl | exact Or.inr (Or.inl rfl) | exact Or.inr (Or.inr rfl)) (hd : (x == ("__debug__" : Str)) = false := by decide)
    (hcd : (x == ("__classdict__" : Str)) = false := by decide) : SE X C (.Name x pos) (tVar i) (eRvL i) := ⟨pe_var hN hv hd hcd, lk_rvL⟩
def sRetL (fe : EF) : SF := fun ρ => bindES (fe ρ) fun h ρ1 => match h with
  | .sp _ _ => .stuck
  | h => .rt h ρ1
theorem ss_retL (l : SE X C e te fe) : SS X C (.Return (some e) pos) (tRet te) (sRetL fe) := ⟨ps_ret l.pe, fun ρ σ B H D S g => by
  refine l.lk.bindS S g fun hd ρ1 v B1 H1 S1 x1 y1 g1 => ?_
  cases hd with
  | sh d => exact g1 v σ B1 H1 S1 x1 y1
  | fr d => exact g1 v σ B1 H1 S1 x1 y1
  | bw i => exact g1 v σ B1 H1 S1 x1 y1
  | sp _ _ => exact g1.elim⟩
end
/-- a def that may hand back a lent parameter -/
def fnL (m n : Nat) (g : SF) : FF := fun ρ => match g (ρ ++ List.replicate (m - n) none) with
  | .rt (.bw i) ρ1 => if decide (i < n) && ioAt ρ1 i then .ok (.bw i) (outR ρ1 n) else .stuck
  | .rt (.sp _ _) _ => .stuck
  | .rt h ρ1 => .ok h (outR ρ1 n)
  | .nx ρ1 => .ok (.sh .none) (outR ρ1 n)
  | .exc x ρ1 => .exc x (outR ρ1 n)
  | _ => .stuck
section
variable {P : Program} {w : World} {K : KW} {mg : Str → Option Value} {base : Heap} {cv : Str → Value}
theorem fn_ofL {x qual : Str} {st : Stmt} {f : Addr} {fd : FuncData} (N : List Str) {ps : List Str} {k m n : Nat} {g : SF} (hm : N.length = m) (hn' : ps.length = n) (F : Fun K x qual st f fd) (S : FnScope N ps (defScope st))
    (hb : ∀ (cdv : Value) (A : Around) (outer : List Env) (s : Shared) (H : Hp) (E : XK), Room k (cxF P w K mg base N qual st f cdv A outer s H E).A → Takes (cxF P w K mg base N qual st f cdv A outer s H E) (ctF K cv E).W →
      PassesOwn (model P w) (cxF P w K mg base N qual st f cdv A outer s H E).A (cxF P w K mg base N qual st f cdv A outer s H E).env (cxF P w K mg base N qual st f cdv A outer s H E).xe →
      ∃ t, SSs (cxF P w K mg base N qual st f cdv A outer s H E) (ctF K cv E) (defBody st) t g) :
    FnOk P w K mg base (L2.CX P w) (k + 1) f fd ps (spF K cv n (fnL m n g)) := by
  subst hm hn'
  have hpl : ps.length ≤ N.length := by have := congrArg List.length S.pre; rw [List.length_take] at this; omega
  refine F.okX S (fun vs H Q E h => ?_) (fun cdv A outer s H vs Q E hr h => ?_)
  · obtain ⟨ρ, B, hl, Sm, _⟩ := h
    exact hl.1
  · obtain ⟨ρ, B, ⟨hv, hn⟩, Sm, gd⟩ := h
    have hl : ρ.length = vs.length := by omega
    obtain ⟨t, ht⟩ := hb cdv A outer s H E hr (takes_of rfl rfl rfl rfl) (passes_of rfl)
    refine ⟨t, ht.ps, ht.lk (ρ ++ List.replicate (N.length - ps.length) none) _ B H _ (by rw [← hv]; exact entry_sim Sm hl (by omega)) ?_⟩
    unfold fnL at gd
    cases eg : g (ρ ++ List.replicate (N.length - ps.length) none) with
    | stuck => rw [eg] at gd; exact gd
    | bk _ => rw [eg] at gd; exact gd.elim
    | ct _ => rw [eg] at gd; exact gd.elim
    | nx ρ1 =>
      rw [eg] at gd
      intro σ1 B1 H1 S1 x1
      obtain ⟨S2, x2, _, _⟩ := exit_sim Sm hl hn S1 x1
      exact gd .non B1 H1 S2 x2 .non
    | exc c ρ1 =>
      rw [eg] at gd
      intro cls dct σ1 B1 H1 S1 x1 ok
      obtain ⟨S2, x2, _, _⟩ := exit_sim Sm hl hn S1 x1
      exact gd cls dct B1 H1 S2 x2 ok
    | rt h ρ1 =>
      rw [eg] at gd
      intro v σ1 B1 H1 S1 x1 y1
      obtain ⟨S2, x2, n1, n2⟩ := exit_sim Sm hl hn S1 x1
      cases h with
      | sh d => exact gd v B1 H1 S2 x2 y1
      | fr d =>
        obtain ⟨a, r1, r2, r3, r4, r5⟩ := y1
        exact gd v B1 H1 S2 x2 ⟨a, r1, r2, r3, fun z => r4 (n1 a z), n2 a r5⟩
      | bw i =>
        dsimp only at gd
        by_cases hc : (decide (i < ps.length) && ioAt ρ1 i) = true
        case neg => rw [if_neg hc] at gd; exact gd.elim
        rw [if_pos hc] at gd
        rw [Bool.and_eq_true, decide_eq_true_eq] at hc
        obtain ⟨hi, hio⟩ := hc
        refine gd v B1 H1 S2 x2 ?_
        obtain ⟨d, hd⟩ : ∃ d, ρ1[i]? = some (some (Cel.mk d .io)) := by
          unfold ioAt at hio
          split at hio
          · rename_i d es; exact ⟨d, slot_some es⟩
          · rename_i d es
            exfalso
            have := (S1.st.at' i d (slot_some es)).1
            have e1 : σ1[i]? = some (some v) := y1
            have := (List.getElem?_eq_some_iff.mp e1).1
            omega
          · cases hio
        obtain ⟨c', r1, r2⟩ := x1.oi i _ hd rfl
        have e := (x1.io i c' r1 r2).1
        have y1' : σ1[i]? = some (some v) := y1
        rw [y1', start_get (by omega)] at e
        exact e.symm
      | sp _ _ => exact gd.elim
end
section
variable {X : Cx} {C : Ct} {e : Expr} {es : List Expr} {pos p p2 : Pos} {x : Str} {k n : Nat} {f : Addr} {fd : FuncData} {ps : List Str} {io : Option Nat} {F : FF} {t : TA} {g : AF}
/-- a call whose answer is dropped -/
def sCallD (n : Nat) (io : Option Nat) (F : FF) (fs : AF) : SF := fun ρ => match fs ρ with
  | .stuck => .stuck
  | .exc x ρ1 => .exc x ρ1
  | .ok hs ρ1 => match args ρ1 io 0 hs with
    | none => .stuck
    | some ρ0 => if ρ0.length ≠ n then .stuck else match F ρ0 with
      | .stuck => .stuck
      | .ok _ outs => match putB ρ1 io hs outs with
        | none => .stuck
        | some ρ2 => .nx ρ2
      | .exc x outs => match putB ρ1 io hs outs with
        | none => .stuck
        | some ρ2 => .exc x ρ2
theorem lk_callD (l : LkA C t g) : LkS C (tDrop (tCallS (spF C.K C.cv n F) (WE C.W) t)) (sCallD n io F g) := fun ρ σ B H D S gd => by
  refine l ρ σ B H _ S ?_
  unfold sCallD at gd
  cases eg : g ρ with
  | stuck => rw [eg] at gd; exact gd
  | exc c ρ1 => rw [eg] at gd; exact fun cls dct B' H' s y z => gd cls dct σ B' H' s y z
  | ok hs ρ1 =>
    rw [eg] at gd
    dsimp only at gd
    intro vs B1 H1 S1 x1 y1
    cases ea : args ρ1 io 0 hs with
    | none => rw [ea] at gd; exact gd.elim
    | some ρ0 =>
      rw [ea] at gd
      dsimp only at gd
      split at gd
      · exact gd.elim
      rename_i hl
      have hl : ρ0.length = n := Classical.not_not.mp hl
      refine ⟨ρ0, B1, ⟨by rw [y1.length, ← (args_at ea).1]; exact hl, hl⟩, args_sim S1 y1 ea, ?_⟩
      cases ef : F ρ0 with
      | stuck => rw [ef] at gd; exact gd
      | exc c outs =>
        rw [ef] at gd
        dsimp only at gd
        cases ep : putB ρ1 io hs outs with
        | none => rw [ep] at gd; exact gd.elim
        | some ρ2 =>
          rw [ep] at gd
          intro cls dct B2 H2 S2 x2 ok
          obtain ⟨S3, x3, _, _⟩ := back_sim S1 y1 ea S2 x2 ep
          exact gd cls dct σ B2 H2 S3 (x1.trans x3) ok
      | ok h outs =>
        rw [ef] at gd
        dsimp only at gd
        cases ep : putB ρ1 io hs outs with
        | none => rw [ep] at gd; exact gd.elim
        | some ρ2 =>
          rw [ep] at gd
          intro v B2 H2 S2 x2 y2
          obtain ⟨S3, x3, n1, n2⟩ := back_sim S1 y1 ea S2 x2 ep
          exact gd σ B2 H2 S3 (x1.trans x3)
theorem ss_callD (FO : FnOk X.prog X.w X.K X.mg X.base (L2.CX X.prog X.w) k f fd ps (spF C.K C.cv n F)) (hr : Room k X.A) (hm : X.mg x = some (.ref f)) (hkp : PySem.W.keepIn X.K (.ref f) = true) (hb : Binds X.K fd ps []) (tk : Takes X C.W)
    (l : SA X C (e :: es) t g) (io : Option Nat) (hg : Gl X x := by rfl) (hdb : (x == ("__debug__" : Str)) = false := by decide) (he : starEach (e :: es) X.env = (false, eval e X.env) :: starEach es X.env := by rfl)
    (hpl : (backTo pos (starEach es X.env)).any (·.1) = false := by rfl) (hs : swapsWith (.Call (.Name x p) (e :: es) [] pos) none p2.line X.env = pure false := by rfl) : SS X C (.Expr (.Call (.Name x p) (e :: es) [] pos) p2) (tDrop (tCallS (spF C.K C.cv n F) (WE C.W) t)) (sCallD n io F g) :=
  ⟨ps_expr (pe_callS FO hr hg hm hkp hb (fun σ => passAt tk σ) l.pa hdb he hpl) hs, lk_callD l.lk⟩
end
end GS
namespace GS
open PySem L2
inductive RAF where | stuck | ok (hs : List Hd) (d : D) (ρ : Rho) | exc (x : Xc) (ρ : Rho)
abbrev AFF := Rho → RAF
def GoodAF (C : Ct) (ρ : Rho) (σ : St) (B H : Hp) (Q : List V → Hp → Prop) : RAF → Prop
  | .stuck => False
  | .ok hs d ρ' => ∀ vs v B' H', Sim C.K ρ' σ B' H' → Ext ρ σ B H ρ' σ B' H' → HdL C.K σ B' vs hs → HdOk C.K (New ρ σ H) ρ' σ B' H' v (.fr d) → Q (vs ++ [v]) H'
  | .exc x ρ' => ∀ cls dct B' H', Sim C.K ρ' σ B' H' → Ext ρ σ B H ρ' σ B' H' → XcOk C B' x cls dct → C.W cls dct σ H'
def LkAF (C : Ct) (t : TA) (f : AFF) : Prop := ∀ ρ σ B H Q, Sim C.K ρ σ B H → GoodAF C ρ σ B H Q (f ρ) → t σ H Q
structure SAF (X : Cx) (C : Ct) (es : List Expr) (t : TA) (f : AFF) : Prop where
  pa : PA X es t
  lk : LkAF C t f
theorem GoodAF.ext {C : Ct} {ρ ρ1 : Rho} {σ : St} {B H B1 H1 : Hp} {Q : List V → Hp → Prop} (x : Ext ρ σ B H ρ1 σ B1 H1) : ∀ {r : RAF}, GoodAF C ρ σ B H Q r → GoodAF C ρ1 σ B1 H1 Q r
  | .stuck, g => g
  | .ok _ _ _, g => fun vs v B' H' s y z w => g vs v B' H' s (x.trans y) z (HdOk.mono (fun _ q => x.back q) w)
  | .exc _ _, g => fun c d B' H' s y z => g c d B' H' s (x.trans y) z
def aLast (f : EF) : AFF := fun ρ => match f ρ with
  | .ok (.fr d) ρ1 => .ok [] d ρ1
  | .exc x ρ1 => .exc x ρ1
  | _ => .stuck
def aConsF (f : EF) (g : AFF) : AFF := fun ρ => match eSet f ρ with
  | .stuck => .stuck
  | .exc x ρ1 => .exc x ρ1
  | .ok h ρ1 => match g ρ1 with
    | .stuck => .stuck
    | .exc x ρ2 => .exc x ρ2
    | .ok hs d ρ2 => .ok (h :: hs) d ρ2
def eCallE (n : Nat) (F : FF) (g : AFF) : EF := fun ρ => match g ρ with
  | .stuck => .stuck
  | .exc x ρ1 => .exc x ρ1
  | .ok hs d ρ2 => match shCs hs with
    | none => .stuck
    | some r => if r.length + 1 ≠ n then .stuck else match F (r ++ [some ⟨d, .ow⟩]) with
      | .stuck => .stuck
      | .ok h _ => (match h with
        | .bw _ => .stuck
        | .sp _ _ => .stuck
        | h => .ok h ρ2)
      | .exc x _ => .exc x ρ2
section
variable {X : Cx} {C : Ct} {e e0 : Expr} {es : List Expr} {pos p : Pos} {x : Str} {k n : Nat} {f : Addr} {fd : FuncData} {ps : List Str} {F : FF} {t : TA} {g : AFF} {te : TE} {fe : EF}
theorem saf_last (l : SE X C e te fe) (hs : starEach [e] X.env = (false, eval e X.env) :: starEach [] X.env := by rfl) : SAF X C [e] (tCons te tNil) (aLast fe) := ⟨pa_cons l.pe pa_nil hs, fun ρ σ B H Q S gd => by
  refine l.lk ρ σ B H _ S ?_
  unfold aLast at gd
  cases e : fe ρ with
  | stuck => rw [e] at gd; exact gd
  | exc x ρ1 => rw [e] at gd; exact gd
  | ok h ρ1 =>
    rw [e] at gd
    cases h with
    | fr d => exact fun v B1 H1 S1 x1 y1 => gd [] v B1 H1 S1 x1 .nil y1
    | sh _ => exact gd.elim
    | bw _ => exact gd.elim
    | sp _ _ => exact gd.elim⟩
theorem saf_cons (l : SE X C e te fe) (m : SAF X C es t g) (hs : starEach (e :: es) X.env = (false, eval e X.env) :: starEach es X.env := by rfl) : SAF X C (e :: es) (tCons te t) (aConsF fe g) := ⟨pa_cons l.pe m.pa hs, fun ρ σ B H Q S gd => by
  refine l.lk.set ρ σ B H _ S ?_
  unfold aConsF at gd
  cases e : eSet fe ρ with
  | stuck => rw [e] at gd; exact gd
  | exc x ρ1 => rw [e] at gd; exact gd
  | ok h ρ1 =>
    rw [e] at gd
    intro v B1 H1 S1 x1 y1
    have y2 : HsOk C.K σ B1 v h := by
      unfold eSet bindE at e
      split at e
      · cases e
      · rename_i h' ρ' e'
        cases e
        exact hs_of y1
      · cases e
    refine m.lk ρ1 σ B1 H1 _ S1 ?_
    cases e2 : g ρ1 with
    | stuck => simp only [e2] at gd; exact gd
    | exc x ρ2 => simp only [e2] at gd; exact GoodAF.ext x1 (r := .exc x ρ2) gd
    | ok hs d ρ2 =>
      simp only [e2] at gd
      intro vs w B2 H2 S2 x2 y3 y4
      exact gd (v :: vs) w B2 H2 S2 (x1.trans x2) (.cons (y2.mono x2.bb) y3) (HdOk.mono (fun _ q => x1.back q) y4)⟩
theorem lk_callE (l : LkAF C t g) : LkE C (tCallS (spF C.K C.cv n F) (WE C.W) t) (eCallE n F g) := fun ρ σ B H Q S gd => by
  refine l ρ σ B H _ S ?_
  unfold eCallE at gd
  cases eg : g ρ with
  | stuck => rw [eg] at gd; exact gd
  | exc c ρ1 => rw [eg] at gd; exact gd
  | ok hs d ρ2 =>
    rw [eg] at gd
    replace gd : GoodE C ρ σ B H Q (match shCs hs with
      | none => .stuck
      | some r => if r.length + 1 ≠ n then .stuck else match F (r ++ [some ⟨d, .ow⟩]) with
        | .stuck => .stuck
        | .ok h _ => (match h with
          | .bw _ => .stuck
          | .sp _ _ => .stuck
          | h => .ok h ρ2)
        | .exc x _ => .exc x ρ2) := gd
    intro vs v B2 H2 S2 x2 y2 y3
    obtain ⟨a, rfl, b2, ow2, n2, nw2⟩ := y3
    cases er : shCs hs with
    | none => rw [er] at gd; exact gd.elim
    | some r =>
      rw [er] at gd
      dsimp only at gd
      split at gd
      · exact gd.elim
      rename_i hl
      have hl : r.length + 1 = n := Classical.not_not.mp hl
      obtain ⟨r1, r2⟩ := shCs_ok y2 er
      have at0 : ∀ (i : Nat) (c : Cel), (r ++ [some ⟨d, .ow⟩])[i]? = some (some c) → (r[i]? = some (some c) ∧ i < r.length) ∨ (i = r.length ∧ c = ⟨d, .ow⟩) := fun i c h => by
        by_cases hi : i < r.length
        · rw [List.getElem?_append_left hi] at h; exact .inl ⟨h, hi⟩
        · rw [List.getElem?_append_right (by omega)] at h
          have : i - r.length = 0 := by
            have := (List.getElem?_eq_some_iff.mp h).1
            simp at this
            omega
          rw [this] at h
          simp at h
          exact .inr ⟨by omega, h.symm⟩
      have st0 : ∀ i, i < r.length → ((vs ++ [V.ref a]).map some)[i]? = vs[i]?.map some := fun i hi => by
        rw [List.getElem?_map, List.getElem?_append_left (by omega)]
      have stL : ((vs ++ [V.ref a]).map some)[r.length]? = some (some (.ref a)) := by
        rw [List.getElem?_map, List.getElem?_append_right (by omega), r1]; simp
      have own0 : ∀ b, OwnA (r ++ [some ⟨d, .ow⟩]) ((vs ++ [V.ref a]).map some) b → b = a := fun b ⟨i, c, h1, h2, h3⟩ => by
        rcases at0 i c h1 with ⟨q, _⟩ | ⟨rfl, rfl⟩
        · exact absurd (r2 i c q).1 h2
        · rw [stL] at h3; cases h3; rfl
      have no0 : ∀ (i : Nat) (d' : D), (r ++ [some ⟨d, .ow⟩])[i]? ≠ some (some (Cel.mk d' .st)) := fun i d' h => by
        rcases at0 i _ h with ⟨q, _⟩ | ⟨_, q⟩
        · have := (r2 i _ q).1; cases this
        · cases q
      have S0 : Sim C.K (r ++ [some ⟨d, .ow⟩]) ((vs ++ [V.ref a]).map some) B2 H2 := by
        refine ⟨S2.bh, ⟨by simp [r1], fun i h1 h2 => by simp [r1] at h1 h2; omega⟩, fun i c hi _ => ?_, fun i j ci cj b hi hj ni nj ei ej => ?_, ⟨fun i d h => absurd h (no0 i d), S2.st.id'⟩⟩
        · rcases at0 i c hi with ⟨q, lt⟩ | ⟨rfl, rfl⟩
          · obtain ⟨q1, v, q2, q3⟩ := r2 i c q
            exact ⟨v, by rw [st0 i lt, q2]; rfl, .inl ⟨q1, q3⟩⟩
          · exact ⟨.ref a, stL, .inr ⟨by simp, a, rfl, b2, ow2⟩⟩
        · rcases at0 i ci hi with ⟨q, _⟩ | ⟨rfl, rfl⟩
          · exact absurd (r2 i ci q).1 ni
          · rcases at0 j cj hj with ⟨q, _⟩ | ⟨rfl, rfl⟩
            · exact absurd (r2 j cj q).1 nj
            · rfl
      have own1 : OwnA (r ++ [some ⟨d, .ow⟩]) ((vs ++ [V.ref a]).map some) a := ⟨r.length, ⟨d, .ow⟩, by simp, by simp, stL⟩
      have news : ∀ b, New (r ++ [some ⟨d, .ow⟩]) ((vs ++ [V.ref a]).map some) H2 b → New ρ σ H b := fun b z => by
        rcases z with z | z
        · exact x2.back (.inl z)
        · cases own0 b z; exact nw2
      have back : ∀ {ρ' B3 H3}, Sim C.K ρ' ((vs ++ [V.ref a]).map some) B3 H3 → Ext (r ++ [some ⟨d, .ow⟩]) ((vs ++ [V.ref a]).map some) B2 H2 ρ' ((vs ++ [V.ref a]).map some) B3 H3 → Sim C.K ρ2 σ B3 H3 ∧ Ext ρ σ B H ρ2 σ B3 H3 := fun {ρ' B3 H3} S3 x3 => by
        refine ⟨⟨S3.bh, S2.len, fun i c hi his => ?_, S2.dj, S2.st.keep x3.bb (x3.tkB no0) (x3.tkH S0 no0) (fun _ _ h => h) rfl⟩, ⟨x2.bb.trans x3.bb, fun b u z => ?_, fun b u z n => ?_, x2.sub, x2.io, x2.oi, ?_⟩⟩
        · obtain ⟨v, ev, ok⟩ := S2.sl i c hi his
          refine ⟨v, ev, ok.mono x3.bb fun b hv hb ho hf => ?_⟩
          subst hv
          obtain ⟨o', eo'⟩ := ho
          have nb : ¬ OwnA (r ++ [some ⟨d, .ow⟩]) ((vs ++ [V.ref a]).map some) b := fun z => by
            cases own0 b z
            exact n2 ⟨i, c, hi, hf, ev⟩
          obtain ⟨w1, w2, _⟩ := x3.keepN eo' hb nb
          exact ⟨w2, by rw [w1, eo']⟩
        · rcases x3.nw b u z with z | z
          · exact x2.nw b u z
          · exact .inr (news b z)
        · have nb : ¬ OwnA (r ++ [some ⟨d, .ow⟩]) ((vs ++ [V.ref a]).map some) b := fun w => by
            cases own0 b w
            rcases nw2 with w | w
            · rw [w] at z; cases z
            · exact n w
          rcases x2.kp b u z n with q | ⟨tq, u', q⟩
          · exact .inl (x3.keepT q nb (Ext.noTokR no0 b))
          · exact .inr ⟨tq, u', x3.keepT q nb (Ext.noTokR no0 b)⟩
        · exact ⟨fun b ⟨i, s, μ, g, c, q1, q2, q3, q4⟩ => x2.tx.tk b ⟨i, s, μ, g, c, q1, x3.tkB no0 b s g q2, q3, q4⟩, fun b s g q => x2.tx.tn b s g (x3.tkB no0 b s g q), x2.tx.kt⟩
      refine ⟨r ++ [some ⟨d, .ow⟩], B2, ⟨by rw [List.length_append, ← r1]; exact hl, by rw [List.length_append]; exact hl⟩, S0, ?_⟩
      cases ef : F (r ++ [some ⟨d, .ow⟩]) with
      | stuck => rw [ef] at gd; exact gd
      | exc c outs =>
        rw [ef] at gd
        intro cls dct B3 H3 S3 x3 ok
        obtain ⟨S4, x4⟩ := back S3 x3
        exact gd cls dct B3 H3 S4 x4 ok
      | ok h outs =>
        rw [ef] at gd
        dsimp only at gd
        intro v B3 H3 S3 x3 y3
        obtain ⟨S4, x4⟩ := back S3 x3
        cases h with
        | sh d' => exact gd v B3 H3 S4 x4 y3
        | bw i => exact gd.elim
        | sp _ _ => exact gd.elim
        | fr d' =>
          obtain ⟨a', w1, w2, w3, w4, w5⟩ := y3
          refine gd v B3 H3 S4 x4 ⟨a', w1, w2, w3, fun z => ?_, news a' w5⟩
          rcases w5 with w | w
          · obtain ⟨_, o', eo'⟩ := S2.ownH z
            rw [w] at eo'; cases eo'
          · cases own0 a' w
            exact n2 z
theorem se_callE (FO : FnOk X.prog X.w X.K X.mg X.base (L2.CX X.prog X.w) k f fd ps (spF C.K C.cv n F)) (hr : Room k X.A) (hm : X.mg x = some (.ref f)) (hkp : PySem.W.keepIn X.K (.ref f) = true) (hb : Binds X.K fd ps []) (tk : Takes X C.W)
    (l : SAF X C (e :: es) t g) (hg : Gl X x := by rfl) (hdb : (x == ("__debug__" : Str)) = false := by decide) (he : starEach (e :: es) X.env = (false, eval e X.env) :: starEach es X.env := by rfl)
    (hpl : (backTo pos (starEach es X.env)).any (·.1) = false := by rfl) : SE X C (.Call (.Name x p) (e :: es) [] pos) (tCallS (spF C.K C.cv n F) (WE C.W) t) (eCallE n F g) :=
  ⟨pe_callS FO hr hg hm hkp hb (fun σ => passAt tk σ) l.pa hdb he hpl, lk_callE l.lk⟩
end
end GS
namespace GS
open PySem L2
section
variable {ρ ρ1 : Rho} {c : Prop} [Decidable c]
def augX (f : Int → Int → Int) (i : Nat) (k x : Int) (h : Hd) (ρ2 : Rho) : RS := match h with
  | .sh (.int y) => mutS ρ2 i (setLD k (.int (f x y)))
  | _ => .stuck
@[simp] theorem augX_i (f : Int → Int → Int) (i : Nat) (k x y : Int) : augX f i k x (.sh (.int y)) ρ = mutS ρ i (setLD k (.int (f x y))) := rfl
def augA (f : Int → Int → Int) (i : Nat) (fe : EF) (k : Int) (d : Option D) (ρ1 : Rho) : RS := match d with
  | some (.int x) => bindES (eCap fe ρ1) (augX f i k x)
  | _ => .stuck
@[simp] theorem augA_i (f : Int → Int → Int) (i : Nat) (fe : EF) (k x : Int) : augA f i fe k (some (.int x)) ρ = bindES (eCap fe ρ) (augX f i k x) := rfl
def augL (f : Int → Int → Int) (i : Nat) (fe : EF) (k : Int) (c : Option Cel) (ρ1 : Rho) : RS := match c with
  | some ⟨.list ds, _⟩ => augA f i fe k (atI ds k) ρ1
  | _ => .stuck
@[simp] theorem augL_l (f : Int → Int → Int) (i : Nat) (fe : EF) (k : Int) (ds : List D) (fl : Fl) : augL f i fe k (some ⟨.list ds, fl⟩) ρ = augA f i fe k (atI ds k) ρ := rfl
def augK (f : Int → Int → Int) (i : Nat) (fe : EF) (h : Hd) (ρ1 : Rho) : RS := match h with
  | .sh (.int k) => augL f i fe k (slot ρ1 i) ρ1
  | _ => .stuck
@[simp] theorem augK_i (f : Int → Int → Int) (i : Nat) (fe : EF) (k : Int) : augK f i fe (.sh (.int k)) ρ = augL f i fe k (slot ρ i) ρ := rfl
def augS (f : Int → Int → Int) (i : Nat) (fb fe : EF) (c : Option Cel) (ρ : Rho) : RS := match c with
  | none => .stuck
  | some ⟨_, .st⟩ => .stuck
  | some _ => bindES (eCap fb ρ) (augK f i fe)
@[simp] theorem augS_o (f : Int → Int → Int) (i : Nat) (fb fe : EF) (d : D) : augS f i fb fe (some ⟨d, .ow⟩) ρ = bindES (eCap fb ρ) (augK f i fe) := rfl
@[simp] theorem augS_i (f : Int → Int → Int) (i : Nat) (fb fe : EF) (d : D) : augS f i fb fe (some ⟨d, .io⟩) ρ = bindES (eCap fb ρ) (augK f i fe) := rfl
@[simp] theorem sAugI_eq (f : Int → Int → Int) (i : Nat) (fb fe : EF) : sAugI f i fb fe ρ = augS f i fb fe (slot ρ i) ρ := by
  unfold sAugI augS augK augL augA augX
  rfl
@[simp] theorem setLD_l (k : Int) (y : D) (ds : List D) : setLD k y (.list ds) = (ixN ds.length k).map fun j => .list (ds.set j y) := rfl
@[simp] theorem eRvL_eq (i : Nat) : eRvL i ρ = match slot ρ i with | some ⟨d, .sh⟩ => .ok (.sh d) ρ | some ⟨d, .ow⟩ => .ok (.fr d) (ρ.set i none) | some ⟨_, .io⟩ => .ok (.bw i) ρ | _ => .stuck := rfl
def retL (h : Hd) (ρ : Rho) : RS := match h with
  | .sp _ _ => .stuck
  | h => .rt h ρ
@[simp] theorem retL_sh (d : D) : retL (.sh d) ρ = .rt (.sh d) ρ := rfl
@[simp] theorem retL_fr (d : D) : retL (.fr d) ρ = .rt (.fr d) ρ := rfl
@[simp] theorem retL_bw (i : Nat) : retL (.bw i) ρ = .rt (.bw i) ρ := rfl
@[simp] theorem sRetL_eq (f : EF) : sRetL f ρ = bindES (f ρ) retL := by unfold sRetL; rfl
def finL (n : Nat) (r : RS) : RE := match r with
  | .rt (.bw i) ρ1 => if decide (i < n) && ioAt ρ1 i then .ok (.bw i) (outR ρ1 n) else .stuck
  | .rt (.sp _ _) _ => .stuck
  | .rt h ρ1 => .ok h (outR ρ1 n)
  | .nx ρ1 => .ok (.sh .none) (outR ρ1 n)
  | .exc x ρ1 => .exc x (outR ρ1 n)
  | _ => .stuck
@[simp] theorem finL_sh (n : Nat) (d : D) : finL n (.rt (.sh d) ρ) = .ok (.sh d) (outR ρ n) := rfl
@[simp] theorem finL_fr (n : Nat) (d : D) : finL n (.rt (.fr d) ρ) = .ok (.fr d) (outR ρ n) := rfl
@[simp] theorem finL_bw (n i : Nat) : finL n (.rt (.bw i) ρ) = if decide (i < n) && ioAt ρ i then .ok (.bw i) (outR ρ n) else .stuck := rfl
@[simp] theorem finL_nx (n : Nat) : finL n (.nx ρ) = .ok (.sh .none) (outR ρ n) := rfl
@[simp] theorem finL_ex (n : Nat) (x : Xc) : finL n (.exc x ρ) = .exc x (outR ρ n) := rfl
@[simp] theorem finL_if (n : Nat) (a b : RS) : finL n (if c then a else b) = if c then finL n a else finL n b := by split <;> rfl
theorem fnL_eq (m n : Nat) (g : SF) : fnL m n g ρ = finL n (g (ρ ++ List.replicate (m - n) none)) := by unfold fnL finL; rfl
def dropP (o : Option Rho) : RS := match o with
  | none => .stuck
  | some ρ2 => .nx ρ2
@[simp] theorem dropP_s : dropP (some ρ) = .nx ρ := rfl
def dropR (ρ1 : Rho) (io : Option Nat) (hs : List Hd) (r : RE) : RS := match r with
  | .stuck => .stuck
  | .ok _ outs => dropP (putB ρ1 io hs outs)
  | .exc x outs => match putB ρ1 io hs outs with
    | none => .stuck
    | some ρ2 => .exc x ρ2
@[simp] theorem dropR_okN (hs : List Hd) (h : Hd) (outs : Rho) : dropR ρ none hs (.ok h outs) = .nx ρ := rfl
@[simp] theorem dropR_ok (j : Nat) (hs : List Hd) (h : Hd) (outs : Rho) : dropR ρ (some j) hs (.ok h outs) = dropP (putX ρ (hs[j]?) (slot outs j)) := by rw [← putB_x]; rfl
def dropC (n : Nat) (io : Option Nat) (F : FF) (hs : List Hd) (ρ1 : Rho) (a : Option Rho) : RS := match a with
  | none => .stuck
  | some ρ0 => if ρ0.length ≠ n then .stuck else dropR ρ1 io hs (F ρ0)
@[simp] theorem dropC_s (n : Nat) (io : Option Nat) (F : FF) (hs : List Hd) (ρ0 : Rho) : dropC n io F hs ρ (some ρ0) = if ρ0.length ≠ n then .stuck else dropR ρ io hs (F ρ0) := rfl
def bindAS (r : RA) (k : List Hd → Rho → RS) : RS := match r with
  | .stuck => .stuck
  | .exc x ρ1 => .exc x ρ1
  | .ok hs ρ1 => k hs ρ1
@[simp] theorem bindAS_ok (h : List Hd) (k : List Hd → Rho → RS) : bindAS (.ok h ρ) k = k h ρ := rfl
@[simp] theorem sCallD_eq (n : Nat) (io : Option Nat) (F : FF) (fs : AF) : sCallD n io F fs ρ = bindAS (fs ρ) fun hs ρ1 => dropC n io F hs ρ1 (args ρ1 io 0 hs) := by
  unfold sCallD bindAS dropC dropR dropP
  rfl
def bindEAF (r : RE) (k : Hd → Rho → RAF) : RAF := match r with
  | .stuck => .stuck
  | .exc x ρ1 => .exc x ρ1
  | .ok h ρ1 => k h ρ1
@[simp] theorem bindEAF_ok (h : Hd) (k : Hd → Rho → RAF) : bindEAF (.ok h ρ) k = k h ρ := rfl
def consAF (h : Hd) (r : RAF) : RAF := match r with
  | .stuck => .stuck
  | .exc x ρ2 => .exc x ρ2
  | .ok hs d ρ2 => .ok (h :: hs) d ρ2
@[simp] theorem consAF_ok (h : Hd) (hs : List Hd) (d : D) : consAF h (.ok hs d ρ) = .ok (h :: hs) d ρ := rfl
@[simp] theorem aConsF_eq (f : EF) (g : AFF) : aConsF f g ρ = bindEAF (eSet f ρ) fun h ρ1 => consAF h (g ρ1) := by unfold aConsF bindEAF consAF; rfl
def lastF (h : Hd) (ρ1 : Rho) : RAF := match h with
  | .fr d => .ok [] d ρ1
  | _ => .stuck
@[simp] theorem lastF_fr (d : D) : lastF (.fr d) ρ = .ok [] d ρ := rfl
@[simp] theorem aLast_eq (f : EF) : aLast f ρ = bindEAF (f ρ) lastF := by
  unfold aLast bindEAF lastF
  cases f ρ with
  | ok h _ => cases h <;> rfl
  | _ => rfl
@[simp] theorem shCs_nil : shCs [] = some [] := rfl
@[simp] theorem shCs_cons (d : D) (hs : List Hd) : shCs (.sh d :: hs) = (shCs hs).map fun r => some ⟨d, .sh⟩ :: r := rfl
def backG (ρ2 : Rho) (r : RE) : RE := match r with
  | .stuck => .stuck
  | .ok (.bw _) _ => .stuck
  | .ok (.sp _ _) _ => .stuck
  | .ok h _ => .ok h ρ2
  | .exc x _ => .exc x ρ2
@[simp] theorem backG_sh (d : D) (outs : Rho) : backG ρ (.ok (.sh d) outs) = .ok (.sh d) ρ := rfl
@[simp] theorem backG_fr (d : D) (outs : Rho) : backG ρ (.ok (.fr d) outs) = .ok (.fr d) ρ := rfl
@[simp] theorem backG_ex (x : Xc) (outs : Rho) : backG ρ (.exc x outs) = .exc x ρ := rfl
def callE (n : Nat) (F : FF) (d : D) (r : Option Rho) (ρ2 : Rho) : RE := match r with
  | none => .stuck
  | some r => if r.length + 1 ≠ n then .stuck else backG ρ2 (F (r ++ [some ⟨d, .ow⟩]))
@[simp] theorem callE_s (n : Nat) (F : FF) (d : D) (r : Rho) : callE n F d (some r) ρ = if r.length + 1 ≠ n then .stuck else backG ρ (F (r ++ [some ⟨d, .ow⟩])) := rfl
def bindAFE (r : RAF) (k : List Hd → D → Rho → RE) : RE := match r with
  | .stuck => .stuck
  | .exc x ρ1 => .exc x ρ1
  | .ok hs d ρ1 => k hs d ρ1
@[simp] theorem bindAFE_ok (h : List Hd) (d : D) (k : List Hd → D → Rho → RE) : bindAFE (.ok h d ρ) k = k h d ρ := rfl
@[simp] theorem eCallE_eq (n : Nat) (F : FF) (g : AFF) : eCallE n F g ρ = bindAFE (g ρ) fun hs d ρ2 => callE n F d (shCs hs) ρ2 := by
  unfold eCallE bindAFE callE backG
  cases g ρ with
  | ok hs d ρ2 =>
    dsimp only
    cases shCs hs with
    | none => rfl
    | some r =>
      dsimp only
      split
      · rfl
      · cases F (r ++ [some ⟨d, .ow⟩]) with
        | ok h _ => cases h <;> rfl
        | _ => rfl
  | _ => rfl
end
end GS
namespace GM
open PySem L2 GS
/-- plan_at(plan, way); slots 0:plan 1:way 2:found 3:place -/
def m_plan_at_b1 : SF := (sKill [3] (sSet 2 (eBin ixA (eCB (un1 dictD) (aCons (eBin ixA (eVb 2) (eC (.int 1))) aNil)) (eVb 3))))
def m_plan_at : SF := (sSeq (sSet 2 (eMv 0)) (sSeq (sFor (iSq (eMv 1)) (gN 3) (m_plan_at_b1)) (sEnd (sRet (eRv 2)))))
theorem m_plan_at_eq (ρ : Rho) : fnF 4 2 (m_plan_at) ρ = finR 2 (m_plan_at (ρ ++ [none, none])) := fnF_eq 4 2 _
/-- with_plan(plan, way, other); slots 0:plan 1:way 2:other 3:puts 4:place 5:one -/
def m_with_plan_b1 (F_with_plan : FF) : SF := (sKill [4, 5] (sIf (eB (eBin (eqB false) (eVb 4) (eBin ixA (eVb 1) (eC (.int 0))))) (sApp 3 (eTup (aCons (eMv 4) (aCons (eCall 3 none F_with_plan (aCons (eMv 5) (aCons (eSl (eVb 1) (some (eC (.int 1))) none) (aCons (eMv 2) aNil)))) aNil)))) (sApp 3 (eTup (aCons (eMv 4) (aCons (eMv 5) aNil))))))
def m_with_plan (F_with_plan : FF) : SF := (sSeq (sIf (eB (eBin (eqB false) (eCB (un1 lenD) (aCons (eVb 1) aNil)) (eC (.int 0)))) (sEnd (sRet (eRv 2))) sNil) (sSeq (sSet 3 (eLst aNil)) (sSeq (sFor (iSq (eBin ixA (eVb 0) (eC (.int 1)))) (gT 2 (gsC (gN 4) (gsC (gN 5) gsN))) (m_with_plan_b1 F_with_plan)) (sEnd (sRet (eTup (aCons (eBin ixA (eVb 0) (eC (.int 0))) (aCons (eCB (un1 tupleD) (aCons (eVb 3) aNil)) aNil))))))))
theorem m_with_plan_eq (F_with_plan : FF) (ρ : Rho) : fnF 6 3 (m_with_plan F_with_plan) ρ = finR 3 (m_with_plan F_with_plan (ρ ++ [none, none, none])) := fnF_eq 6 3 _
/-- gone(plan, way, ring, times); slots 0:plan 1:way 2:ring 3:times 4:whole 5:within 6:turn -/
def m_gone_b1 (F_with_plan F_plan_at : FF) : SF := (sKill [6] (sSet 5 (eCall 3 none F_with_plan (aCons (eMv 4) (aCons (eMv 2) (aCons (eMv 5) aNil))))))
def m_gone (F_with_plan F_plan_at : FF) : SF := (sSeq (sSet 4 (eCall 2 none F_plan_at (aCons (eMv 0) (aCons (eMv 1) aNil)))) (sSeq (sSet 5 (eCall 2 none F_plan_at (aCons (eMv 4) (aCons (eMv 2) aNil)))) (sSeq (sFor (iR1 (eVb 3)) (gN 6) (m_gone_b1 F_with_plan F_plan_at)) (sEnd (sRet (eCall 3 none F_with_plan (aCons (eMv 0) (aCons (eMv 1) (aCons (eMv 5) aNil)))))))))
theorem m_gone_eq (F_with_plan F_plan_at : FF) (ρ : Rho) : fnF 7 4 (m_gone F_with_plan F_plan_at) ρ = finR 4 (m_gone F_with_plan F_plan_at (ρ ++ [none, none, none])) := fnF_eq 7 4 _
/-- _law_with(plan, way, other); slots 0:plan 1:way 2:other 3:puts 4:place 5:one -/
def m_law_with_b1 (F__law_with : FF) : SF := (sKill [4, 5] (sIf (eB (eBin (eqB false) (eVb 4) (eBin ixA (eVb 1) (eC (.int 0))))) (sApp 3 (eTup (aCons (eMv 4) (aCons (eCall 3 none F__law_with (aCons (eMv 5) (aCons (eSl (eVb 1) (some (eC (.int 1))) none) (aCons (eMv 2) aNil)))) aNil)))) (sApp 3 (eTup (aCons (eMv 4) (aCons (eMv 5) aNil))))))
def m_law_with (F__law_with : FF) : SF := (sSeq (sIf (eB (eBin (eqB false) (eCB (un1 lenD) (aCons (eVb 1) aNil)) (eC (.int 0)))) (sEnd (sRet (eRv 2))) sNil) (sSeq (sSet 3 (eLst aNil)) (sSeq (sFor (iSq (eBin ixA (eVb 0) (eC (.int 1)))) (gT 2 (gsC (gN 4) (gsC (gN 5) gsN))) (m_law_with_b1 F__law_with)) (sEnd (sRet (eTup (aCons (eBin ixA (eVb 0) (eC (.int 0))) (aCons (eCB (un1 tupleD) (aCons (eVb 3) aNil)) aNil))))))))
theorem m_law_with_eq (F__law_with : FF) (ρ : Rho) : fnF 6 3 (m_law_with F__law_with) ρ = finR 3 (m_law_with F__law_with (ρ ++ [none, none, none])) := fnF_eq 6 3 _
/-- _law_ways(plan, way, found); slots 0:plan 1:way 2:found 3:place 4:one -/
def m_law_ways_2_b1 (F__law_ways : FF) : SF := (sKill [3, 4] (sCallD 3 (some 2) F__law_ways (aCons (eMv 4) (aCons (eBin addD (eVb 1) (eTup (aCons (eMv 3) aNil))) (aCons (eVb 2) aNil)))))
def m_law_ways_2 (F__law_ways : FF) : SF := (sSeq (sApp 2 (eTup (aCons (eMv 1) (aCons (eMv 0) aNil)))) (sSeq (sFor (iSq (eBin ixA (eVb 0) (eC (.int 1)))) (gT 2 (gsC (gN 3) (gsC (gN 4) gsN))) (m_law_ways_2_b1 F__law_ways)) (sEnd (sRetL (eRvL 2)))))
theorem m_law_ways_2_eq (F__law_ways : FF) (ρ : Rho) : fnL 5 3 (m_law_ways_2 F__law_ways) ρ = finL 3 (m_law_ways_2 F__law_ways (ρ ++ [none, none])) := fnL_eq 5 3 _
end GM
namespace GZ
open PySem L2 GS GM
theorem eqB_P (neg : Bool) (p q : List Nat) : eqB neg (encP p) (encP q) = some (.sh (.bool (neg ^^ decide (p = q)))) := by
  rw [eqB_of neg (okW_of (encP_clean p).1 (by have := (encP_clean p).2; omega)) (okW_of (encP_clean q).1 (by have := (encP_clean q).2; omega)), encP_I, encP_I, eqv_I]
  congr 4
  by_cases h : p = q
  · simp [h]
  · simp [h]
    exact fun e => h (toI_inj e)
abbrev Way := List (List Nat)
def encWy (w : Way) : D := .tuple (w.map encP)
def Pl.wth : Way → Pl → Pl → Pl
  | [], _, o => o
  | p :: w, .mk k ps, o => .mk k (ps.map fun x => if x.1 = p then (x.1, Pl.wth w x.2 o) else x)
def Pl.at? : Way → Pl → Option Pl
  | [], q => some q
  | p :: w, q => (getN q.puts p).bind (Pl.at? w)
/-- what is looked at is no greater than lists may be; no place twice -/
structure Zp (q : Pl) : Prop where
  ln : ∀ r ∈ q.within, r.puts.length ≤ 1000
  nd : ∀ r ∈ q.within, (r.puts.map (·.1)).Nodup
theorem within_self (q : Pl) : q ∈ q.within := by cases q; rw [Pl.within]; simp
theorem within_put {q : Pl} {x : List Nat × Pl} (m : x ∈ q.puts) {r : Pl} (h : r ∈ x.2.within) : r ∈ q.within := by
  obtain ⟨k, ps⟩ := q
  rw [Pl.within, withinL_flat]
  exact List.mem_cons_of_mem _ (List.mem_flatMap.mpr ⟨x, m, h⟩)
theorem Zp.put {q : Pl} (z : Zp q) {x : List Nat × Pl} (m : x ∈ q.puts) : Zp x.2 := ⟨fun r h => z.ln r (within_put m h), fun r h => z.nd r (within_put m h)⟩
theorem getN_in {ps : List (List Nat × Pl)} {p : List Nat} {q : Pl} (h : getN ps p = some q) : (p, q) ∈ ps := by
  unfold getN at h
  obtain ⟨x, hx, rfl⟩ := Option.map_eq_some_iff.mp h
  have h1 := List.mem_of_find?_eq_some hx
  have h2 := List.find?_some hx
  have : x.1 = p := of_decide_eq_true h2
  rw [← this]
  exact h1
theorem forL_app {α : Type} {g : D → Rho → Option Rho} {b : SF} (emb : List D → Rho) (it el : α → D) (N : Nat) : ∀ (as : List α) (acc : List D), acc.length + as.length ≤ N → (∀ a ∈ as, ∀ acc : List D, acc.length < N → optR (g (it a) (emb acc)) b = .nx (emb (acc ++ [el a]))) →
    forL g b (as.map it) (emb acc) = .nx (emb (acc ++ as.map el))
  | [], acc, _, _ => by rw [List.map_nil, List.map_nil, List.append_nil]; rfl
  | a :: as, acc, hl, k => by
    rw [List.length_cons] at hl
    rw [List.map_cons, forL_cons2, k a (by simp) acc (by omega), turnR_nx, forL_app emb it el N as (acc ++ [el a]) (by simp; omega) (fun a m => k a (by simp [m])), List.map_cons, List.append_assoc]
    rfl
def WithSp (n : Nat) (F : FF) : Prop := ∀ (w : Way) (q o : Pl), w.length ≤ n → Zp q → F [some ⟨q.enc, .sh⟩, some ⟨encWy w, .sh⟩, some ⟨o.enc, .sh⟩] = .ok (.sh (Pl.wth w q o).enc) [none, none, none]
theorem wayD_len (w : Way) : lenD (encWy w) = some (.sh (.int w.length)) := by simp [encWy]
theorem wayD_0 (p : List Nat) (w : Way) : ixA (encWy (p :: w)) (.int 0) = some (.sh (encP p)) := by simp [encWy]
theorem wayD_1 (p : List Nat) (w : Way) : slD (some 1) none (encWy (p :: w)) = some (.sh (encWy w)) := by
  show slD (some ((1 : Nat) : Int)) none (.tuple _) = _
  rw [slD_t, cutD_from]
  rfl
section
variable {Fw Fp : FF}
theorem with_plan_ok {n : Nat} (hw : ∀ m, m + 1 = n → WithSp m Fw) : WithSp n (fnF 6 3 (m_with_plan Fw)) := fun w q o hn Z => by
  rw [m_with_plan_eq]
  have l0 := wayD_len w
  cases w with
  | nil =>
    have l0 : lenD (encWy []) = some (.sh (.int 0)) := l0
    rw [Pl.wth]
    generalize encWy [] = we at l0 ⊢
    simp [m_with_plan, l0]
  | cons p w =>
    obtain ⟨k, ps⟩ := q
    have i0 := ix_key (.mk k ps)
    have i1 := ix_puts (.mk k ps)
    dsimp only [Pl.key, Pl.puts] at i0 i1
    have hl := Z.ln _ (within_self _)
    dsimp only [Pl.puts] at hl
    have w0 := wayD_0 p w
    have w1 := wayD_1 p w
    rw [List.length_cons] at hn
    have loop := forL_app (g := gT 2 (gsC (gN 4) (gsC (gN 5) gsN))) (b := m_with_plan_b1 Fw) (fun acc => [some ⟨Pl.enc (.mk k ps), .sh⟩, some ⟨encWy (p :: w), .sh⟩, some ⟨o.enc, .sh⟩, some ⟨.list acc, .ow⟩, none, none]) Pl.encX
      (fun x => Pl.encX (if x.1 = p then (x.1, Pl.wth w x.2 o) else x)) 1000 ps [] (by simpa using hl) (fun x mx acc ha => by
        have z : acc.length < sizeLine := fitsl (by omega)
        have e := hw (n - 1) (by omega) w x.2 o (by omega) (Z.put mx)
        have ep := eqB_P false x.1 p
        rw [pencX_eq]
        generalize Pl.enc (.mk k ps) = qe
        generalize encWy (p :: w) = we at w0 w1 ⊢
        by_cases c : x.1 = p
        · rw [if_pos c, pencX_eq]
          rw [decide_eq_true c] at ep
          dsimp only
          generalize encP x.1 = xe at ep ⊢
          generalize encP p = pe at w0 ep
          generalize x.2.enc = ye at e ⊢
          generalize o.enc = oe at e ⊢
          simp [m_with_plan_b1, w0, w1, ep, e, z]
        · rw [if_neg c, pencX_eq]
          rw [decide_eq_false c] at ep
          generalize encP x.1 = xe at ep ⊢
          generalize encP p = pe at w0 ep
          generalize x.2.enc = ye
          generalize o.enc = oe
          simp [m_with_plan_b1, w0, ep, z])
    rw [List.nil_append] at loop
    have em : ps.map (fun x => Pl.encX (if x.1 = p then (x.1, Pl.wth w x.2 o) else x)) = (ps.map fun x => if x.1 = p then (x.1, Pl.wth w x.2 o) else x).map Pl.encX := by rw [List.map_map]; rfl
    rw [em] at loop
    rw [Pl.wth]
    generalize (ps.map fun x => if x.1 = p then (x.1, Pl.wth w x.2 o) else x) = rs at loop ⊢
    have ee := penc_eq (.mk k rs)
    dsimp only [Pl.key, Pl.puts] at ee
    rw [ee]
    have nz : ¬ ((w.length : Int) + 1 = 0) := by omega
    rw [List.length_cons] at l0
    generalize rs.map Pl.encX = re at loop ⊢
    generalize Pl.enc (.mk k ps) = qe at i0 i1 loop ⊢
    generalize encWy (p :: w) = we at l0 loop ⊢
    generalize ps.map Pl.encX = pe at i1 loop
    generalize o.enc = oe at loop ⊢
    simp [m_with_plan, l0, nz, i0, i1, loop]
theorem law_with_ok {n : Nat} (hw : ∀ m, m + 1 = n → WithSp m Fw) : WithSp n (fnF 6 3 (m_law_with Fw)) := fun w q o hn Z => by
  rw [m_law_with_eq]
  have l0 := wayD_len w
  cases w with
  | nil =>
    have l0 : lenD (encWy []) = some (.sh (.int 0)) := l0
    rw [Pl.wth]
    generalize encWy [] = we at l0 ⊢
    simp [m_law_with, l0]
  | cons p w =>
    obtain ⟨k, ps⟩ := q
    have i0 := ix_key (.mk k ps)
    have i1 := ix_puts (.mk k ps)
    dsimp only [Pl.key, Pl.puts] at i0 i1
    have hl := Z.ln _ (within_self _)
    dsimp only [Pl.puts] at hl
    have w0 := wayD_0 p w
    have w1 := wayD_1 p w
    rw [List.length_cons] at hn
    have loop := forL_app (g := gT 2 (gsC (gN 4) (gsC (gN 5) gsN))) (b := m_law_with_b1 Fw) (fun acc => [some ⟨Pl.enc (.mk k ps), .sh⟩, some ⟨encWy (p :: w), .sh⟩, some ⟨o.enc, .sh⟩, some ⟨.list acc, .ow⟩, none, none]) Pl.encX
      (fun x => Pl.encX (if x.1 = p then (x.1, Pl.wth w x.2 o) else x)) 1000 ps [] (by simpa using hl) (fun x mx acc ha => by
        have z : acc.length < sizeLine := fitsl (by omega)
        have e := hw (n - 1) (by omega) w x.2 o (by omega) (Z.put mx)
        have ep := eqB_P false x.1 p
        rw [pencX_eq]
        generalize Pl.enc (.mk k ps) = qe
        generalize encWy (p :: w) = we at w0 w1 ⊢
        by_cases c : x.1 = p
        · rw [if_pos c, pencX_eq]
          rw [decide_eq_true c] at ep
          dsimp only
          generalize encP x.1 = xe at ep ⊢
          generalize encP p = pe at w0 ep
          generalize x.2.enc = ye at e ⊢
          generalize o.enc = oe at e ⊢
          simp [m_law_with_b1, w0, w1, ep, e, z]
        · rw [if_neg c, pencX_eq]
          rw [decide_eq_false c] at ep
          generalize encP x.1 = xe at ep ⊢
          generalize encP p = pe at w0 ep
          generalize x.2.enc = ye
          generalize o.enc = oe
          simp [m_law_with_b1, w0, ep, z])
    rw [List.nil_append] at loop
    have em : ps.map (fun x => Pl.encX (if x.1 = p then (x.1, Pl.wth w x.2 o) else x)) = (ps.map fun x => if x.1 = p then (x.1, Pl.wth w x.2 o) else x).map Pl.encX := by rw [List.map_map]; rfl
    rw [em] at loop
    rw [Pl.wth]
    generalize (ps.map fun x => if x.1 = p then (x.1, Pl.wth w x.2 o) else x) = rs at loop ⊢
    have ee := penc_eq (.mk k rs)
    dsimp only [Pl.key, Pl.puts] at ee
    rw [ee]
    have nz : ¬ ((w.length : Int) + 1 = 0) := by omega
    rw [List.length_cons] at l0
    generalize rs.map Pl.encX = re at loop ⊢
    generalize Pl.enc (.mk k ps) = qe at i0 i1 loop ⊢
    generalize encWy (p :: w) = we at l0 loop ⊢
    generalize ps.map Pl.encX = pe at i1 loop
    generalize o.enc = oe at loop ⊢
    simp [m_law_with, l0, nz, i0, i1, loop]
def AtSp (F : FF) : Prop := ∀ (w : Way) (q r : Pl), Zp q → Pl.at? w q = some r → F [some ⟨q.enc, .sh⟩, some ⟨encWy w, .sh⟩] = .ok (.sh r.enc) [none, none]
theorem dict_plan {q : Pl} (z : Zp q) : dictD (.tuple (q.puts.map Pl.encX)) = some (.fr (dPuts q.puts)) := by
  have nd := z.nd _ (within_self q)
  have nd' : ((q.puts.map ptOf).map (·.1)).Nodup := by
    rw [List.map_map]
    have : (q.puts.map ((·.1) ∘ ptOf)) = (q.puts.map (·.1)).map toI := by rw [List.map_map]; rfl
    rw [this]
    unfold List.Nodup at nd ⊢
    rw [List.pairwise_map]
    exact nd.imp fun h e => h (toI_inj e)
  have := dict_puts nd'
  rw [List.map_map] at this
  have em : (encPt ∘ ptOf) = Pl.encX := by funext x; exact (ptOf_enc x).symm
  rw [em] at this
  exact this
theorem plan_at_ok : AtSp (fnF 4 2 m_plan_at) := fun w q r Z h => by
  rw [m_plan_at_eq]
  have loop : ∀ (ww w : Way) (u r : Pl), Zp u → Pl.at? w u = some r → forL (gN 3) m_plan_at_b1 (w.map encP) [some ⟨q.enc, .sh⟩, some ⟨encWy ww, .sh⟩, some ⟨u.enc, .sh⟩, none] = .nx [some ⟨q.enc, .sh⟩, some ⟨encWy ww, .sh⟩, some ⟨r.enc, .sh⟩, none] := fun ww w => by
    induction w with
    | nil => intro u r _ h; cases h; rfl
    | cons p w ih =>
      intro u r Z h
      obtain ⟨v, hv, h⟩ := Option.bind_eq_some_iff.mp h
      have zv := Z.put (getN_in hv)
      have dd := dict_plan Z
      have i1 := ix_puts u
      have ix := ix_dputs u.puts p
      rw [hv] at ix
      have ix : ixA (dPuts u.puts) (encP p) = some (.sh v.enc) := ix
      have st : optR (gN 3 (encP p) [some ⟨q.enc, .sh⟩, some ⟨encWy ww, .sh⟩, some ⟨u.enc, .sh⟩, none]) m_plan_at_b1 = .nx [some ⟨q.enc, .sh⟩, some ⟨encWy ww, .sh⟩, some ⟨v.enc, .sh⟩, none] := by
        generalize dPuts u.puts = dp at dd ix
        generalize u.puts.map Pl.encX = pe at dd i1
        generalize u.enc = ue at i1 ⊢
        generalize encP p = pp at ix ⊢
        generalize v.enc = ve at ix ⊢
        simp [m_plan_at_b1, i1, dd, ix]
      rw [List.map_cons, forL_cons2, st, turnR_nx]
      exact ih v r zv h
  have l := loop w w q r Z h
  have sq : ∀ ρ, seqR (.sh (encWy w)) ρ = .ok (w.map encP) ρ := fun ρ => rfl
  generalize w.map encP = wl at sq l
  generalize encWy w = we at sq l ⊢
  generalize q.enc = qe at l ⊢
  generalize r.enc = re at l ⊢
  simp [m_plan_at, sq, l]
/-- rounds gone -/
def turns (u : Pl) (ring : Way) (last : Pl) : Nat → Pl
  | 0 => last
  | k + 1 => Pl.wth ring u (turns u ring last k)
def GoneSp (n : Nat) (F : FF) : Prop := ∀ (way ring : Way) (q u last : Pl) (times : Nat), way.length ≤ n → ring.length ≤ n → Zp q → Pl.at? way q = some u → Pl.at? ring u = some last → times ≤ 1000 →
  F [some ⟨q.enc, .sh⟩, some ⟨encWy way, .sh⟩, some ⟨encWy ring, .sh⟩, some ⟨.int times, .sh⟩] = .ok (.sh (Pl.wth way q (turns u ring last times)).enc) [none, none, none, none]
theorem at_Zp {w : Way} : ∀ {q r : Pl}, Zp q → Pl.at? w q = some r → Zp r := by
  induction w with
  | nil => intro q r z h; cases h; exact z
  | cons p w ih =>
    intro q r z h
    obtain ⟨v, hv, h⟩ := Option.bind_eq_some_iff.mp h
    exact ih (z.put (getN_in hv)) h
theorem forL_turn {g : D → Rho → Option Rho} {b : SF} (emb : Nat → Rho) (k : ∀ i : Nat, optR (g (.int (i : Int)) (emb i)) b = .nx (emb (i + 1))) : ∀ n : Nat, forL g b (rgD 0 n) (emb 0) = .nx (emb n) := fun n => by
  have rg : rgD 0 n = (List.range n).map fun k : Nat => PyData.int (k : Int) := by unfold rgD; simp
  rw [rg]
  have gen : ∀ (m j : Nat), forL g b ((List.range' j m).map fun k : Nat => PyData.int (k : Int)) (emb j) = .nx (emb (j + m)) := fun m => by
    induction m with
    | zero => intro j; rfl
    | succ m ih =>
      intro j
      rw [List.range'_succ, List.map_cons, forL_cons2, k j, turnR_nx, ih (j + 1)]
      congr 2
      omega
  have := gen n 0
  rwa [Nat.zero_add, ← List.range_eq_range'] at this
theorem gone_ok {n : Nat} (hw : WithSp n Fw) (ha : AtSp Fp) : GoneSp n (fnF 7 4 (m_gone Fw Fp)) := fun way ring q u last times h1 h2 Z e1 e2 ht => by
  rw [m_gone_eq]
  have Zu := at_Zp Z e1
  have f1 := ha way q u Z e1
  have f2 := ha ring u last Zu e2
  have o : okR (times : Int) = true := okR_nat (by omega)
  have tn : (times : Int).toNat = times := by omega
  have loop := forL_turn (g := gN 6) (b := m_gone_b1 Fw Fp) (fun k => [some ⟨q.enc, .sh⟩, some ⟨encWy way, .sh⟩, some ⟨encWy ring, .sh⟩, some ⟨.int times, .sh⟩, some ⟨u.enc, .sh⟩, some ⟨(turns u ring last k).enc, .sh⟩, none]) (fun k => by
    have e := hw ring u (turns u ring last k) h2 Zu
    rw [turns]
    generalize encWy way = we
    generalize encWy ring = ge at e ⊢
    generalize u.enc = ue at e ⊢
    generalize (turns u ring last k).enc = te at e ⊢
    generalize (Pl.wth ring u (turns u ring last k)).enc = te' at e ⊢
    simp [m_gone_b1, e]) times
  have f3 := hw way q (turns u ring last times) h1 Z
  rw [turns] at loop
  generalize (Pl.wth way q (turns u ring last times)).enc = re at f3 ⊢
  generalize (turns u ring last times).enc = te at loop f3
  generalize encWy way = we at *
  generalize encWy ring = ge at *
  generalize q.enc = qe at *
  generalize u.enc = ue at *
  generalize last.enc = le at *
  simp [m_gone, f1, f2, o, tn, loop, f3]
mutual
def Pl.ways (w : Way) : Pl → List (Way × Pl)
  | .mk k ps => (w, .mk k ps) :: Pl.waysL w ps
def Pl.waysL (w : Way) : List (List Nat × Pl) → List (Way × Pl)
  | [] => []
  | x :: r => Pl.waysX w x ++ Pl.waysL w r
def Pl.waysX (w : Way) : List Nat × Pl → List (Way × Pl)
  | (p, q) => Pl.ways (w ++ [p]) q
end
mutual
theorem ways_within (w : Way) : ∀ q : Pl, (Pl.ways w q).map (·.2) = q.within
  | .mk k ps => by rw [Pl.ways, Pl.within, List.map_cons, waysL_within w ps]
theorem waysL_within (w : Way) : ∀ ps : List (List Nat × Pl), (Pl.waysL w ps).map (·.2) = Pl.withinL ps
  | [] => rfl
  | x :: r => by rw [Pl.waysL, Pl.withinL, List.map_append, waysX_within w x, waysL_within w r]
theorem waysX_within (w : Way) : ∀ x : List Nat × Pl, (Pl.waysX w x).map (·.2) = Pl.withinX x
  | (p, q) => by rw [Pl.waysX, Pl.withinX, ways_within _ q]
end
theorem ways_len (w : Way) (q : Pl) : (Pl.ways w q).length = q.size := by
  rw [← within_len, ← ways_within w, List.length_map]
def encWP (x : Way × Pl) : D := .tuple [encWy x.1, x.2.enc]
structure WaysSp (n : Nat) (F : FF) : Prop where
  io : ∀ (q : Pl) (w : Way) (acc : List D), q.dep ≤ n → acc.length + q.size ≤ 100000 → w.length + q.dep ≤ 900 → F [some ⟨q.enc, .sh⟩, some ⟨encWy w, .sh⟩, some ⟨.list acc, .io⟩] = .ok (.bw 2) [none, none, some ⟨.list (acc ++ (Pl.ways w q).map encWP), .io⟩]
  ow : ∀ (q : Pl) (w : Way) (acc : List D), q.dep ≤ n → acc.length + q.size ≤ 100000 → w.length + q.dep ≤ 900 → F [some ⟨q.enc, .sh⟩, some ⟨encWy w, .sh⟩, some ⟨.list acc, .ow⟩] = .ok (.fr (.list (acc ++ (Pl.ways w q).map encWP))) [none, none, none]
theorem wayD_add (w : Way) (p : List Nat) (h : w.length + 1 ≤ 100000) : addD (encWy w) (.tuple [encP p]) = some (.sh (encWy (w ++ [p]))) := by
  have z : w.length + 1 ≤ sizeLine := fits (by omega)
  simp [encWy, z]
theorem ways_turn {n : Nat} {Fl' : Fl} (hf : Fl' = .io ∨ Fl' = .ow) (hw : ∀ m, m + 1 = n → WaysSp m Fw) (qe : D) (w : Way) (hl : w.length ≤ 900) : ∀ (ps : List (List Nat × Pl)) (acc : List D), (∀ x ∈ ps, x.2.dep + 1 ≤ n ∧ w.length + 1 + x.2.dep ≤ 900) → acc.length + Pl.sizeL ps ≤ 100000 →
    forL (gT 2 (gsC (gN 3) (gsC (gN 4) gsN))) (m_law_ways_2_b1 Fw) (ps.map Pl.encX) [some ⟨qe, .sh⟩, some ⟨encWy w, .sh⟩, some ⟨.list acc, Fl'⟩, none, none] = .nx [some ⟨qe, .sh⟩, some ⟨encWy w, .sh⟩, some ⟨.list (acc ++ (Pl.waysL w ps).map encWP), Fl'⟩, none, none]
  | [], acc, _, _ => by rw [Pl.waysL, List.map_nil, List.map_nil, List.append_nil]; rfl
  | (p, u) :: ps, acc, h1, h2 => by
    rw [Pl.sizeL, Pl.sizeX] at h2
    have d1 := h1 (p, u) (by simp)
    dsimp only at d1
    have hwl := ways_len (w ++ [p]) u
    have e := (hw (n - 1) (by omega)).io u (w ++ [p]) acc (by omega) (by omega) (by simp; omega)
    have ea := wayD_add w p (by omega)
    have st : optR (gT 2 (gsC (gN 3) (gsC (gN 4) gsN)) (Pl.encX (p, u)) [some ⟨qe, .sh⟩, some ⟨encWy w, .sh⟩, some ⟨.list acc, Fl'⟩, none, none]) (m_law_ways_2_b1 Fw) = .nx [some ⟨qe, .sh⟩, some ⟨encWy w, .sh⟩, some ⟨.list (acc ++ (Pl.ways (w ++ [p]) u).map encWP), Fl'⟩, none, none] := by
      rw [pencX_eq]
      dsimp only
      generalize acc ++ (Pl.ways (w ++ [p]) u).map encWP = acc' at e ⊢
      generalize encWy (w ++ [p]) = we' at e ea
      generalize encWy w = we at ea ⊢
      generalize encP p = pe at ea ⊢
      generalize u.enc = ue at e ⊢
      rcases hf with rfl | rfl
      · simp [m_law_ways_2_b1, ea, e]
      · simp [m_law_ways_2_b1, ea, e]
    have hal : (Pl.ways (w ++ [p]) u).length = u.size := hwl
    rw [List.map_cons, forL_cons2, st, turnR_nx, ways_turn hf hw qe w hl ps _ (fun x m => h1 x (by simp [m])) (by rw [List.length_append, List.length_map]; omega), Pl.waysL, Pl.waysX, List.map_append, List.append_assoc]
theorem law_ways_ok {n : Nat} (hw : ∀ m, m + 1 = n → WaysSp m Fw) : WaysSp n (fnL 5 3 (m_law_ways_2 Fw)) := by
  constructor
  all_goals
    intro q w acc hd hz hl
    rw [m_law_ways_2_eq]
    have i1 := ix_puts q
    obtain ⟨k, ps⟩ := q
    rw [Pl.dep] at hd hl
    rw [Pl.size] at hz
    dsimp only [Pl.puts] at i1
    have z : acc.length < sizeLine := fitsl (by omega)
    have eW : (Pl.ways w (.mk k ps)).map encWP = encWP (w, .mk k ps) :: (Pl.waysL w ps).map encWP := by rw [Pl.ways, List.map_cons]
    have ln : (PyData.list acc) = .list acc := rfl
    rw [eW]
    have ew : encWP (w, .mk k ps) = .tuple [encWy w, Pl.enc (.mk k ps)] := rfl
    rw [ew]
  · have l1 := ways_turn (Fw := Fw) (n := n) (.inl rfl) hw (Pl.enc (.mk k ps)) w (by omega) ps (acc ++ [.tuple [encWy w, Pl.enc (.mk k ps)]]) (fun x m => by have := depX_le (Nat.le_refl _) x m; omega) (by simp; omega)
    rw [List.append_assoc, List.singleton_append] at l1
    generalize (Pl.waysL w ps).map encWP = wl at l1 ⊢
    generalize encWy w = we at l1 ⊢
    generalize Pl.enc (.mk k ps) = qe at i1 l1 ⊢
    generalize ps.map Pl.encX = pe at i1 l1
    simp [m_law_ways_2, z, i1, l1]
  · have l1 := ways_turn (Fw := Fw) (n := n) (.inr rfl) hw (Pl.enc (.mk k ps)) w (by omega) ps (acc ++ [.tuple [encWy w, Pl.enc (.mk k ps)]]) (fun x m => by have := depX_le (Nat.le_refl _) x m; omega) (by simp; omega)
    rw [List.append_assoc, List.singleton_append] at l1
    generalize (Pl.waysL w ps).map encWP = wl at l1 ⊢
    generalize encWy w = we at l1 ⊢
    generalize Pl.enc (.mk k ps) = qe at i1 l1 ⊢
    generalize ps.map Pl.encX = pe at i1 l1
    simp [m_law_ways_2, z, i1, l1]
end
end GZ
namespace GZ
open PySem L2 GS GM
section
variable {h : Nat} {b : Bk}
theorem PlOk.zp (B : BkW h b) {q : Pl} (o : PlOk b q) : Zp q := by
  have key : ∀ r ∈ q.within, r.puts.length ≤ 60 ∧ (r.puts.map (·.1)).Nodup := fun r m => by
    have o' := (o.inner r m).1
    cases o' with
    | mk e r' =>
      have s := r'.sub
      have l := s.length_le
      rw [List.length_map, List.length_map, pps_len] at l
      have z := B.sz _ (treeOf_in e)
      dsimp only at z
      exact ⟨by show _ ≤ 60; exact Nat.le_trans l z, (pps_nodup _).sublist s⟩
  exact ⟨fun r m => by have := (key r m).1; omega, fun r m => (key r m).2⟩
theorem at_ok {w : Way} : ∀ {q r : Pl}, PlOk b q → Pl.at? w q = some r → PlOk b r := by
  induction w with
  | nil => intro q r z h; cases h; exact z
  | cons p w ih =>
    intro q r z h
    obtain ⟨v, hv, hh⟩ := Option.bind_eq_some_iff.mp h
    clear h
    cases z with
    | mk e o => exact ih (o.each _ (getN_in hv)) hh
theorem PutsOk.mapv {f : List Nat × Pl → List Nat × Pl} : ∀ {us : List (List Nat × Tr)} {ps : List (List Nat × Pl)}, PutsOk b us ps → (∀ x ∈ ps, (f x).1 = x.1 ∧ (f x).2.key = x.2.key ∧ PlOk b (f x).2) → PutsOk b us (ps.map f)
  | _, _, .nil, _ => .nil
  | _, _, .skip m r, k => .skip m (PutsOk.mapv r k)
  | _, _, .put (p := p) (q := q) (ps := ps) m o r, k => by
    obtain ⟨h1, h2, h3⟩ := k (p, q) (by simp)
    have e : f (p, q) = (p, (f (p, q)).2) := Prod.ext h1 rfl
    rw [List.map_cons, e]
    exact .put (by rw [h2]; exact m) h3 (PutsOk.mapv r fun x m => k x (by simp [m]))
theorem getN_uni {ps : List (List Nat × Pl)} {p : List Nat} {v : Pl} (hv : getN ps p = some v) (nd : (ps.map (·.1)).Nodup) {x : List Nat × Pl} (m : x ∈ ps) (e : x.1 = p) : x.2 = v := by
  induction ps with
  | nil => cases m
  | cons y ps ih =>
    rw [List.map_cons, List.nodup_cons] at nd
    unfold getN at hv
    rw [List.find?_cons] at hv
    by_cases c : y.1 = p
    · rw [decide_eq_true c] at hv
      rcases List.mem_cons.mp m with rfl | m
      · cases hv; rfl
      · exact absurd (List.mem_map.mpr ⟨x, m, e.trans c.symm⟩) nd.1
    · rw [decide_eq_false c] at hv
      rcases List.mem_cons.mp m with rfl | m
      · exact absurd e c
      · exact ih hv nd.2 m
theorem wth_ok (B : BkW h b) {o : Pl} (ho : PlOk b o) : ∀ {w : Way} {q u : Pl}, PlOk b q → Pl.at? w q = some u → o.key = u.key → PlOk b (Pl.wth w q o) ∧ (Pl.wth w q o).key = q.key := by
  intro w
  induction w with
  | nil => intro q u z h e; cases h; exact ⟨ho, e⟩
  | cons p w ih =>
    intro q u z h e
    have zp := PlOk.zp B z
    obtain ⟨v, hv, hh⟩ := Option.bind_eq_some_iff.mp h
    clear h
    obtain ⟨k, ps⟩ := q
    cases z with
    | mk et r =>
      have nd := zp.nd _ (within_self _)
      dsimp only [Pl.puts] at hv nd
      rw [Pl.wth]
      refine ⟨.mk et (PutsOk.mapv r fun x mx => ?_), rfl⟩
      by_cases c : x.1 = p
      · rw [if_pos c]
        have ev := getN_uni hv nd mx c
        have hx : Pl.at? w x.2 = some u := by rw [ev]; exact hh
        obtain ⟨q1, q2⟩ := ih (r.each x mx) hx e
        exact ⟨rfl, q2, q1⟩
      · rw [if_neg c]
        exact ⟨rfl, rfl, r.each x mx⟩
end
theorem depL_map_le {f : List Nat × Pl → List Nat × Pl} {n : Nat} : ∀ {ps : List (List Nat × Pl)}, (∀ x ∈ ps, (f x).2.dep ≤ n) → Pl.depL (ps.map f) ≤ n
  | [], _ => by simp [Pl.depL]
  | x :: ps, k => by
    have h1 := k x (by simp)
    have h2 := depL_map_le (ps := ps) fun x m => k x (by simp [m])
    rw [List.map_cons, Pl.depL]
    have e1 : ∀ y : List Nat × Pl, Pl.depX y = y.2.dep := fun y => by obtain ⟨_, _⟩ := y; rfl
    rw [e1]
    exact Nat.max_le.mpr ⟨h1, h2⟩
theorem wth_dep (o : Pl) : ∀ (w : Way) (q : Pl), (Pl.wth w q o).dep ≤ max q.dep (w.length + o.dep)
  | [], q => by rw [Pl.wth, List.length_nil]; omega
  | p :: w, .mk k ps => by
    rw [Pl.wth, Pl.dep, Pl.dep, List.length_cons]
    have := depL_map_le (ps := ps) (f := fun x => if x.1 = p then (x.1, Pl.wth w x.2 o) else x) (n := max (Pl.depL ps) (w.length + o.dep)) fun x m => by
      have hd := depX_le (Nat.le_refl _) x m
      have := wth_dep o w x.2
      split
      · show (Pl.wth w x.2 o).dep ≤ _
        omega
      · omega
    omega
theorem sizeL_map_le {f : List Nat × Pl → List Nat × Pl} {n : Nat} {p : List Nat} : ∀ {ps : List (List Nat × Pl)}, (ps.map (·.1)).Nodup → (∀ x ∈ ps, if x.1 = p then (f x).2.size ≤ x.2.size + n else (f x).2.size = x.2.size) → Pl.sizeL (ps.map f) ≤ Pl.sizeL ps + n ∧ (p ∉ ps.map (·.1) → Pl.sizeL (ps.map f) = Pl.sizeL ps)
  | [], _, _ => by simp [Pl.sizeL]
  | x :: ps, nd, k => by
    rw [List.map_cons, List.nodup_cons] at nd
    have h1 := k x (by simp)
    obtain ⟨h2, h3⟩ := sizeL_map_le (p := p) (n := n) (f := f) nd.2 fun x m => k x (by simp [m])
    have e1 : ∀ y : List Nat × Pl, Pl.sizeX y = y.2.size := fun y => by obtain ⟨_, _⟩ := y; rfl
    rw [List.map_cons, Pl.sizeL, Pl.sizeL, e1, e1]
    by_cases c : x.1 = p
    · rw [if_pos c] at h1
      have h3 := h3 (by rw [← c]; exact nd.1)
      exact ⟨by omega, fun hn => absurd (by rw [List.map_cons, ← c]; simp) hn⟩
    · rw [if_neg c] at h1
      refine ⟨by omega, fun hn => ?_⟩
      have := h3 fun m => hn (by rw [List.map_cons]; simp [m])
      omega
theorem wth_size (o : Pl) : ∀ (w : Way) (q : Pl), Zp q → (Pl.wth w q o).size ≤ q.size + o.size
  | [], q, _ => by rw [Pl.wth]; omega
  | p :: w, .mk k ps, z => by
    rw [Pl.wth, Pl.size, Pl.size]
    have nd := z.nd _ (within_self _)
    have := (sizeL_map_le (ps := ps) (f := fun x => if x.1 = p then (x.1, Pl.wth w x.2 o) else x) (n := o.size) (p := p) nd fun x m => by
      by_cases c : x.1 = p
      · rw [if_pos c, if_pos c]
        exact wth_size o w x.2 (z.put m)
      · rw [if_neg c, if_neg c]).1
    omega
/-- the one at a way is as much less deep -/
theorem at_dep {w : Way} : ∀ {q r : Pl}, Pl.at? w q = some r → w.length + r.dep ≤ q.dep := by
  induction w with
  | nil => intro q r h; cases h; simp
  | cons p w ih =>
    intro q r h
    obtain ⟨v, hv, h⟩ := Option.bind_eq_some_iff.mp h
    have h1 := ih h
    obtain ⟨k, ps⟩ := q
    have h2 := depX_le (Nat.le_refl _) _ (getN_in hv)
    dsimp only [Pl.puts] at h2
    rw [Pl.dep, List.length_cons]
    omega
theorem at_size {w : Way} : ∀ {q r : Pl}, Pl.at? w q = some r → w.length + r.size ≤ q.size := by
  induction w with
  | nil => intro q r h; cases h; simp
  | cons p w ih =>
    intro q r h
    obtain ⟨v, hv, h⟩ := Option.bind_eq_some_iff.mp h
    have h1 := ih h
    obtain ⟨k, ps⟩ := q
    have h2 := sizeL_mem _ (getN_in hv)
    dsimp only [Pl.puts] at h2
    rw [Pl.size, List.length_cons]
    omega
theorem at_app {w v : Way} : ∀ {q r : Pl}, Pl.at? (w ++ v) q = some r ↔ ∃ u, Pl.at? w q = some u ∧ Pl.at? v u = some r := by
  induction w with
  | nil => intro q r; exact ⟨fun h => ⟨q, rfl, h⟩, fun ⟨u, h1, h2⟩ => by cases h1; exact h2⟩
  | cons p w ih =>
    intro q r
    constructor
    · intro h
      obtain ⟨x, hx, h⟩ := Option.bind_eq_some_iff.mp h
      obtain ⟨u, h1, h2⟩ := ih.mp h
      exact ⟨u, Option.bind_eq_some_iff.mpr ⟨x, hx, h1⟩, h2⟩
    · rintro ⟨u, h1, h2⟩
      obtain ⟨x, hx, h⟩ := Option.bind_eq_some_iff.mp h1
      exact Option.bind_eq_some_iff.mpr ⟨x, hx, ih.mpr ⟨u, h, h2⟩⟩
theorem turns_ok {h : Nat} {b : Bk} (B : BkW h b) {u last : Pl} {ring : Way} (hu : PlOk b u) (hr : Pl.at? ring u = some last) (hk : last.key = u.key) : ∀ t, PlOk b (turns u ring last t) ∧ (turns u ring last t).key = u.key ∧ (turns u ring last t).size ≤ last.size + t * u.size ∧ (turns u ring last t).dep ≤ (if t = 0 then last.dep else u.dep + (t - 1) * ring.length)
  | 0 => ⟨at_ok hu hr, hk, by rw [turns]; omega, by rw [turns, if_pos rfl]; omega⟩
  | t + 1 => by
    obtain ⟨h1, h2, h3, h4⟩ := turns_ok B hu hr hk t
    obtain ⟨q1, q2⟩ := wth_ok B h1 hu hr (h2.trans hk.symm)
    have q3 := wth_size (turns u ring last t) ring u (PlOk.zp B hu)
    have q4 := wth_dep (turns u ring last t) ring u
    have q5 := at_dep hr
    rw [turns]
    refine ⟨q1, q2, ?_, ?_⟩
    · rw [Nat.add_mul, Nat.one_mul]; omega
    · rw [if_neg (by omega), Nat.add_sub_cancel]
      by_cases c : t = 0
      · subst c
        rw [if_pos rfl] at h4
        omega
      · rw [if_neg c] at h4
        have : t * ring.length = (t - 1) * ring.length + ring.length := by
          obtain ⟨t', rfl⟩ : ∃ t', t = t' + 1 := ⟨t - 1, by omega⟩
          rw [Nat.add_sub_cancel, Nat.add_mul, Nat.one_mul]
        omega
theorem gone_plan {h : Nat} {b : Bk} (B : BkW h b) {q u last : Pl} {way ring : Way} (hq : PlOk b q) (hu : Pl.at? way q = some u) (hr : Pl.at? ring u = some last) (hk : last.key = u.key) (t : Nat) :
    PlOk b (Pl.wth way q (turns u ring last t)) ∧ (Pl.wth way q (turns u ring last t)).key = q.key ∧ (Pl.wth way q (turns u ring last t)).dep ≤ q.dep + (t - 1) * ring.length ∧ (Pl.wth way q (turns u ring last t)).size ≤ 2 * q.size + t * q.size := by
  obtain ⟨h1, h2, h3, h4⟩ := turns_ok B (at_ok hq hu) hr hk t
  obtain ⟨q1, q2⟩ := wth_ok B h1 hq hu h2
  have q3 := wth_size (turns u ring last t) way q (PlOk.zp B hq)
  have q4 := wth_dep (turns u ring last t) way q
  have d1 := at_dep hu
  have d2 := at_dep hr
  have s1 := at_size hu
  have s2 := at_size hr
  refine ⟨q1, q2, ?_, ?_⟩
  · by_cases c : t = 0
    · subst c
      rw [if_pos rfl] at h4
      omega
    · rw [if_neg c] at h4
      omega
  · have : t * u.size ≤ t * q.size := Nat.mul_le_mul_left _ (by omega)
    omega
end GZ
namespace GM
open PySem L2 GS
/-- _law_cell_at(script, k); slots 0:script 1:k -/
def m_law_cell_at : SF := (sSeq (sIf (eB (eBin (ltI fun i j => decide (i < j)) (eVb 1) (eCB (un1 lenD) (aCons (eVb 0) aNil)))) (sEnd (sRet (eBin ixA (eVb 0) (eVb 1)))) sNil) (sRet (eC (.int 0))))
theorem m_law_cell_at_eq (ρ : Rho) : fnF 2 2 (m_law_cell_at) ρ = finR 2 (m_law_cell_at (ρ ++ [])) := fnF_eq 2 2 _
/-- _law_cell(state); slots 0:state -/
def m_law_cell_2 (F__law_cell_at : FF) : SF := (sSeq (sAugI (fun i j => i + j) 0 (eC (.int 1)) (eC (.int 1))) (sEnd (sRet (eCall 2 none F__law_cell_at (aCons (eBin ixA (eVb 0) (eC (.int 0))) (aCons (eBin ixA (eVb 0) (eC (.int 1))) aNil))))))
theorem m_law_cell_2_eq (F__law_cell_at : FF) (ρ : Rho) : fnF 1 1 (m_law_cell_2 F__law_cell_at) ρ = finR 1 (m_law_cell_2 F__law_cell_at (ρ ++ [])) := fnF_eq 1 1 _
/-- _law_home(names, keys); slots 0:names 1:keys 2:top 3:may 4:inner 5:link 6:leaf 7:stem 8:wide 9:turn -/
def m_law_home : SF := (sSeq (sSet 2 (eBin ixA (eVb 0) (eC (.int 0)))) (sSeq (sSet 3 (eTup (aCons (eBin ixA (eVb 0) (eC (.int 1))) (aCons (eC (.bool false)) aNil)))) (sSeq (sSet 4 (eTup (aCons (eC (.str (Str.ofString "knot"))) (aCons (eBin ixA (eVb 0) (eC (.int 2))) (aCons (eMv 3) (aCons (eTup (aCons (eTup (aCons (eC (.str (Str.ofString "sign"))) (aCons (eC (.str (Str.ofString "ab"))) aNil))) aNil)) aNil)))))) (sSeq (sSet 5 (eTup (aCons (eC (.str (Str.ofString "knot"))) (aCons (eMv 2) (aCons (eMv 3) (aCons (eTup (aCons (eTup (aCons (eC (.str (Str.ofString "sign"))) (aCons (eC (.str (Str.ofString "a"))) aNil))) (aCons (eTup (aCons (eC (.str (Str.ofString "hole"))) (aCons (eMv 2) aNil))) (aCons (eMv 4) aNil)))) aNil)))))) (sSeq (sSet 6 (eTup (aCons (eC (.str (Str.ofString "knot"))) (aCons (eMv 2) (aCons (eMv 3) (aCons (eTup (aCons (eTup (aCons (eC (.str (Str.ofString "sign"))) (aCons (eC (.str (Str.ofString "b"))) aNil))) aNil)) aNil)))))) (sSeq (sSet 7 (eTup (aCons (eC (.str (Str.ofString "knot"))) (aCons (eBin ixA (eVb 0) (eC (.int 3))) (aCons (eMv 3) (aCons (eTup (aCons (eTup (aCons (eC (.str (Str.ofString "foot"))) (aCons (eBin ixA (eVb 0) (eC (.int 1))) aNil))) aNil)) aNil)))))) (sSeq (sSet 8 (eTup (aCons (eC (.str (Str.ofString "knot"))) (aCons (eBin ixA (eVb 0) (eC (.int 2))) (aCons (eMv 3) (aCons (eTup (aCons (eMv 7) (aCons (eTup (aCons (eC (.str (Str.ofString "sign"))) (aCons (eC (.str (Str.ofString "a"))) aNil))) aNil))) aNil)))))) (sSeq (sSet 9 (eTup (aCons (eC (.str (Str.ofString "knot"))) (aCons (eBin ixA (eVb 0) (eC (.int 3))) (aCons (eC .none) (aCons (eTup (aCons (eTup (aCons (eC (.str (Str.ofString "sign"))) (aCons (eC (.str (Str.ofString "b"))) aNil))) (aCons (eTup (aCons (eC (.str (Str.ofString "hole"))) (aCons (eMv 2) aNil))) (aCons (eTup (aCons (eC (.str (Str.ofString "foot"))) (aCons (eBin ixA (eVb 0) (eC (.int 1))) aNil))) aNil)))) aNil)))))) (sEnd (sRet (eTup (aCons (eMv 2) (aCons (eTup (aCons (eTup (aCons (eBin ixA (eVb 1) (eC (.int 0))) (aCons (eMv 5) aNil))) (aCons (eTup (aCons (eBin ixA (eVb 1) (eC (.int 1))) (aCons (eMv 6) aNil))) (aCons (eTup (aCons (eBin ixA (eVb 1) (eC (.int 2))) (aCons (eMv 8) aNil))) (aCons (eTup (aCons (eBin ixA (eVb 1) (eC (.int 3))) (aCons (eMv 9) aNil))) aNil))))) aNil)))))))))))))
theorem m_law_home_eq (ρ : Rho) : fnF 10 2 (m_law_home) ρ = finR 2 (m_law_home (ρ ++ [none, none, none, none, none, none, none, none])) := fnF_eq 10 2 _
/-- _law_may(state, keys, place, cell, left); slots 0:state 1:keys 2:place 3:cell 4:left -/
def m_law_may (F__law_graft : FF) : SF := (sSeq (sIf (eOr (eB (eBin (eqB false) (eVb 4) (eC (.int 0)))) (eOr (eB (eBin (ltI fun i j => decide (j < i)) (eBin ixA (eVb 0) (eC (.int 2))) (eC (.int 8)))) (eB (eBin (eqB true) (eBin modD (eVb 3) (eC (.int 3))) (eC (.int 1)))))) (sEnd (sRet (eLst aNil))) sNil) (sEnd (sRet (eLst (aCons (eTup (aCons (eMv 2) (aCons (eCall 3 (some 0) F__law_graft (aCons (eVb 0) (aCons (eMv 1) (aCons (eBin subD (eVb 4) (eC (.int 1))) aNil)))) aNil))) aNil)))))
theorem m_law_may_eq (F__law_graft : FF) (ρ : Rho) : fnF 5 5 (m_law_may F__law_graft) ρ = finR 5 (m_law_may F__law_graft (ρ ++ [])) := fnF_eq 5 5 _
/-- _law_start(state, keys, left); slots 0:state 1:keys 2:left 3:cell 4:puts -/
def m_law_start (F__law_may F__law_start F__law_cell : FF) : SF := (sSeq (sAugI (fun i j => i + j) 0 (eC (.int 2)) (eC (.int 1))) (sSeq (sSet 3 (eCall 1 (some 0) F__law_cell (aCons (eVb 0) aNil))) (sSeq (sSet 4 (eCall 5 (some 0) F__law_may (aCons (eVb 0) (aCons (eMv 1) (aCons (eTup aNil) (aCons (eMv 3) (aCons (eMv 2) aNil))))))) (sSeq (sIf (eOr (eB (eBin (eqB false) (eVb 2) (eC (.int 0)))) (eOr (eB (eBin (ltI fun i j => decide (j < i)) (eBin ixA (eVb 0) (eC (.int 2))) (eC (.int 8)))) (eB (eBin (eqB false) (eBin modD (eBin divD (eVb 3) (eC (.int 3))) (eC (.int 3))) (eC (.int 0)))))) (sEnd (sRet (eTup (aCons (eBin ixA (eVb 1) (eC (.int 1))) (aCons (eCB (un1 tupleD) (aCons (eVb 4) aNil)) aNil))))) sNil) (sSeq (sApp 4 (eTup (aCons (eTup (aCons (eC (.int 1)) aNil)) (aCons (eCall 3 (some 0) F__law_start (aCons (eVb 0) (aCons (eMv 1) (aCons (eBin subD (eVb 2) (eC (.int 1))) aNil)))) aNil)))) (sSeq (sExt 4 (eCall 5 (some 0) F__law_may (aCons (eVb 0) (aCons (eMv 1) (aCons (eTup (aCons (eC (.int 2)) aNil)) (aCons (eBin divD (eVb 3) (eC (.int 9))) (aCons (eMv 2) aNil))))))) (sEnd (sRet (eTup (aCons (eBin ixA (eVb 1) (eC (.int 0))) (aCons (eCB (un1 tupleD) (aCons (eVb 4) aNil)) aNil)))))))))))
theorem m_law_start_eq (F__law_may F__law_start F__law_cell : FF) (ρ : Rho) : fnF 5 3 (m_law_start F__law_may F__law_start F__law_cell) ρ = finR 3 (m_law_start F__law_may F__law_start F__law_cell (ρ ++ [none, none])) := fnF_eq 5 3 _
/-- _law_graft(state, keys, left); slots 0:state 1:keys 2:left 3:cell 4:puts -/
def m_law_graft (F__law_may F__law_start F__law_cell : FF) : SF := (sSeq (sAugI (fun i j => i + j) 0 (eC (.int 2)) (eC (.int 1))) (sSeq (sSet 3 (eCall 1 (some 0) F__law_cell (aCons (eVb 0) aNil))) (sSeq (sIf (eAnd (eB (eBin (eqB false) (eBin modD (eVb 3) (eC (.int 3))) (eC (.int 1)))) (eAnd (eB (eBin (ltI fun i j => decide (j < i)) (eVb 2) (eC (.int 0)))) (eB (eBin (ltI fun i j => decide (i ≤ j)) (eBin ixA (eVb 0) (eC (.int 2))) (eC (.int 8)))))) (sEnd (sRet (eTup (aCons (eBin ixA (eVb 1) (eC (.int 3))) (aCons (eTup (aCons (eTup (aCons (eTup (aCons (eC (.int 1)) aNil)) (aCons (eCall 3 (some 0) F__law_start (aCons (eVb 0) (aCons (eMv 1) (aCons (eBin subD (eVb 2) (eC (.int 1))) aNil)))) aNil))) aNil)) aNil))))) sNil) (sSeq (sSet 4 (eCall 5 (some 0) F__law_may (aCons (eVb 0) (aCons (eMv 1) (aCons (eTup aNil) (aCons (eBin divD (eVb 3) (eC (.int 3))) (aCons (eMv 2) aNil))))))) (sSeq (sExt 4 (eCall 5 (some 0) F__law_may (aCons (eVb 0) (aCons (eMv 1) (aCons (eTup (aCons (eC (.int 0)) aNil)) (aCons (eBin divD (eVb 3) (eC (.int 9))) (aCons (eMv 2) aNil))))))) (sEnd (sRet (eTup (aCons (eBin ixA (eVb 1) (eC (.int 2))) (aCons (eCB (un1 tupleD) (aCons (eVb 4) aNil)) aNil))))))))))
theorem m_law_graft_eq (F__law_may F__law_start F__law_cell : FF) (ρ : Rho) : fnF 5 3 (m_law_graft F__law_may F__law_start F__law_cell) ρ = finR 3 (m_law_graft F__law_may F__law_start F__law_cell (ρ ++ [none, none])) := fnF_eq 5 3 _
end GM
namespace GZ
open PySem L2 GS GM
def CAtSp (F : FF) : Prop := ∀ (ns : List Int) (k : Nat), ∃ c : Int, F [some ⟨.list (ns.map .int), .sh⟩, some ⟨.int k, .sh⟩] = .ok (.sh (.int c)) [none, none]
theorem law_cell_at_ok : CAtSp (fnF 2 2 m_law_cell_at) := fun ns k => by
  rw [m_law_cell_at_eq]
  by_cases h : k < ns.length
  · have h' : k < (ns.map PyData.int).length := by simpa using h
    have e : atI (ns.map PyData.int) (k : Int) = some (.int ns[k]) := by
      have e := atI_get (xs := ns.map PyData.int) (i := (k : Int)) (n := k) rfl h'
      rw [e]
      simp
    have c : ((k : Int) < (ns.length : Int)) := by omega
    exact ⟨ns[k], by simp [m_law_cell_at, c, e]⟩
  · have c : ¬ ((k : Int) < (ns.length : Int)) := by omega
    exact ⟨0, by simp [m_law_cell_at, c]⟩
/-- the state of the drawing -/
def st3 (ns : List Int) (i c : Nat) : D := .list [.list (ns.map .int), .int (i : Int), .int (c : Int)]
def Cell2Sp (F : FF) : Prop := ∀ (ns : List Int) (i c : Nat), ∃ x : Int, F [some ⟨st3 ns i c, .io⟩] = .ok (.sh (.int x)) [some ⟨st3 ns (i + 1) c, .io⟩]
section
variable {Fa : FF}
theorem law_cell_2_ok (ha : CAtSp Fa) : Cell2Sp (fnF 1 1 (m_law_cell_2 Fa)) := fun ns i c => by
  rw [m_law_cell_2_eq]
  obtain ⟨x, e⟩ := ha ns (i + 1)
  have em : (((i + 1 : Nat) : Int)) = (i : Int) + 1 := by omega
  rw [em] at e
  refine ⟨x, ?_⟩
  unfold st3
  rw [em]
  generalize ns.map PyData.int = nl at e ⊢
  have n1 : ixN 3 (1 : Int) = some 1 := rfl
  simp [m_law_cell_2, n1, e]
end
def A1 : Str := Str.ofString "a"
def B1 : Str := Str.ofString "b"
def AB : Str := Str.ofString "ab"
structure Nm4 where
  n0 : Str
  n1 : Str
  n2 : Str
  n3 : Str
structure Ky4 where
  k0 : Str
  k1 : Str
  k2 : Str
  k3 : Str
def innerT (n : Nm4) : Tr := .knot n.n2 (some (n.n1, false)) [.sign AB]
def linkT (n : Nm4) : Tr := .knot n.n0 (some (n.n1, false)) [.sign A1, .hole n.n0, innerT n]
def leafT (n : Nm4) : Tr := .knot n.n0 (some (n.n1, false)) [.sign B1]
def stemT (n : Nm4) : Tr := .knot n.n3 (some (n.n1, false)) [.foot n.n1]
def wideT (n : Nm4) : Tr := .knot n.n2 (some (n.n1, false)) [stemT n, .sign A1]
def turnT (n : Nm4) : Tr := .knot n.n3 none [.sign B1, .hole n.n0, .foot n.n1]
def homeB (n : Nm4) (k : Ky4) : Bk := ⟨n.n0, [(k.k0, linkT n), (k.k1, leafT n), (k.k2, wideT n), (k.k3, turnT n)]⟩
structure OkKy (k : Ky4) : Prop where
  nd : [k.k0, k.k1, k.k2, k.k3].Nodup
  so : ∀ z ∈ [k.k0, k.k1, k.k2, k.k3], PyData.strOk z = true
def HomeSp (F : FF) : Prop := ∀ (n : Nm4) (k : Ky4) (r : List D), F [some ⟨.list (.str n.n0 :: .str n.n1 :: .str n.n2 :: .str n.n3 :: r), .sh⟩, some ⟨.list [.str k.k0, .str k.k1, .str k.k2, .str k.k3], .sh⟩] = .ok (.sh (homeB n k).enc) [none, none]
theorem law_home_ok : HomeSp (fnF 10 2 m_law_home) := fun n k r => by
  rw [m_law_home_eq]
  simp [m_law_home, homeB, Bk.enc, encKT, linkT, leafT, wideT, turnT, innerT, stemT, Tr.enc, encTk, A1, B1, AB, Tr.encL]
section
variable {n : Nm4} {k : Ky4}
theorem home_tree (K : OkKy k) : (homeB n k).treeOf k.k0 = some (linkT n) ∧ (homeB n k).treeOf k.k1 = some (leafT n) ∧ (homeB n k).treeOf k.k2 = some (wideT n) ∧ (homeB n k).treeOf k.k3 = some (turnT n) := by
  obtain ⟨h01, h02, h03, h12, h13, h23⟩ : k.k0 ≠ k.k1 ∧ k.k0 ≠ k.k2 ∧ k.k0 ≠ k.k3 ∧ k.k1 ≠ k.k2 ∧ k.k1 ≠ k.k3 ∧ k.k2 ≠ k.k3 := by
    have := K.nd
    simp only [List.nodup_cons, List.mem_cons, not_or, List.not_mem_nil, not_false_eq_true, and_true, List.nodup_nil] at this
    obtain ⟨⟨a, b, c⟩, ⟨d, e⟩, f⟩ := this
    exact ⟨a, b, c, d, e, f⟩
  refine ⟨?_, ?_, ?_, ?_⟩ <;> simp [Bk.treeOf, homeB, *, Ne.symm h01, Ne.symm h02, Ne.symm h03, Ne.symm h12, Ne.symm h13, Ne.symm h23]
theorem home_feet : (linkT n).feet = [] ∧ (leafT n).feet = [] ∧ (wideT n).feet = [n.n1] ∧ (turnT n).feet = [n.n1] := by
  refine ⟨?_, ?_, ?_, ?_⟩ <;> simp [linkT, leafT, wideT, turnT, innerT, stemT, Tr.feet, Tr.pieces, Tr.piecesL, Tr.footN, List.filterMap_cons]
theorem home_starts (u : Tr) (c : Bool) (hu : u.want = some (false, n.n0, c)) : (homeB n k).takers u = [k.k0, k.k1] := by
  obtain ⟨f1, f2, f3, f4⟩ := home_feet (n := n)
  unfold Bk.takers
  rw [hu]
  have w1 : (linkT n).word = n.n0 := rfl
  have w2 : (leafT n).word = n.n0 := rfl
  simp [homeB, Tr.isGraft, Tr.name, f1, f2, f3, f4, w1, w2]
theorem home_grafts (u : Tr) (c : Bool) (hu : u.want = some (true, n.n1, c)) : (homeB n k).takers u = [k.k2, k.k3] := by
  obtain ⟨f1, f2, f3, f4⟩ := home_feet (n := n)
  unfold Bk.takers
  rw [hu]
  simp [homeB, Tr.isGraft, Tr.name, f1, f2, f3, f4]
theorem home_w : BkW 2 (homeB n k) ↔ ([k.k0, k.k1, k.k2, k.k3]).Nodup := by
  obtain ⟨f1, f2, f3, f4⟩ := home_feet (n := n)
  constructor
  · intro B; exact B.nd
  · intro nd
    refine ⟨nd, fun p m => ?_, fun p m => ?_, fun p m => ?_⟩
    all_goals
      simp [homeB] at m
      rcases m with rfl | rfl | rfl | rfl
    all_goals first | (dsimp only; simp only [f1, f2, f3, f4]; simp; done) | (simp [linkT, leafT, wideT, turnT, innerT, stemT, Tr.ht, Tr.htL]; done) | (simp [linkT, leafT, wideT, turnT, innerT, stemT, Tr.pieces, Tr.piecesL]; done)
end
end GZ
namespace GZ
open PySem L2 GS GM
def kyD (k : Ky4) : D := .list [.str k.k0, .str k.k1, .str k.k2, .str k.k3]
theorem ky_at (k : Ky4) : ixA (kyD k) (.int 0) = some (.sh (.str k.k0)) ∧ ixA (kyD k) (.int 1) = some (.sh (.str k.k1)) ∧ ixA (kyD k) (.int 2) = some (.sh (.str k.k2)) ∧ ixA (kyD k) (.int 3) = some (.sh (.str k.k3)) := by
  refine ⟨?_, ?_, ?_, ?_⟩ <;> simp [kyD]
theorem st3_at (ns : List Int) (i c : Nat) : ixA (st3 ns i c) (.int 2) = some (.sh (.int c)) := by simp [st3]
theorem aug2 {ρ : Rho} (ns : List Int) (i c : Nat) : sAugI (fun i j => i + j) 0 (eC (.int 2)) (eC (.int 1)) (some ⟨st3 ns i c, .io⟩ :: ρ) = .nx (some ⟨st3 ns i (c + 1), .io⟩ :: ρ) := by
  have em : (((c + 1 : Nat) : Int)) = (c : Int) + 1 := by omega
  unfold st3
  rw [em]
  have n1 : ixN 3 (2 : Int) = some 2 := rfl
  simp [n1]
structure DrQ (n : Nm4) (k : Ky4) (l : Nat) (g : Bool) (q : Pl) : Prop where
  ok : PlOk (homeB n k) q
  key : if g then q.key = k.k2 ∨ q.key = k.k3 else q.key = k.k0 ∨ q.key = k.k1
  dep : q.dep ≤ l + 1
  sz : q.size ≤ 4 ^ (l + 1)
def Gen (g : Bool) (l : Nat) (F : FF) : Prop := ∀ (n : Nm4) (k : Ky4) (ns : List Int) (i c : Nat), OkKy k → ∃ (q : Pl) (i' c' : Nat), F [some ⟨st3 ns i c, .io⟩, some ⟨kyD k, .sh⟩, some ⟨.int l, .sh⟩] = .ok (.sh q.enc) [some ⟨st3 ns i' c', .io⟩, none, none] ∧ DrQ n k l g q
/-- nothing, or one graft -/
def MayP (n : Nm4) (k : Ky4) (l : Nat) (p : List Nat) (ps : List (List Nat × Pl)) : Prop := ps = [] ∨ ∃ q m, ps = [(p, q)] ∧ m + 1 = l ∧ DrQ n k m true q
def MayGen (l : Nat) (F : FF) : Prop := ∀ (n : Nm4) (k : Ky4) (ns : List Int) (i c : Nat) (p : List Nat) (x : Int), OkKy k → ∃ (ps : List (List Nat × Pl)) (i' c' : Nat), F [some ⟨st3 ns i c, .io⟩, some ⟨kyD k, .sh⟩, some ⟨encP p, .sh⟩, some ⟨.int x, .sh⟩, some ⟨.int l, .sh⟩] = .ok (.fr (.list (ps.map Pl.encX))) [some ⟨st3 ns i' c', .io⟩, none, none, none, none] ∧ MayP n k l p ps
section
variable {n : Nm4} {k : Ky4} {l : Nat}
theorem MayP.puts {p : List Nat} {ps rest : List (List Nat × Pl)} (h : MayP n k l p ps) {u : Tr} (hu : u.want = some (true, n.n1, false)) {us : List (List Nat × Tr)} (r : PutsOk (homeB n k) us rest) : PutsOk (homeB n k) ((p, u) :: us) (ps ++ rest) := by
  have hm : u.must = false := by unfold Tr.must; rw [hu]
  rcases h with rfl | ⟨q, m, rfl, _, Q⟩
  · exact .skip hm r
  · refine .put ?_ Q.ok r
    rw [home_grafts u false hu]
    have := Q.key
    rw [if_pos rfl] at this
    rcases this with e | e <;> simp [e]
theorem MayP.sz {p : List Nat} {ps : List (List Nat × Pl)} (h : MayP n k l p ps) : ps.length ≤ 1 ∧ Pl.sizeL ps ≤ 4 ^ l ∧ Pl.depL ps ≤ l := by
  rcases h with rfl | ⟨q, m, rfl, rfl, Q⟩
  · simp [Pl.sizeL, Pl.depL]
  · have h1 := Q.sz
    have h2 := Q.dep
    simp only [Pl.sizeL, Pl.sizeX, Pl.depL, Pl.depX, List.length_singleton]
    omega
theorem sizeL_app (a c : List (List Nat × Pl)) : Pl.sizeL (a ++ c) = Pl.sizeL a + Pl.sizeL c := by
  induction a with
  | nil => simp [Pl.sizeL]
  | cons x a ih => rw [List.cons_append, Pl.sizeL, Pl.sizeL, ih]; omega
theorem depL_app (a c : List (List Nat × Pl)) : Pl.depL (a ++ c) = max (Pl.depL a) (Pl.depL c) := by
  induction a with
  | nil => simp [Pl.depL]
  | cons x a ih => rw [List.cons_append, Pl.depL, Pl.depL, ih]; omega
end
section
variable {Fg Fs Fm Fc : FF}
theorem law_may_ok {l : Nat} (hg : ∀ m, m + 1 = l → Gen true m Fg) : MayGen l (fnF 5 5 (m_law_may Fg)) := fun n k ns i c p x K => by
  rw [m_law_may_eq]
  have s2 := st3_at ns i c
  by_cases c1 : l = 0
  · subst c1
    refine ⟨[], i, c, ?_, .inl rfl⟩
    simp [m_law_may]
  · have c1' : ¬ ((l : Int) = 0) := by omega
    by_cases c2 : c > 8
    · have c2' : (8 : Int) < (c : Int) := by omega
      refine ⟨[], i, c, ?_, .inl rfl⟩
      simp [m_law_may, c1, c1', s2, c2']
    · have c2' : ¬ ((8 : Int) < (c : Int)) := by omega
      by_cases c3 : x % 3 = 1
      · obtain ⟨q, i', c', e, Q⟩ := hg (l - 1) (by omega) n k ns i c K
        have el : (((l - 1 : Nat) : Int)) = (l : Int) - 1 := by omega
        rw [el] at e
        refine ⟨[(p, q)], i', c', ?_, .inr ⟨q, l - 1, rfl, by omega, Q⟩⟩
        rw [List.map_cons, List.map_nil, pencX_eq]
        dsimp only
        generalize q.enc = qe at e ⊢
        generalize encP p = pe
        generalize kyD k = kd at e ⊢
        generalize st3 ns i' c' = s' at e ⊢
        generalize st3 ns i c = s at e s2 ⊢
        simp [m_law_may, c1, c1', s2, c2', c3, e]
      · refine ⟨[], i, c, ?_, .inl rfl⟩
        simp [m_law_may, c1, c1', s2, c2', c3]
theorem pow4 (l : Nat) : 4 ^ (l + 1) = 4 * 4 ^ l := by rw [Nat.pow_succ]; omega
theorem pow4_pos (l : Nat) : 1 ≤ 4 ^ l := Nat.one_le_pow _ _ (by omega)
theorem law_start_ok {l : Nat} (hm : MayGen l Fm) (hs : ∀ m, m + 1 = l → Gen false m Fs) (hc : Cell2Sp Fc) : Gen false l (fnF 5 3 (m_law_start Fm Fs Fc)) := fun n k ns i c K => by
  rw [m_law_start_eq]
  obtain ⟨x, e1⟩ := hc ns i (c + 1)
  obtain ⟨ps1, i2, c2, e2, M1⟩ := hm n k ns (i + 1) (c + 1) [] x K
  have s2 := st3_at ns i2 c2
  obtain ⟨k0, k1, _, _⟩ := ky_at k
  obtain ⟨t0, t1, _, _⟩ := home_tree (n := n) K
  obtain ⟨z1, z2, z3⟩ := M1.sz
  have e2 : Fm [some ⟨st3 ns (i + 1) (c + 1), .io⟩, some ⟨kyD k, .sh⟩, some ⟨.tuple [], .sh⟩, some ⟨.int x, .sh⟩, some ⟨.int l, .sh⟩] = .ok (.fr (.list (ps1.map Pl.encX))) [some ⟨st3 ns i2 c2, .io⟩, none, none, none, none] := e2
  by_cases c0 : l = 0 ∨ c2 > 8 ∨ x / 3 % 3 = 0
  · -- no more
    have Q : PlOk (homeB n k) (.mk k.k1 ps1) := by
      refine .mk t1 ?_
      have := M1.puts (u := leafT n) rfl (us := [([0], .sign B1)]) (rest := []) (.skip rfl .nil)
      rw [List.append_nil] at this
      exact this
    refine ⟨.mk k.k1 ps1, i2, c2, ?_, ⟨Q, .inr rfl, by rw [Pl.dep]; omega, by rw [Pl.size, pow4]; have := pow4_pos l; omega⟩⟩
    have ee := penc_eq (.mk k.k1 ps1)
    dsimp only [Pl.key, Pl.puts] at ee
    rw [ee]
    generalize ps1.map Pl.encX = pe at e2 ⊢
    have a2 := fun ρ => aug2 (ρ := ρ) ns i c
    generalize kyD k = kd at e2 k1 ⊢
    generalize st3 ns i2 c2 = sB at e2 s2 ⊢
    generalize st3 ns (i + 1) (c + 1) = sA at e1 e2
    generalize st3 ns i (c + 1) = s1 at e1 a2
    unfold m_law_start
    refine fin_seq _ (a2 [some ⟨kd, .sh⟩, some ⟨.int l, .sh⟩, none, none]) ?_
    by_cases q1 : l = 0
    · have q1z : (l : Int) = 0 := by omega
      rw [q1z] at e2 ⊢
      simp [e1, e2, k1]
    · have q1' : ¬ ((l : Int) = 0) := by omega
      by_cases q2 : c2 > 8
      · have q2' : (8 : Int) < (c2 : Int) := by omega
        simp [e1, e2, q1, q1', s2, q2', k1]
      · have q2' : ¬ ((8 : Int) < (c2 : Int)) := by omega
        have q3 : x / 3 % 3 = 0 := by omega
        simp [e1, e2, q1, q1', s2, q2', q3, k1]
  · obtain ⟨q1, q2, q3⟩ : ¬ l = 0 ∧ ¬ c2 > 8 ∧ ¬ x / 3 % 3 = 0 := by omega
    have q1' : ¬ ((l : Int) = 0) := by omega
    have q2' : ¬ ((8 : Int) < (c2 : Int)) := by omega
    obtain ⟨v, i3, c3, e3, V⟩ := hs (l - 1) (by omega) n k ns i2 c2 K
    obtain ⟨ps3, i4, c4, e4, M3⟩ := hm n k ns i3 c3 [2] (x / 9) K
    obtain ⟨y1, y2, y3⟩ := M3.sz
    have el : (((l - 1 : Nat) : Int)) = (l : Int) - 1 := by omega
    rw [el] at e3
    have e4 : Fm [some ⟨st3 ns i3 c3, .io⟩, some ⟨kyD k, .sh⟩, some ⟨.tuple [.int 2], .sh⟩, some ⟨.int (x / 9), .sh⟩, some ⟨.int l, .sh⟩] = .ok (.fr (.list (ps3.map Pl.encX))) [some ⟨st3 ns i4 c4, .io⟩, none, none, none, none] := e4
    have hV := V.sz
    have dV := V.dep
    have kV := V.key
    rw [if_neg (by simp)] at kV
    have Q : PlOk (homeB n k) (.mk k.k0 (ps1 ++ (([1], v) :: ps3))) := by
      refine .mk t0 ?_
      refine M1.puts (u := linkT n) rfl (.skip (p := [0]) (u := .sign A1) rfl (.put (p := [1]) (u := .hole n.n0) ?_ V.ok ?_))
      · rw [home_starts _ true rfl]
        rcases kV with e | e <;> simp [e]
      · have := M3.puts (u := innerT n) rfl (us := [([2, 0], .sign AB)]) (rest := []) (.skip rfl .nil)
        rw [List.append_nil] at this
        exact this
    have pl : 4 ^ (l - 1 + 1) = 4 ^ l := by congr 1; omega
    rw [pl] at hV
    refine ⟨.mk k.k0 (ps1 ++ (([1], v) :: ps3)), i4, c4, ?_, ⟨Q, .inl rfl, ?_, ?_⟩⟩
    · have ee := penc_eq (.mk k.k0 (ps1 ++ (([1], v) :: ps3)))
      dsimp only [Pl.key, Pl.puts] at ee
      rw [ee, List.map_append, List.map_cons, pencX_eq]
      dsimp only
      have ep : encP [1] = .tuple [.int 1] := rfl
      rw [ep]
      have lp1 : (ps1.map Pl.encX).length ≤ 1 := by rw [List.length_map]; exact z1
      have lp3 : (ps3.map Pl.encX).length ≤ 1 := by rw [List.length_map]; exact y1
      generalize ps1.map Pl.encX = pe at e2 lp1 ⊢
      generalize ps3.map Pl.encX = pe3 at e4 lp3 ⊢
      have a2 := fun ρ => aug2 (ρ := ρ) ns i c
      have w1 : pe.length < sizeLine := fitsl (by omega)
      have w2 : pe.length + 1 + pe3.length ≤ sizeLine := fits (by omega)
      generalize v.enc = ve at e3 ⊢
      generalize kyD k = kd at e2 e3 e4 k0 ⊢
      generalize st3 ns i4 c4 = sD at e4 ⊢
      generalize st3 ns i3 c3 = sC at e3 e4
      generalize st3 ns i2 c2 = sB at e2 e3 s2 ⊢
      generalize st3 ns (i + 1) (c + 1) = sA at e1 e2
      generalize st3 ns i (c + 1) = s1 at e1 a2
      unfold m_law_start
      refine fin_seq _ (a2 [some ⟨kd, .sh⟩, some ⟨.int l, .sh⟩, none, none]) ?_
      simp [e1, e2, e3, e4, q1, q1', s2, q2', q3, k0, w1, w2]
    · rw [Pl.dep, depL_app, Pl.depL, Pl.depX]; omega
    · rw [Pl.size, sizeL_app, Pl.sizeL, Pl.sizeX, pow4]
      have := pow4_pos l
      omega
theorem law_graft_ok {l : Nat} (hm : MayGen l Fm) (hs : ∀ m, m + 1 = l → Gen false m Fs) (hc : Cell2Sp Fc) : Gen true l (fnF 5 3 (m_law_graft Fm Fs Fc)) := fun n k ns i c K => by
  rw [m_law_graft_eq]
  obtain ⟨x, e1⟩ := hc ns i (c + 1)
  have s2 := st3_at ns (i + 1) (c + 1)
  obtain ⟨_, _, k2, k3⟩ := ky_at k
  obtain ⟨_, _, t2, t3⟩ := home_tree (n := n) K
  have a2 := fun ρ => aug2 (ρ := ρ) ns i c
  by_cases c0 : x % 3 = 1 ∧ 0 < l ∧ c + 1 ≤ 8
  · obtain ⟨q1, q2, q3⟩ := c0
    obtain ⟨v, i3, c3, e3, V⟩ := hs (l - 1) (by omega) n k ns (i + 1) (c + 1) K
    have el : (((l - 1 : Nat) : Int)) = (l : Int) - 1 := by omega
    rw [el] at e3
    have hV := V.sz
    have dV := V.dep
    have kV := V.key
    rw [if_neg (by simp)] at kV
    have Q : PlOk (homeB n k) (.mk k.k3 [([1], v)]) := by
      refine .mk t3 (.skip (p := []) (u := turnT n) rfl (.skip (p := [0]) (u := .sign B1) rfl (.put (p := [1]) (u := .hole n.n0) ?_ V.ok (.skip (p := [2]) (u := .foot n.n1) rfl .nil))))
      rw [home_starts _ true rfl]
      rcases kV with e | e <;> simp [e]
    have pl : 4 ^ (l - 1 + 1) = 4 ^ l := by congr 1; omega
    rw [pl] at hV
    refine ⟨.mk k.k3 [([1], v)], i3, c3, ?_, ⟨Q, .inr rfl, by rw [Pl.dep, Pl.depL, Pl.depX, Pl.depL]; omega, by rw [Pl.size, Pl.sizeL, Pl.sizeX, Pl.sizeL, pow4]; have := pow4_pos l; omega⟩⟩
    have ee := penc_eq (.mk k.k3 [([1], v)])
    dsimp only [Pl.key, Pl.puts] at ee
    rw [ee, List.map_cons, List.map_nil, pencX_eq]
    dsimp only
    have ep : encP [1] = .tuple [.int 1] := rfl
    rw [ep]
    have q2' : (0 : Int) < (l : Int) := by omega
    have q3' : ((c + 1 : Nat) : Int) ≤ 8 := by omega
    generalize ((c + 1 : Nat) : Int) = cc at s2 q3'
    generalize v.enc = ve at e3 ⊢
    generalize kyD k = kd at e3 k3 ⊢
    generalize st3 ns i3 c3 = sC at e3 ⊢
    generalize st3 ns (i + 1) (c + 1) = sA at e1 e3 s2
    generalize st3 ns i (c + 1) = s1 at e1 a2
    unfold m_law_graft
    refine fin_seq _ (a2 [some ⟨kd, .sh⟩, some ⟨.int l, .sh⟩, none, none]) ?_
    simp [e1, e3, q1, q2, q2', q3', s2, k3]
  · obtain ⟨ps1, i2, c2, e2, M1⟩ := hm n k ns (i + 1) (c + 1) [] (x / 3) K
    obtain ⟨ps3, i4, c4, e4, M3⟩ := hm n k ns i2 c2 [0] (x / 9) K
    obtain ⟨z1, z2, z3⟩ := M1.sz
    obtain ⟨y1, y2, y3⟩ := M3.sz
    have e2 : Fm [some ⟨st3 ns (i + 1) (c + 1), .io⟩, some ⟨kyD k, .sh⟩, some ⟨.tuple [], .sh⟩, some ⟨.int (x / 3), .sh⟩, some ⟨.int l, .sh⟩] = .ok (.fr (.list (ps1.map Pl.encX))) [some ⟨st3 ns i2 c2, .io⟩, none, none, none, none] := e2
    have e4 : Fm [some ⟨st3 ns i2 c2, .io⟩, some ⟨kyD k, .sh⟩, some ⟨.tuple [.int 0], .sh⟩, some ⟨.int (x / 9), .sh⟩, some ⟨.int l, .sh⟩] = .ok (.fr (.list (ps3.map Pl.encX))) [some ⟨st3 ns i4 c4, .io⟩, none, none, none, none] := e4
    have Q : PlOk (homeB n k) (.mk k.k2 (ps1 ++ ps3)) := by
      refine .mk t2 (M1.puts (u := wideT n) rfl ?_)
      have := M3.puts (u := stemT n) rfl (us := [([0, 0], .foot n.n1), ([1], .sign A1)]) (rest := []) (.skip rfl (.skip rfl .nil))
      rw [List.append_nil] at this
      exact this
    refine ⟨.mk k.k2 (ps1 ++ ps3), i4, c4, ?_, ⟨Q, .inl rfl, by rw [Pl.dep, depL_app]; omega, by rw [Pl.size, sizeL_app, pow4]; have := pow4_pos l; omega⟩⟩
    have ee := penc_eq (.mk k.k2 (ps1 ++ ps3))
    dsimp only [Pl.key, Pl.puts] at ee
    rw [ee, List.map_append]
    have lp1 : (ps1.map Pl.encX).length ≤ 1 := by rw [List.length_map]; exact z1
    have lp3 : (ps3.map Pl.encX).length ≤ 1 := by rw [List.length_map]; exact y1
    generalize ps1.map Pl.encX = pe at e2 lp1 ⊢
    generalize ps3.map Pl.encX = pe3 at e4 lp3 ⊢
    have w2 : pe.length + pe3.length ≤ sizeLine := fits (by omega)
    generalize kyD k = kd at e2 e4 k2 ⊢
    generalize st3 ns i4 c4 = sD at e4 ⊢
    generalize st3 ns i2 c2 = sB at e2 e4
    have c0' : ¬ (x % 3 = 1 ∧ (0 : Int) < (l : Int) ∧ ((c + 1 : Nat) : Int) ≤ 8) := fun z => c0 (by omega)
    generalize ((c + 1 : Nat) : Int) = cc at s2 c0'
    generalize st3 ns (i + 1) (c + 1) = sA at e1 e2 s2
    generalize st3 ns i (c + 1) = s1 at e1 a2
    unfold m_law_graft
    refine fin_seq _ (a2 [some ⟨kd, .sh⟩, some ⟨.int l, .sh⟩, none, none]) ?_
    by_cases q1 : x % 3 = 1
    · by_cases q2 : (0 : Int) < (l : Int)
      · have q3 : ¬ cc ≤ 8 := fun z => c0' ⟨q1, q2, z⟩
        simp [e1, e2, e4, q1, q2, q3, s2, k2, w2]
      · have q2n : ¬ 0 < l := by omega
        simp [e1, e2, e4, q1, q2, q2n, s2, k2, w2]
    · simp [e1, e2, e4, q1, s2, k2, w2]
end
end GZ
namespace GM
open PySem L2 GS
/-- _law_pairs(plan); slots 0:plan 1:found 2:pairs 3:way 4:outer 5:more 6:inner -/
def m_law_pairs_2_b1 (F__law_ways : FF) : SF := (sKill [5, 6] (sIf (eAnd (eB (eBin (ltI fun i j => decide (j < i)) (eCB (un1 lenD) (aCons (eVb 5) aNil)) (eCB (un1 lenD) (aCons (eVb 3) aNil)))) (eAnd (eB (eBin (eqB false) (eSl (eVb 5) none (some (eCB (un1 lenD) (aCons (eVb 3) aNil)))) (eVb 3))) (eB (eBin (eqB false) (eBin ixA (eVb 6) (eC (.int 0))) (eBin ixA (eVb 4) (eC (.int 0))))))) (sApp 2 (eTup (aCons (eMv 3) (aCons (eSl (eVb 5) (some (eCB (un1 lenD) (aCons (eVb 3) aNil))) none) (aCons (eMv 4) (aCons (eMv 6) aNil)))))) sNil))
def m_law_pairs_2_b2 (F__law_ways : FF) : SF := (sKill [3, 4, 5, 6] (sFor (iSq (eMv 1)) (gT 2 (gsC (gN 5) (gsC (gN 6) gsN))) (m_law_pairs_2_b1 F__law_ways)))
def m_law_pairs_2 (F__law_ways : FF) : SF := (sSeq (sSet 1 (eCallE 3 F__law_ways (aConsF (eMv 0) (aConsF (eTup aNil) (aLast (eLst aNil)))))) (sSeq (sSet 2 (eLst aNil)) (sSeq (sFor (iSq (eMv 1)) (gT 2 (gsC (gN 3) (gsC (gN 4) gsN))) (m_law_pairs_2_b2 F__law_ways)) (sEnd (sRet (eRv 2))))))
theorem m_law_pairs_2_eq (F__law_ways : FF) (ρ : Rho) : fnF 7 1 (m_law_pairs_2 F__law_ways) ρ = finR 1 (m_law_pairs_2 F__law_ways (ρ ++ [none, none, none, none, none, none])) := fnF_eq 7 1 _
end GM
namespace GZ
open PySem L2 GS GM
theorem forL_fil {α : Type} {g : D → Rho → Option Rho} {b : SF} (emb : List D → Rho) (it el : α → D) (p : α → Bool) (N : Nat) : ∀ (as : List α) (acc : List D), acc.length + as.length ≤ N → (∀ a ∈ as, ∀ acc : List D, acc.length < N → optR (g (it a) (emb acc)) b = .nx (emb (acc ++ if p a then [el a] else []))) →
    forL g b (as.map it) (emb acc) = .nx (emb (acc ++ (as.filter p).map el))
  | [], acc, _, _ => by rw [List.map_nil, List.filter_nil, List.map_nil, List.append_nil]; rfl
  | a :: as, acc, hl, k => by
    rw [List.length_cons] at hl
    rw [List.map_cons, forL_cons2, k a (by simp) acc (by omega), turnR_nx]
    by_cases h : p a = true
    · rw [if_pos h, forL_fil emb it el p N as (acc ++ [el a]) (by simp; omega) (fun a m => k a (by simp [m])), List.filter_cons_of_pos h, List.map_cons, List.append_assoc]
      rfl
    · rw [if_neg h, List.append_nil, forL_fil emb it el p N as acc (by omega) (fun a m => k a (by simp [m])), List.filter_cons_of_neg h]
theorem forL_flat {α : Type} {g : D → Rho → Option Rho} {b : SF} (emb : List D → Rho) (it : α → D) (L : α → List D) (M : Nat) (N : Nat) (hM : ∀ a, (L a).length ≤ M) : ∀ (as : List α) (acc : List D), acc.length + as.length * M ≤ N → (∀ a ∈ as, ∀ acc : List D, acc.length + M ≤ N → optR (g (it a) (emb acc)) b = .nx (emb (acc ++ L a))) →
    forL g b (as.map it) (emb acc) = .nx (emb (acc ++ as.flatMap L))
  | [], acc, _, _ => by rw [List.map_nil, List.flatMap_nil, List.append_nil]; rfl
  | a :: as, acc, hl, k => by
    rw [List.length_cons, Nat.add_mul] at hl
    have := hM a
    rw [List.map_cons, forL_cons2, k a (by simp) acc (by omega), turnR_nx, forL_flat emb it L M N hM as (acc ++ L a) (by rw [List.length_append]; omega) (fun a m => k a (by simp [m])), List.flatMap_cons, List.append_assoc]
theorem forL_same {α : Type} {g : D → Rho → Option Rho} {b : SF} (ρ : Rho) (it : α → D) : ∀ (as : List α), (∀ a ∈ as, optR (g (it a) ρ) b = .nx ρ) → forL g b (as.map it) ρ = .nx ρ
  | [], _ => rfl
  | a :: as, k => by rw [List.map_cons, forL_cons2, k a (by simp), turnR_nx, forL_same ρ it as fun a m => k a (by simp [m])]
theorem encWy_clean (w : Way) : cleanB (encWy w) = true ∧ (encWy w).depth ≤ 2 := by
  refine ⟨?_, ?_⟩
  · unfold encWy
    rw [cleanB]
    refine cleanL_of fun d m => ?_
    obtain ⟨k, mk, rfl⟩ := List.mem_map.mp m
    exact (encP_clean k).1
  · have := depthAll_of (ds := w.map encP) (n := 1) fun d m => by
      obtain ⟨k, mk, rfl⟩ := List.mem_map.mp m
      exact (encP_clean k).2
    unfold encWy
    rw [PyData.depth]
    omega
theorem eqv_W (l m : Way) : PyData.eqv (encWy l) (encWy m) = decide (l = m) := by
  unfold encWy
  rw [PyData.eqv]
  induction l generalizing m with
  | nil => cases m <;> simp [PyData.eqvAll]
  | cons a p ih =>
    cases m with
    | nil => simp [PyData.eqvAll]
    | cons b q =>
      rw [List.map_cons, List.map_cons, PyData.eqvAll, ih, encP_I, encP_I, eqv_I]
      by_cases h1 : a = b
      · subst h1
        by_cases h2 : p = q <;> simp [h2]
      · have : ¬ toI a = toI b := fun e => h1 (toI_inj e)
        simp [h1, this]
theorem eqB_W (neg : Bool) (l m : Way) : eqB neg (encWy l) (encWy m) = some (.sh (.bool (neg ^^ decide (l = m)))) := by
  rw [eqB_of neg (okW_of (encWy_clean l).1 (by have := (encWy_clean l).2; omega)) (okW_of (encWy_clean m).1 (by have := (encWy_clean m).2; omega)), eqv_W]
theorem wayD_to (w : Way) (n : Nat) : slD none (some (n : Int)) (encWy w) = some (.sh (encWy (w.take n))) := by
  unfold encWy
  rw [slD_t, cutD_to, List.map_take]
theorem wayD_from (w : Way) (n : Nat) : slD (some (n : Int)) none (encWy w) = some (.sh (encWy (w.drop n))) := by
  unfold encWy
  rw [slD_t, cutD_from, List.map_drop]
abbrev Pr := Way × Way × Pl × Pl
def encPr (x : Pr) : D := .tuple [encWy x.1, encWy x.2.1, x.2.2.1.enc, x.2.2.2.enc]
def prB (x y : Way × Pl) : Bool := decide (x.1.length < y.1.length) && (decide (y.1.take x.1.length = x.1) && decide (y.2.key = x.2.key))
def prOf (x y : Way × Pl) : Pr := (x.1, y.1.drop x.1.length, x.2, y.2)
def pairsOf (W : List (Way × Pl)) : List Pr := W.flatMap fun x => (W.filter (prB x)).map (prOf x)
def PairsSp (n : Nat) (F : FF) : Prop := ∀ q : Pl, q.dep ≤ n → q.size ≤ 400 → q.dep ≤ 900 → F [some ⟨q.enc, .sh⟩] = .ok (.fr (.list ((pairsOf (Pl.ways [] q)).map encPr))) [none]
section
variable {Fw : FF}
theorem law_pairs_ok {n : Nat} (hw : WaysSp n Fw) : PairsSp n (fnF 7 1 (m_law_pairs_2 Fw)) := fun q hd hz h9 => by
  rw [m_law_pairs_2_eq]
  have e1 := hw.ow q [] [] hd (by simp; omega) (by simp; omega)
  rw [List.nil_append] at e1
  have wl := ways_len [] q
  generalize Pl.ways [] q = W at e1 wl ⊢
  have inner : ∀ (x : Way × Pl) (acc : List D), acc.length + 400 ≤ 200000 → forL (gT 2 (gsC (gN 5) (gsC (gN 6) gsN))) (m_law_pairs_2_b1 Fw) (W.map encWP) [some ⟨q.enc, .sh⟩, some ⟨.list (W.map encWP), .sh⟩, some ⟨.list acc, .ow⟩, some ⟨encWy x.1, .sh⟩, some ⟨x.2.enc, .sh⟩, none, none] =
      .nx [some ⟨q.enc, .sh⟩, some ⟨.list (W.map encWP), .sh⟩, some ⟨.list (acc ++ ((W.filter (prB x)).map (prOf x)).map encPr), .ow⟩, some ⟨encWy x.1, .sh⟩, some ⟨x.2.enc, .sh⟩, none, none] := fun x acc ha => by
    have := forL_fil (g := gT 2 (gsC (gN 5) (gsC (gN 6) gsN))) (b := m_law_pairs_2_b1 Fw) (fun acc => [some ⟨q.enc, .sh⟩, some ⟨.list (W.map encWP), .sh⟩, some ⟨.list acc, .ow⟩, some ⟨encWy x.1, .sh⟩, some ⟨x.2.enc, .sh⟩, none, none]) encWP (fun y => encPr (prOf x y)) (prB x) 200000 W acc (by omega) (fun y my acc hac => by
      have z : acc.length < sizeLine := fitsl (by omega)
      have l1 := wayD_len x.1
      have l2 := wayD_len y.1
      have s1 := wayD_to y.1 x.1.length
      have s2 := wayD_from y.1 x.1.length
      have q1 := eqB_W false (y.1.take x.1.length) x.1
      have k1 := ix_key y.2
      have k2 := ix_key x.2
      have ey : encWP y = .tuple [encWy y.1, y.2.enc] := rfl
      have ep : encPr (prOf x y) = .tuple [encWy x.1, encWy (y.1.drop x.1.length), x.2.enc, y.2.enc] := rfl
      rw [ey, ep]
      unfold prB
      generalize PyData.list (W.map encWP) = WL
      generalize q.enc = qe
      generalize encWy (y.1.drop x.1.length) = de at s2 ⊢
      generalize encWy (y.1.take x.1.length) = te at s1 q1
      generalize encWy y.1 = ye at l2 s1 s2 ⊢
      generalize encWy x.1 = xe at l1 q1 ⊢
      generalize y.2.enc = yp at k1 ⊢
      generalize x.2.enc = xp at k2 ⊢
      by_cases c1 : x.1.length < y.1.length
      · have c1' : ((x.1.length : Int) < (y.1.length : Int)) := by omega
        by_cases c2 : y.1.take x.1.length = x.1
        · rw [decide_eq_true c2] at q1 ⊢
          by_cases c3 : y.2.key = x.2.key
          · simp [m_law_pairs_2_b1, l1, l2, c1, c1', s1, s2, q1, k1, k2, c3, z]
          · simp [m_law_pairs_2_b1, l1, l2, c1, c1', s1, s2, q1, k1, k2, c3]
        · rw [decide_eq_false c2] at q1 ⊢
          simp [m_law_pairs_2_b1, l1, l2, c1, c1', s1, q1]
      · have c1' : ¬ ((x.1.length : Int) < (y.1.length : Int)) := by omega
        simp [m_law_pairs_2_b1, l1, l2, c1, c1'])
    rw [List.map_map]
    exact this
  have outer := forL_flat (g := gT 2 (gsC (gN 3) (gsC (gN 4) gsN))) (b := m_law_pairs_2_b2 Fw) (fun acc => [some ⟨q.enc, .sh⟩, some ⟨.list (W.map encWP), .sh⟩, some ⟨.list acc, .ow⟩, none, none, none, none]) encWP (fun x => ((W.filter (prB x)).map (prOf x)).map encPr) 400 200000 (fun x => by
      rw [List.length_map, List.length_map]
      exact Nat.le_trans (List.length_filter_le _ _) (by omega)) W [] (by simp; omega) (fun x mx acc ha => by
    have i1 := inner x acc (by omega)
    have ex : encWP x = .tuple [encWy x.1, x.2.enc] := rfl
    rw [ex]
    have sq : ∀ ρ, seqR (.sh (.list (W.map encWP))) ρ = .ok (W.map encWP) ρ := fun ρ => rfl
    generalize acc ++ ((W.filter (prB x)).map (prOf x)).map encPr = acc' at i1 ⊢
    generalize W.map encWP = WL at i1 sq ⊢
    generalize encWy x.1 = xe at i1 ⊢
    generalize x.2.enc = xp at i1 ⊢
    simp [m_law_pairs_2_b2, i1])
  rw [List.nil_append] at outer
  have er : (pairsOf W).map encPr = W.flatMap fun x => ((W.filter (prB x)).map (prOf x)).map encPr := by unfold pairsOf; rw [List.map_flatMap]
  rw [er]
  have e1 : Fw [some ⟨q.enc, .sh⟩, some ⟨.tuple [], .sh⟩, some ⟨.list [], .ow⟩] = .ok (.fr (.list (W.map encWP))) [none, none, none] := e1
  generalize (W.flatMap fun x => ((W.filter (prB x)).map (prOf x)).map encPr) = R at outer ⊢
  generalize W.map encWP = WL at e1 outer
  simp [m_law_pairs_2, e1, outer]
end
theorem getN_of_mem {ps : List (List Nat × Pl)} (nd : (ps.map (·.1)).Nodup) {x : List Nat × Pl} (m : x ∈ ps) : getN ps x.1 = some x.2 := by
  induction ps with
  | nil => cases m
  | cons y ps ih =>
    rw [List.map_cons, List.nodup_cons] at nd
    unfold getN
    rw [List.find?_cons]
    rcases List.mem_cons.mp m with rfl | m
    · rw [decide_eq_true rfl]; rfl
    · have c : ¬ y.1 = x.1 := fun e => nd.1 (List.mem_map.mpr ⟨x, m, e.symm⟩)
      rw [decide_eq_false c]
      exact ih nd.2 m
mutual
theorem ways_at : ∀ (q : Pl) (v : Way), Zp q → ∀ x ∈ Pl.ways v q, ∃ w, x.1 = v ++ w ∧ Pl.at? w q = some x.2
  | .mk k ps, v, z, x, m => by
    rw [Pl.ways] at m
    rcases List.mem_cons.mp m with rfl | m
    · exact ⟨[], by simp, rfl⟩
    · obtain ⟨y, my, w, e1, e2⟩ := waysL_at ps v (fun y my => z.put my) x m
      refine ⟨y.1 :: w, e1, ?_⟩
      have nd := z.nd _ (within_self _)
      have := getN_of_mem nd my
      exact Option.bind_eq_some_iff.mpr ⟨_, this, e2⟩
theorem waysL_at : ∀ (ps : List (List Nat × Pl)) (v : Way), (∀ y ∈ ps, Zp y.2) → ∀ x ∈ Pl.waysL v ps, ∃ y ∈ ps, ∃ w, x.1 = v ++ y.1 :: w ∧ Pl.at? w y.2 = some x.2
  | [], v, z, x, m => by rw [Pl.waysL] at m; cases m
  | y :: r, v, z, x, m => by
    rw [Pl.waysL] at m
    rcases List.mem_append.mp m with m | m
    · obtain ⟨w, e1, e2⟩ := waysX_at y v (z y (by simp)) x m
      exact ⟨y, by simp, w, e1, e2⟩
    · obtain ⟨y', my, w, e⟩ := waysL_at r v (fun y m => z y (by simp [m])) x m
      exact ⟨y', by simp [my], w, e⟩
theorem waysX_at : ∀ (y : List Nat × Pl) (v : Way), Zp y.2 → ∀ x ∈ Pl.waysX v y, ∃ w, x.1 = v ++ y.1 :: w ∧ Pl.at? w y.2 = some x.2
  | (p, q), v, z, x, m => by
    rw [Pl.waysX] at m
    obtain ⟨w, e1, e2⟩ := ways_at q (v ++ [p]) z x m
    exact ⟨w, by rw [e1, List.append_assoc]; rfl, e2⟩
end
structure PrOk (q : Pl) (x : Pr) : Prop where
  a : Pl.at? x.1 q = some x.2.2.1
  r : Pl.at? x.2.1 x.2.2.1 = some x.2.2.2
  k : x.2.2.2.key = x.2.2.1.key
  l : 1 ≤ x.2.1.length
theorem pairs_ok {q : Pl} (z : Zp q) : ∀ x ∈ pairsOf (Pl.ways [] q), PrOk q x := fun x m => by
  unfold pairsOf at m
  obtain ⟨y, my, m⟩ := List.mem_flatMap.mp m
  obtain ⟨y', my', rfl⟩ := List.mem_map.mp m
  obtain ⟨my', hp⟩ := List.mem_filter.mp my'
  unfold prB at hp
  rw [Bool.and_eq_true, Bool.and_eq_true, decide_eq_true_eq, decide_eq_true_eq, decide_eq_true_eq] at hp
  obtain ⟨w, e1, a1⟩ := ways_at q [] z y my
  obtain ⟨w', e1', a1'⟩ := ways_at q [] z y' my'
  rw [List.nil_append] at e1 e1'
  rw [← e1] at a1
  rw [← e1'] at a1'
  have sp : y'.1 = y.1 ++ y'.1.drop y.1.length := by
    have := (List.take_append_drop y.1.length y'.1).symm
    rw [hp.2.1] at this
    exact this
  rw [sp] at a1'
  obtain ⟨u, b1, b2⟩ := at_app.mp a1'
  rw [a1] at b1
  cases b1
  exact ⟨a1, b2, hp.2.2, by show 1 ≤ (y'.1.drop y.1.length).length; rw [List.length_drop]; omega⟩
mutual
theorem ways_deep : ∀ (q : Pl) (v : Way), ∃ x ∈ Pl.ways v q, x.1.length + 1 = v.length + q.dep
  | .mk k ps, v => by
    rw [Pl.ways, Pl.dep]
    rcases waysL_deep ps v with h | ⟨x, m, e⟩
    · exact ⟨(v, .mk k ps), by simp, by rw [h]⟩
    · exact ⟨x, by simp [m], by omega⟩
theorem waysL_deep : ∀ (ps : List (List Nat × Pl)) (v : Way), Pl.depL ps = 0 ∨ ∃ x ∈ Pl.waysL v ps, x.1.length = v.length + Pl.depL ps
  | [], v => .inl (by rw [Pl.depL])
  | (p, q) :: r, v => by
    rw [Pl.waysL, Pl.waysX, Pl.depL, Pl.depX]
    obtain ⟨x, m, e⟩ := ways_deep q (v ++ [p])
    rw [List.length_append, List.length_singleton] at e
    by_cases c : Pl.depL r ≤ q.dep
    · exact .inr ⟨x, by simp [m], by omega⟩
    · rcases waysL_deep r v with h | ⟨x', m', e'⟩
      · omega
      · exact .inr ⟨x', by simp [m'], by omega⟩
end
end GZ
namespace GM
open PySem L2 GS
/-- law(script); slots 0:script 1:keys 2:book 3:state 4:outer 5:plan 6:pick 7:pairs 8:signs 9:inside 10:whole 11:deepest 12:many 13:most 14:times 15:way 16:ring 17:one 18:last 19:due 20:turn 21:found 22:some 23:more 24:inner 25:key -/
def m_law_k70_2_ce1 (F_row_of F__law_ways F_is_whole F_is_plan F_gone F__law_with F__law_pairs F__law_cell_at F__law_start F__law_may F__law_names F__law_home F__law_keys : FF) : EF := (eBin ixA (eVb 8) (eVb 25))
def m_law_k70_2_ce2 (F_row_of F__law_ways F_is_whole F_is_plan F_gone F__law_with F__law_pairs F__law_cell_at F__law_start F__law_may F__law_names F__law_home F__law_keys : FF) : EF := (eBin ixA (eVb 24) (eC (.int 0)))
def m_law_k70_2_b3 (F_row_of F__law_ways F_is_whole F_is_plan F_gone F__law_with F__law_pairs F__law_cell_at F__law_start F__law_may F__law_names F__law_home F__law_keys : FF) : SF := (sKill [20] (sSet 19 (eCall 3 none F__law_with (aCons (eMv 17) (aCons (eMv 16) (aCons (eMv 19) aNil))))))
def m_law_k70_2_b4 (F_row_of F__law_ways F_is_whole F_is_plan F_gone F__law_with F__law_pairs F__law_cell_at F__law_start F__law_may F__law_names F__law_home F__law_keys : FF) : SF := (sKill [14, 19, 20, 21, 22] (sSeq (sSet 19 (eMv 18)) (sSeq (sFor (iR1 (eVb 14)) (gN 20) (m_law_k70_2_b3 F_row_of F__law_ways F_is_whole F_is_plan F_gone F__law_with F__law_pairs F__law_cell_at F__law_start F__law_may F__law_names F__law_home F__law_keys)) (sSeq (sSet 19 (eCall 3 none F__law_with (aCons (eMv 5) (aCons (eMv 15) (aCons (eMv 19) aNil))))) (sSeq (sSet 21 (eCall 4 none F_gone (aCons (eMv 5) (aCons (eMv 15) (aCons (eMv 16) (aCons (eMv 14) aNil)))))) (sSeq (sIf (eOr (eNot (eB (eIsi isTup (eVb 21)))) (eB (eBin (eqB true) (eVb 21) (eVb 19)))) (sEnd (sRet (eC (.bool false)))) sNil) (sSeq (sIf (eOr (eB (eBin (isD true) (eCall 2 none F_is_plan (aCons (eMv 2) (aCons (eMv 21) aNil))) (eC (.bool true)))) (eB (eBin (isD true) (eCall 2 none F_is_whole (aCons (eMv 2) (aCons (eMv 21) aNil))) (eC (.bool true))))) (sEnd (sRet (eC (.bool false)))) sNil) (sSeq (sSet 22 (eLc [23, 24] (iSq (eCallE 3 F__law_ways (aConsF (eMv 19) (aConsF (eTup aNil) (aLast (eLst aNil)))))) (gT 2 (gsC (gN 23) (gsC (gN 24) gsN))) (eNox eYes) (eNox (m_law_k70_2_ce2 F_row_of F__law_ways F_is_whole F_is_plan F_gone F__law_with F__law_pairs F__law_cell_at F__law_start F__law_may F__law_names F__law_home F__law_keys)))) (sIf (eAnd (eB (eBin (ltI fun i j => decide (i ≤ j)) (eCB (un1 lenD) (aCons (eVb 22) aNil)) (eC (.int 12)))) (eB (eBin (eqB true) (eCB (un1 lenD) (aCons (eCall 2 none F_row_of (aCons (eMv 2) (aCons (eMv 21) aNil))) aNil)) (eCB (un1 sumD) (aCons (eLc [25] (iSq (eMv 22)) (gN 25) (eNox eYes) (eNox (m_law_k70_2_ce1 F_row_of F__law_ways F_is_whole F_is_plan F_gone F__law_with F__law_pairs F__law_cell_at F__law_start F__law_may F__law_names F__law_home F__law_keys))) aNil))))) (sEnd (sRet (eC (.bool false)))) sNil)))))))))
def m_law_k70_2_ce5 (F_row_of F__law_ways F_is_whole F_is_plan F_gone F__law_with F__law_pairs F__law_cell_at F__law_start F__law_may F__law_names F__law_home F__law_keys : FF) : EF := (eCB (un1 lenD) (aCons (eVb 23) aNil))
def m_law_k70_2 (F_row_of F__law_ways F_is_whole F_is_plan F_gone F__law_with F__law_pairs F__law_cell_at F__law_start F__law_may F__law_names F__law_home F__law_keys : FF) : SF := (sSeq (sSet 1 (eCall 2 none F__law_keys (aCons (eCall 2 none F__law_cell_at (aCons (eMv 0) (aCons (eC (.int 2)) aNil))) (aCons (eC (.int 4)) aNil)))) (sSeq (sSet 2 (eCall 2 none F__law_home (aCons (eCall 1 none F__law_names (aCons (eCall 2 none F__law_cell_at (aCons (eMv 0) (aCons (eC (.int 1)) aNil))) aNil)) (aCons (eMv 1) aNil)))) (sSeq (sSet 3 (eLst (aCons (eMv 0) (aCons (eC (.int 3)) (aCons (eC (.int 2)) aNil))))) (sSeq (sSet 4 (eCall 5 (some 0) F__law_may (aCons (eVb 3) (aCons (eMv 1) (aCons (eTup aNil) (aCons (eCall 2 none F__law_cell_at (aCons (eMv 0) (aCons (eC (.int 3)) aNil))) (aCons (eC (.int 3)) aNil))))))) (sSeq (sSet 5 (eTup (aCons (eBin ixA (eVb 1) (eC (.int 0))) (aCons (eTup (aCons (eTup (aCons (eTup (aCons (eC (.int 1)) aNil)) (aCons (eCall 3 (some 0) F__law_start (aCons (eVb 3) (aCons (eMv 1) (aCons (eC (.int 3)) aNil)))) aNil))) aNil)) aNil)))) (sSeq (sSet 5 (eTup (aCons (eBin ixA (eVb 1) (eC (.int 0))) (aCons (eCB (un1 tupleD) (aCons (eBin addD (eVb 4) (eLst (aCons (eTup (aCons (eTup (aCons (eC (.int 1)) aNil)) (aCons (eMv 5) aNil))) aNil))) aNil)) aNil)))) (sSeq (sSet 6 (eCall 2 none F__law_cell_at (aCons (eMv 0) (aCons (eC (.int 0)) aNil)))) (sSeq (sSet 7 (eCall 1 none F__law_pairs (aCons (eMv 5) aNil))) (sSeq (sUnp (gT 4 (gsC (gN 15) (gsC (gN 16) (gsC (gN 17) (gsC (gN 18) gsN))))) (eBin ixA (eVb 7) (eBin modD (eBin divD (eVb 6) (eC (.int 6))) (eCB (un1 lenD) (aCons (eVb 7) aNil))))) (sSeq (sSet 8 (eDct (dCons (eBin ixA (eVb 1) (eC (.int 0))) (eC (.int 2)) (dCons (eBin ixA (eVb 1) (eC (.int 1))) (eC (.int 1)) (dCons (eBin ixA (eVb 1) (eC (.int 2))) (eC (.int 1)) (dCons (eBin ixA (eVb 1) (eC (.int 3))) (eC (.int 1)) dNil)))))) (sSeq (sSet 9 (eCallE 3 F__law_ways (aConsF (eMv 18) (aConsF (eTup aNil) (aLast (eLst aNil)))))) (sSeq (sSet 10 (eCallE 3 F__law_ways (aConsF (eMv 5) (aConsF (eTup aNil) (aLast (eLst aNil)))))) (sSeq (sSet 11 (eBin addD (eC (.int 1)) (eCB (un1 maxLD) (aCons (eLc [23, 24] (iSq (eMv 10)) (gT 2 (gsC (gN 23) (gsC (gN 24) gsN))) (eNox eYes) (eNox (m_law_k70_2_ce5 F_row_of F__law_ways F_is_whole F_is_plan F_gone F__law_with F__law_pairs F__law_cell_at F__law_start F__law_may F__law_names F__law_home F__law_keys))) aNil)))) (sSeq (sSet 12 (eBin subD (eCB (un1 lenD) (aCons (eCallE 3 F__law_ways (aConsF (eMv 17) (aConsF (eTup aNil) (aLast (eLst aNil))))) aNil)) (eCB (un1 lenD) (aCons (eVb 9) aNil)))) (sSeq (sSet 13 (eBin addD (eC (.int 1)) (eCB (un2 minD) (aCons (eBin divD (eBin subD (eC (.int 20)) (eVb 11)) (eCB (un1 lenD) (aCons (eVb 16) aNil))) (aCons (eBin divD (eBin subD (eC (.int 200)) (eCB (un1 lenD) (aCons (eVb 10) aNil))) (eVb 12)) aNil))))) (sSeq (sFor (iSq (eLst (aCons (eC (.int 0)) (aCons (eC (.int 1)) (aCons (eCB (un2 minD) (aCons (eBin addD (eC (.int 2)) (eBin modD (eVb 6) (eC (.int 6)))) (aCons (eBin addD (eC (.int 1)) (eBin divD (eC (.int 14)) (eCB (un1 lenD) (aCons (eVb 16) aNil)))) aNil))) (aCons (eCB (un2 maxD) (aCons (eC (.int 1)) (aCons (eVb 13) aNil))) aNil)))))) (gN 14) (m_law_k70_2_b4 F_row_of F__law_ways F_is_whole F_is_plan F_gone F__law_with F__law_pairs F__law_cell_at F__law_start F__law_may F__law_names F__law_home F__law_keys)) (sEnd (sRet (eC (.bool true))))))))))))))))))))
theorem m_law_k70_2_eq (F_row_of F__law_ways F_is_whole F_is_plan F_gone F__law_with F__law_pairs F__law_cell_at F__law_start F__law_may F__law_names F__law_home F__law_keys : FF) (ρ : Rho) : fnF 26 1 (m_law_k70_2 F_row_of F__law_ways F_is_whole F_is_plan F_gone F__law_with F__law_pairs F__law_cell_at F__law_start F__law_may F__law_names F__law_home F__law_keys) ρ = finR 1 (m_law_k70_2 F_row_of F__law_ways F_is_whole F_is_plan F_gone F__law_with F__law_pairs F__law_cell_at F__law_start F__law_may F__law_names F__law_home F__law_keys (ρ ++ [none, none, none, none, none, none, none, none, none, none, none, none, none, none, none, none, none, none, none, none, none, none, none, none, none])) := fnF_eq 26 1 _
end GM
namespace GZ
open PySem L2 GS GM
mutual
theorem keys_within : ∀ q : Pl, q.within.map (·.key) = q.keys
  | .mk k ps => by rw [Pl.within, Pl.keys, List.map_cons, keysL_within ps]; rfl
theorem keysL_within : ∀ ps : List (List Nat × Pl), (Pl.withinL ps).map (·.key) = Pl.keysL ps
  | [] => rfl
  | x :: r => by rw [Pl.withinL, Pl.keysL, List.map_append, keysX_within x, keysL_within r]
theorem keysX_within : ∀ x : List Nat × Pl, (Pl.withinX x).map (·.key) = Pl.keysX x
  | (p, q) => by rw [Pl.withinX, Pl.keysX, keys_within q]
end
mutual
theorem pl_clean : ∀ q : Pl, (∀ k ∈ q.keys, PyData.strOk k = true) → cleanB q.enc = true ∧ q.enc.depth ≤ 3 * q.dep
  | .mk k ps, h => by
    rw [Pl.keys] at h
    obtain ⟨h1, h2⟩ := plL_clean ps fun k m => h k (by simp [m])
    have hk := h k (by simp)
    rw [Pl.enc, Pl.dep]
    refine ⟨?_, ?_⟩
    · rw [cleanB, cleanL, cleanL, cleanL, cleanB, cleanB, h1, hk]; rfl
    · simp only [PyData.depth, PyData.depthAll]
      omega
theorem plL_clean : ∀ ps : List (List Nat × Pl), (∀ k ∈ Pl.keysL ps, PyData.strOk k = true) → cleanL (Pl.encL ps) = true ∧ PyData.depthAll (Pl.encL ps) ≤ 3 * Pl.depL ps + 1
  | [], _ => ⟨rfl, by simp [Pl.encL, PyData.depthAll]⟩
  | x :: r, h => by
    rw [Pl.keysL] at h
    obtain ⟨h1, h2⟩ := plX_clean x fun k m => h k (by simp [m])
    obtain ⟨h3, h4⟩ := plL_clean r fun k m => h k (by simp [m])
    rw [Pl.encL, Pl.depL]
    refine ⟨by rw [cleanL, h1, h3]; rfl, ?_⟩
    simp only [PyData.depthAll]
    omega
theorem plX_clean : ∀ x : List Nat × Pl, (∀ k ∈ Pl.keysX x, PyData.strOk k = true) → cleanB (Pl.encX x) = true ∧ (Pl.encX x).depth ≤ 3 * Pl.depX x + 1
  | (p, q), h => by
    rw [Pl.keysX] at h
    obtain ⟨h1, h2⟩ := pl_clean q h
    obtain ⟨h3, h4⟩ := encP_clean p
    rw [Pl.encX, Pl.depX]
    have : 1 ≤ q.dep := by rw [dep_eq]; omega
    refine ⟨by rw [cleanB, cleanL, cleanL, cleanL, h1, h3]; rfl, ?_⟩
    simp only [PyData.depth, PyData.depthAll]
    omega
end
mutual
theorem dep_size : ∀ q : Pl, q.dep ≤ q.size
  | .mk k ps => by have := depL_size ps; rw [Pl.dep, Pl.size]; omega
theorem depL_size : ∀ ps : List (List Nat × Pl), Pl.depL ps ≤ Pl.sizeL ps
  | [] => by rw [Pl.depL, Pl.sizeL]; omega
  | x :: r => by
    have h1 := depX_size x
    have h2 := depL_size r
    rw [Pl.depL, Pl.sizeL]; omega
theorem depX_size : ∀ x : List Nat × Pl, Pl.depX x ≤ Pl.sizeX x
  | (p, q) => by rw [Pl.depX, Pl.sizeX]; exact dep_size q
end
section
variable {n : Nm4} {k : Ky4}
theorem home_bk (K : OkKy k) : BkW 2 (homeB n k) ∧ BkZ 2 (homeB n k) := by
  have B := home_w (n := n) (k := k) |>.mpr K.nd
  have mm : ∀ p ∈ (homeB n k).trees, p.1 ∈ [k.k0, k.k1, k.k2, k.k3] ∧ p.2 ≠ .void := fun p m => by
    simp [homeB] at m
    rcases m with rfl | rfl | rfl | rfl <;> simp [linkT, leafT, wideT, turnT]
  exact ⟨B, ⟨⟨⟨by simp [homeB], B.ht, fun p m => by have := B.sz p m; omega, fun p m => (mm p m).2⟩, fun p m => K.so _ (mm p m).1⟩, fun p m => by have := B.sz p m; omega⟩⟩
theorem home_keys (K : OkKy k) {q : Pl} (o : PlOk (homeB n k) q) : ∀ j ∈ q.keys, j ∈ [k.k0, k.k1, k.k2, k.k3] := fun j m => by
  obtain ⟨t, e⟩ := o.keysIn j m
  have := treeOf_in e
  simp [homeB] at this
  rcases this with ⟨rfl, _⟩ | ⟨rfl, _⟩ | ⟨rfl, _⟩ | ⟨rfl, _⟩ <;> simp
def sgD (k : Ky4) : D := .dict [(.str k.k0, .int 2), (.str k.k1, .int 1), (.str k.k2, .int 1), (.str k.k3, .int 1)]
theorem ky_ne (K : OkKy k) : k.k0 ≠ k.k1 ∧ k.k0 ≠ k.k2 ∧ k.k0 ≠ k.k3 ∧ k.k1 ≠ k.k2 ∧ k.k1 ≠ k.k3 ∧ k.k2 ≠ k.k3 := by
  have := K.nd
  simp only [List.nodup_cons, List.mem_cons, not_or, List.not_mem_nil, not_false_eq_true, and_true, List.nodup_nil] at this
  obtain ⟨⟨a, b, c⟩, ⟨d, e⟩, f⟩ := this
  exact ⟨a, b, c, d, e, f⟩
theorem sg_at (K : OkKy k) {j : Str} (h : j ∈ [k.k0, k.k1, k.k2, k.k3]) : ixA (sgD k) (.str j) = some (.sh (.int ((kT (homeB n k) j).signs.length : Nat))) := by
  obtain ⟨t0, t1, t2, t3⟩ := home_tree (n := n) K
  obtain ⟨h01, h02, h03, h12, h13, h23⟩ := ky_ne K
  have z : ∀ x y : Str, kEq (.str x) (.str y) = decide (x = y) := fun _ _ => rfl
  simp at h
  rcases h with rfl | rfl | rfl | rfl
  · rw [kT_of t0]; simp [sgD, z, linkT, innerT, Tr.signs, Tr.pieces, Tr.piecesL, Tr.signN, List.filterMap_cons]
  · rw [kT_of t1]; simp [sgD, z, h01, leafT, Tr.signs, Tr.pieces, Tr.piecesL, Tr.signN, List.filterMap_cons]
  · rw [kT_of t2]; simp [sgD, z, h02, h12, wideT, stemT, Tr.signs, Tr.pieces, Tr.piecesL, Tr.signN, List.filterMap_cons]
  · rw [kT_of t3]; simp [sgD, z, h03, h13, h23, turnT, Tr.signs, Tr.pieces, Tr.piecesL, Tr.signN, List.filterMap_cons]
theorem built_count {h m : Nat} {b : Bk} {q : Pl} (B : BkW h b) (o : PlOk b q) (hd : q.dep ≤ m) : ((builtN b m q).signs.length : Int) = (q.keys.map fun j => (((kT b j).signs.length : Nat) : Int)).sum := by
  have := (built_flat ownS B o hd).1.length_eq
  rw [f0_S, flat_signs, flat_sum] at this
  rw [this]
  have e : (fun k => (flatT fS (kT b k)).length) = fun k => (kT b k).signs.length := by funext k; rw [flat_signs]
  rw [e]
  clear e this
  induction q.keys with
  | nil => rfl
  | cons x l ih => rw [List.map_cons, List.map_cons, List.sum_cons, List.sum_cons, Int.natCast_add, ih]
end
end GZ
namespace GZ
open PySem L2 GS GM
abbrev bSt (x0 x1 x3 x4 x6 x7 x9 x10 x11 x12 x13 x14 x19 x20 x21 x22 : Option Cel) (bk pl sg wy rg one last : D) : Rho :=
  [x0, x1, some ⟨bk, .sh⟩, x3, x4, some ⟨pl, .sh⟩, x6, x7, some ⟨sg, .ow⟩, x9, x10, x11, x12, x13, x14, some ⟨wy, .sh⟩, some ⟨rg, .sh⟩, some ⟨one, .sh⟩, some ⟨last, .sh⟩, x19, x20, x21, x22, none, none, none]
section
variable {Fr Fw Fi Fp Fg Fx Fq Fa Fs Fm Fn Fh Fk : FF}
theorem body_ok (hr : RowOfSp 2 12 Fr) (hw : WaysSp 20 Fw) (hi : WholeSp 2 Fi) (hp : IsPlanSp 2 20 Fp) (hg : GoneSp 20 Fg) (hx : WithSp 20 Fx)
    {n : Nm4} {k : Ky4} (K : OkKy k) {q : Pl} {pr : Pr} (Q : PlOk (homeB n k) q) (qk : q.key = k.k0) (P : PrOk q pr) (qs : q.size ≤ 400) (t : Nat) (ht : t ≤ 30) (hd : q.dep + (t - 1) * pr.2.1.length ≤ 20)
    (x0 x1 x3 x4 x6 x7 x9 x10 x11 x12 x13 : Option Cel) :
    optR (gN 14 (.int t) (bSt x0 x1 x3 x4 x6 x7 x9 x10 x11 x12 x13 none none none none none (homeB n k).enc q.enc (sgD k) (encWy pr.1) (encWy pr.2.1) pr.2.2.1.enc pr.2.2.2.enc)) (m_law_k70_2_b4 Fr Fw Fi Fp Fg Fx Fq Fa Fs Fm Fn Fh Fk) =
      .nx (bSt x0 x1 x3 x4 x6 x7 x9 x10 x11 x12 x13 none none none none none (homeB n k).enc q.enc (sgD k) (encWy pr.1) (encWy pr.2.1) pr.2.2.1.enc pr.2.2.2.enc) := by
  obtain ⟨way, ring, u, last⟩ := pr
  obtain ⟨pa, prr, pk, pl⟩ := P
  dsimp only at pa prr pk pl hd ⊢
  obtain ⟨B, BZ⟩ := home_bk (n := n) K
  have Zq := PlOk.zp B Q
  have Qu := at_ok Q pa
  have Zu := PlOk.zp B Qu
  have dq := at_dep pa
  have du := at_dep prr
  have dl : 1 ≤ last.dep := by rw [dep_eq]; omega
  obtain ⟨RO, rk, rd, rs⟩ := gone_plan B Q pa prr pk t
  -- what is due, what is told
  have o : okR (t : Int) = true := okR_nat (by omega)
  have tn : (t : Int).toNat = t := by omega
  have loop := forL_turn (g := gN 20) (b := m_law_k70_2_b3 Fr Fw Fi Fp Fg Fx Fq Fa Fs Fm Fn Fh Fk) (fun j => bSt x0 x1 x3 x4 x6 x7 x9 x10 x11 x12 x13 (some ⟨.int t, .sh⟩) (some ⟨(turns u ring last j).enc, .sh⟩) none none none (homeB n k).enc q.enc (sgD k) (encWy way) (encWy ring) u.enc last.enc) (fun j => by
    have e := hx ring u (turns u ring last j) (by omega) Zu
    rw [turns]
    generalize encWy ring = ge at e ⊢
    generalize u.enc = ue at e ⊢
    generalize (turns u ring last j).enc = te at e ⊢
    generalize (Pl.wth ring u (turns u ring last j)).enc = te' at e ⊢
    simp [m_law_k70_2_b3, e]) t
  have f1 := hx way q (turns u ring last t) (by omega) Zq
  have f2 := hg way ring q u last t (by omega) (by omega) Zq pa prr (by omega)
  generalize Pl.wth way q (turns u ring last t) = R at RO rk rd rs f1 f2
  have Rd : R.dep ≤ 20 := by omega
  have Rs : R.size ≤ 100000 := by
    have : t * q.size ≤ 30 * 400 := Nat.mul_le_mul ht qs
    omega
  -- compared
  have kin := home_keys K RO
  obtain ⟨c1, c2⟩ := pl_clean R fun j m => K.so _ (kin j m)
  have eqs := eqB_same true c1 (by omega)
  have tup : isTup R.enc = true := by rw [penc_eq]; rfl
  -- a plan, a whole one
  have p1 := hp (homeB n k) R.enc BZ (RO.pre BZ Rd)
  rw [RO.is Rd] at p1
  obtain ⟨t0, _, _, _⟩ := home_tree (n := n) K
  have p2 := hi (homeB n k) R (linkT n) (by rw [rk, qk]; exact t0) (by simp [linkT, innerT, Tr.ht, Tr.htL]) (by simp [linkT, innerT, Tr.pieces, Tr.piecesL]) (by simp [linkT])
  have wh : (linkT n).whole (homeB n k).top = true := by
    obtain ⟨f1, _, _, _⟩ := home_feet (n := n)
    unfold Tr.whole Tr.name
    rw [f1]
    simp [homeB, linkT, Tr.word]
  rw [wh] at p2
  -- keys and signs
  have w1 := hw.ow R [] [] Rd (by simp; omega) (by simp; omega)
  rw [List.nil_append] at w1
  have w1 : Fw [some ⟨R.enc, .sh⟩, some ⟨.tuple [], .sh⟩, some ⟨.list [], .ow⟩] = .ok (.fr (.list ((Pl.ways [] R).map encWP))) [none, none, none] := w1
  have kw : (Pl.ways [] R).map (fun x => x.2.key) = R.keys := by rw [← keys_within, ← ways_within [], List.map_map]; rfl
  have kl : R.keys.length = R.size := keys_len R
  have lc := lcL_all (vs := [23, 24]) (g := gT 2 (gsC (gN 23) (gsC (gN 24) gsN))) (fe := eNox (m_law_k70_2_ce2 Fr Fw Fi Fp Fg Fx Fq Fa Fs Fm Fn Fh Fk)) (bSt x0 x1 x3 x4 x6 x7 x9 x10 x11 x12 x13 (some ⟨.int t, .sh⟩) (some ⟨R.enc, .sh⟩) none (some ⟨R.enc, .sh⟩) none (homeB n k).enc q.enc (sgD k) (encWy way) (encWy ring) u.enc last.enc) encWP
    (fun x => [x0, x1, some ⟨(homeB n k).enc, .sh⟩, x3, x4, some ⟨q.enc, .sh⟩, x6, x7, some ⟨sgD k, .ow⟩, x9, x10, x11, x12, x13, some ⟨.int t, .sh⟩, some ⟨encWy way, .sh⟩, some ⟨encWy ring, .sh⟩, some ⟨u.enc, .sh⟩, some ⟨last.enc, .sh⟩, some ⟨R.enc, .sh⟩, none, some ⟨R.enc, .sh⟩, none, some ⟨encWy x.1, .sh⟩, some ⟨x.2.enc, .sh⟩, none])
    (fun x => .str x.2.key) (Pl.ways [] R) [] (fits (by rw [ways_len]; simp; omega)) (fun x _ => by
      have i0 := ix_key x.2
      have ex : encWP x = .tuple [encWy x.1, x.2.enc] := rfl
      rw [ex]
      generalize x.2.enc = xe at i0 ⊢
      generalize encWy x.1 = xw
      generalize sgD k = sg
      generalize (homeB n k).enc = be
      exact ⟨by simp, by simp, by simp [m_law_k70_2_ce2, i0]⟩)
  have em : (Pl.ways [] R).map (fun x => PyData.str x.2.key) = R.keys.map .str := by rw [← kw, List.map_map]; rfl
  rw [List.nil_append, em] at lc
  have lc2 : R.size ≤ 12 → lcL [25] (gN 25) (eNox eYes) (eNox (m_law_k70_2_ce1 Fr Fw Fi Fp Fg Fx Fq Fa Fs Fm Fn Fh Fk)) (R.keys.map .str) [] (bSt x0 x1 x3 x4 x6 x7 x9 x10 x11 x12 x13 (some ⟨.int t, .sh⟩) (some ⟨R.enc, .sh⟩) none (some ⟨R.enc, .sh⟩) (some ⟨.list (R.keys.map .str), .sh⟩) (homeB n k).enc q.enc (sgD k) (encWy way) (encWy ring) u.enc last.enc) =
      .ok (.fr (.list ((R.keys.map fun j => (((kT (homeB n k) j).signs.length : Nat) : Int)).map .int))) (bSt x0 x1 x3 x4 x6 x7 x9 x10 x11 x12 x13 (some ⟨.int t, .sh⟩) (some ⟨R.enc, .sh⟩) none (some ⟨R.enc, .sh⟩) (some ⟨.list (R.keys.map .str), .sh⟩) (homeB n k).enc q.enc (sgD k) (encWy way) (encWy ring) u.enc last.enc) := fun _ => by
    have := lcL_all (vs := [25]) (g := gN 25) (fe := eNox (m_law_k70_2_ce1 Fr Fw Fi Fp Fg Fx Fq Fa Fs Fm Fn Fh Fk)) (bSt x0 x1 x3 x4 x6 x7 x9 x10 x11 x12 x13 (some ⟨.int t, .sh⟩) (some ⟨R.enc, .sh⟩) none (some ⟨R.enc, .sh⟩) (some ⟨.list (R.keys.map .str), .sh⟩) (homeB n k).enc q.enc (sgD k) (encWy way) (encWy ring) u.enc last.enc) (fun j : Str => PyData.str j)
      (fun j => [x0, x1, some ⟨(homeB n k).enc, .sh⟩, x3, x4, some ⟨q.enc, .sh⟩, x6, x7, some ⟨sgD k, .ow⟩, x9, x10, x11, x12, x13, some ⟨.int t, .sh⟩, some ⟨encWy way, .sh⟩, some ⟨encWy ring, .sh⟩, some ⟨u.enc, .sh⟩, some ⟨last.enc, .sh⟩, some ⟨R.enc, .sh⟩, none, some ⟨R.enc, .sh⟩, some ⟨.list (R.keys.map .str), .sh⟩, none, none, some ⟨.str j, .sh⟩])
      (fun j => .int (((kT (homeB n k) j).signs.length : Nat) : Int)) R.keys [] (fits (by rw [kl]; simp; omega)) (fun j mj => by
        have e := sg_at (n := n) K (kin j mj)
        generalize sgD k = sg at e ⊢
        generalize (homeB n k).enc = be
        exact ⟨by simp, by simp, by simp [m_law_k70_2_ce1, e]⟩)
    rw [this, List.nil_append, List.map_map]
    rfl
  have g0 : gN 14 (.int t) (bSt x0 x1 x3 x4 x6 x7 x9 x10 x11 x12 x13 none none none none none (homeB n k).enc q.enc (sgD k) (encWy way) (encWy ring) u.enc last.enc) = some (bSt x0 x1 x3 x4 x6 x7 x9 x10 x11 x12 x13 (some ⟨.int t, .sh⟩) none none none none (homeB n k).enc q.enc (sgD k) (encWy way) (encWy ring) u.enc last.enc) := by simp [bSt]
  rw [g0, optR_s]
  have rw0 : R.size ≤ 12 → Fr [some ⟨(homeB n k).enc, .sh⟩, some ⟨R.enc, .sh⟩] = .ok (.sh (.tuple ((builtN (homeB n k) 12 R).signs.map .str))) [none, none] := fun h12 => hr _ R B ⟨RO, by have := dep_size R; omega, by omega, by omega⟩
  have sm : R.size ≤ 12 → sumD (.list ((R.keys.map fun j => (((kT (homeB n k) j).signs.length : Nat) : Int)).map .int)) = some (.sh (.int ((builtN (homeB n k) 12 R).signs.length : Nat))) := fun h12 => by
    rw [sumD_l, ← built_count (m := 12) B RO (by have := dep_size R; omega)]
  have lsg : ((builtN (homeB n k) 12 R).signs.map PyData.str).length = (builtN (homeB n k) 12 R).signs.length := by rw [List.length_map]
  have lks : (R.keys.map PyData.str).length = R.size := by rw [List.length_map, kl]
  generalize (builtN (homeB n k) 12 R).signs.map PyData.str = SG at rw0 lsg
  generalize (builtN (homeB n k) 12 R).signs.length = sn at lsg sm
  generalize (R.keys.map fun j => (((kT (homeB n k) j).signs.length : Nat) : Int)).map PyData.int = IL at lc2 sm
  generalize R.keys.map PyData.str = KL at lc lc2 lks
  generalize (Pl.ways [] R).map encWP = WL at w1 lc
  generalize R.enc = re at *
  refine kill_of (bSt x0 x1 x3 x4 x6 x7 x9 x10 x11 x12 x13 (some ⟨.int t, .sh⟩) (some ⟨re, .sh⟩) none (some ⟨re, .sh⟩) (some ⟨.list KL, if R.size ≤ 12 then .sh else .ow⟩) (homeB n k).enc q.enc (sgD k) (encWy way) (encWy ring) u.enc last.enc) ?_ ?_ ?_
  · simp [bSt]
  · refine seq_of (bSt x0 x1 x3 x4 x6 x7 x9 x10 x11 x12 x13 (some ⟨.int t, .sh⟩) (some ⟨last.enc, .sh⟩) none none none (homeB n k).enc q.enc (sgD k) (encWy way) (encWy ring) u.enc last.enc) (by simp [bSt]) ?_
    refine seq_of (bSt x0 x1 x3 x4 x6 x7 x9 x10 x11 x12 x13 (some ⟨.int t, .sh⟩) (some ⟨(turns u ring last t).enc, .sh⟩) none none none (homeB n k).enc q.enc (sgD k) (encWy way) (encWy ring) u.enc last.enc) ?_ ?_
    · rw [turns] at loop
      simp only [sFor_eq]
      have : iR1 (eVb 14) (bSt x0 x1 x3 x4 x6 x7 x9 x10 x11 x12 x13 (some ⟨.int t, .sh⟩) (some ⟨last.enc, .sh⟩) none none none (homeB n k).enc q.enc (sgD k) (encWy way) (encWy ring) u.enc last.enc) = .ok (rgD 0 t) (bSt x0 x1 x3 x4 x6 x7 x9 x10 x11 x12 x13 (some ⟨.int t, .sh⟩) (some ⟨last.enc, .sh⟩) none none none (homeB n k).enc q.enc (sgD k) (encWy way) (encWy ring) u.enc last.enc) := by simp [bSt, o, tn]
      rw [this, bindI_ok]
      exact loop
    generalize (turns u ring last t).enc = te at f1
    generalize (homeB n k).enc = be at *
    generalize q.enc = qe at *
    generalize sgD k = sg at *
    generalize encWy way = we at *
    generalize encWy ring = ge at *
    generalize u.enc = ue at *
    generalize last.enc = le at *
    refine seq_of (bSt x0 x1 x3 x4 x6 x7 x9 x10 x11 x12 x13 (some ⟨.int t, .sh⟩) (some ⟨re, .sh⟩) none none none be qe sg we ge ue le) (by simp [bSt, f1]) ?_
    refine seq_of (bSt x0 x1 x3 x4 x6 x7 x9 x10 x11 x12 x13 (some ⟨.int t, .sh⟩) (some ⟨re, .sh⟩) none (some ⟨re, .sh⟩) none be qe sg we ge ue le) (by simp [bSt, f2]) ?_
    refine seq_of (bSt x0 x1 x3 x4 x6 x7 x9 x10 x11 x12 x13 (some ⟨.int t, .sh⟩) (some ⟨re, .sh⟩) none (some ⟨re, .sh⟩) none be qe sg we ge ue le) (by simp [bSt, tup, eqs]) ?_
    refine seq_of (bSt x0 x1 x3 x4 x6 x7 x9 x10 x11 x12 x13 (some ⟨.int t, .sh⟩) (some ⟨re, .sh⟩) none (some ⟨re, .sh⟩) none be qe sg we ge ue le) (by simp [bSt, p1, p2]) ?_
    refine seq_of (bSt x0 x1 x3 x4 x6 x7 x9 x10 x11 x12 x13 (some ⟨.int t, .sh⟩) (some ⟨re, .sh⟩) none (some ⟨re, .sh⟩) (some ⟨.list KL, .ow⟩) be qe sg we ge ue le) ?_ ?_
    · simp only [bSt] at lc
      simp [bSt, w1, lc]
    · by_cases c : R.size ≤ 12
      · have r0 := rw0 c
        have l2 := lc2 c
        have sm := sm c
        simp only [bSt] at l2
        rw [if_pos c]
        have c' : (R.size : Int) ≤ 12 := by omega
        simp [bSt, lks, c', c, r0, l2, sm, lsg]
      · rw [if_neg c]
        have c' : ¬ (R.size : Int) ≤ 12 := by omega
        simp [bSt, lks, c', c]
  · simp [bSt]
end
end GZ
namespace GZ
open PySem L2 GS GM
theorem list6 {α : Type} {L : List α} (h : L.length = 6) : ∃ a b c d e f, L = [a, b, c, d, e, f] := by
  match L, h with
  | [a, b, c, d, e, f], _ => exact ⟨a, b, c, d, e, f, rfl⟩
theorem list4 {α : Type} {L : List α} (h : L.length = 4) : ∃ a b c d, L = [a, b, c, d] := by
  match L, h with
  | [a, b, c, d], _ => exact ⟨a, b, c, d, rfl⟩
theorem sg_merge {k : Ky4} (K : OkKy k) : dMerge [(.str k.k0, .int 2), (.str k.k1, .int 1), (.str k.k2, .int 1), (.str k.k3, .int 1)] = [(.str k.k0, .int 2), (.str k.k1, .int 1), (.str k.k2, .int 1), (.str k.k3, .int 1)] := by
  obtain ⟨h01, h02, h03, h12, h13, h23⟩ := ky_ne K
  have z : ∀ x y : Str, kEq (.str x) (.str y) = decide (x = y) := fun _ _ => rfl
  simp [dMerge, dPut, z, h01, h02, h03, h12, h13, h23]
section
variable {n : Nm4} {k : Ky4}
/-- the plan that is drawn -/
theorem plan_drawn (K : OkKy k) {ps : List (List Nat × Pl)} {v : Pl} (M : MayP n k 3 [] ps) (V : DrQ n k 3 false v) :
    PlOk (homeB n k) (.mk k.k0 [([1], v)]) ∧ PlOk (homeB n k) (.mk k.k0 (ps ++ [([1], .mk k.k0 [([1], v)])])) ∧ (Pl.mk k.k0 (ps ++ [([1], .mk k.k0 [([1], v)])])).size ≤ 400 ∧ (Pl.mk k.k0 (ps ++ [([1], .mk k.k0 [([1], v)])])).dep ≤ 6 := by
  obtain ⟨t0, _, _, _⟩ := home_tree (n := n) K
  obtain ⟨z1, z2, z3⟩ := M.sz
  have hV := V.sz
  have dV := V.dep
  have kV := V.key
  rw [if_neg (by simp)] at kV
  have Q1 : PlOk (homeB n k) (.mk k.k0 [([1], v)]) := by
    refine .mk t0 (.skip (p := []) (u := linkT n) rfl (.skip (p := [0]) (u := .sign A1) rfl (.put (p := [1]) (u := .hole n.n0) ?_ V.ok (.skip (p := [2]) (u := innerT n) rfl (.skip (p := [2, 0]) (u := .sign AB) rfl .nil)))))
    rw [home_starts _ true rfl]
    rcases kV with e | e <;> simp [e]
  refine ⟨Q1, .mk t0 (M.puts (u := linkT n) rfl (.skip (p := [0]) (u := .sign A1) rfl (.put (p := [1]) (u := .hole n.n0) ?_ Q1 (.skip (p := [2]) (u := innerT n) rfl (.skip (p := [2, 0]) (u := .sign AB) rfl .nil))))), ?_, ?_⟩
  · rw [home_starts _ true rfl]; simp [Pl.key]
  · simp only [Pl.size, sizeL_app, Pl.sizeL, Pl.sizeX]
    omega
  · simp only [Pl.dep, depL_app, Pl.depL, Pl.depX]
    omega
theorem pairs_some (ps : List (List Nat × Pl)) (q1 : Pl) (k0 : Str) (h : q1.key = k0) : pairsOf (Pl.ways [] (.mk k0 (ps ++ [([1], q1)]))) ≠ [] := fun e => by
  have m1 : (([], .mk k0 (ps ++ [([1], q1)])) : Way × Pl) ∈ Pl.ways [] (.mk k0 (ps ++ [([1], q1)])) := by rw [Pl.ways]; simp
  have wa : ∀ (a c : List (List Nat × Pl)), Pl.waysL [] (a ++ c) = Pl.waysL [] a ++ Pl.waysL [] c := fun a c => by
    induction a with
    | nil => simp [Pl.waysL]
    | cons x a ih => rw [List.cons_append, Pl.waysL, Pl.waysL, ih, List.append_assoc]
  have m2 : (([[1]], q1) : Way × Pl) ∈ Pl.ways [] (.mk k0 (ps ++ [([1], q1)])) := by
    rw [Pl.ways, wa, Pl.waysL, Pl.waysX]
    have : (([[1]], q1) : Way × Pl) ∈ Pl.ways [[1]] q1 := by cases q1; rw [Pl.ways]; simp
    simp [this]
  have : prOf ([], .mk k0 (ps ++ [([1], q1)])) ([[1]], q1) ∈ pairsOf (Pl.ways [] (.mk k0 (ps ++ [([1], q1)]))) := by
    unfold pairsOf
    refine List.mem_flatMap.mpr ⟨_, m1, List.mem_map.mpr ⟨_, List.mem_filter.mpr ⟨m2, ?_⟩, rfl⟩⟩
    unfold prB
    dsimp only
    rw [Bool.and_eq_true, Bool.and_eq_true]
    exact ⟨decide_eq_true (by simp), decide_eq_true (by simp), decide_eq_true h⟩
  rw [e] at this
  cases this
end
/-- how often -/
theorem times_ok {dq l D many W pick : Int} (hl : 1 ≤ l) (hd : dq ≤ 6) (h0 : 0 ≤ dq) (hD : dq ≤ D) : ∀ t ∈ [(0 : Int), 1, if 1 + 14 / l < 2 + pick % 6 then 1 + 14 / l else 2 + pick % 6, if 1 + (if W < (20 - D) / l then W else (20 - D) / l) > 1 then 1 + (if W < (20 - D) / l then W else (20 - D) / l) else 1],
    0 ≤ t ∧ t ≤ 30 ∧ dq + (t - 1) * l ≤ 20 ∧ (t = 0 ∨ 1 ≤ t) := by
  have q14 := Int.ediv_mul_le 14 (b := l) (by omega)
  have p14 : 0 ≤ 14 / l := Int.ediv_nonneg (by omega) (by omega)
  have l14 : 14 / l ≤ 14 := Int.ediv_le_self _ (by omega)
  have p6 : 0 ≤ pick % 6 := by omega
  have bound : ∀ x c : Int, 0 ≤ x → x ≤ c / l → x * l ≤ c := fun x c hx hc => by
    have h1 := Int.mul_le_mul_of_nonneg_right hc (show 0 ≤ l by omega)
    have h2 := Int.ediv_mul_le c (b := l) (by omega)
    omega
  have big : ∀ x : Int, 0 ≤ x → x ≤ x * l := fun x hx => by
    have := Int.mul_le_mul_of_nonneg_left (show (1 : Int) ≤ l by omega) hx
    omega
  intro t m
  simp only [List.mem_cons, List.not_mem_nil, or_false] at m
  rcases m with rfl | rfl | h | h
  · refine ⟨by omega, by omega, ?_, .inl rfl⟩
    have : (0 - 1) * l = -l := by omega
    omega
  · refine ⟨by omega, by omega, ?_, .inr (by omega)⟩
    have : (1 - 1) * l = 0 := by omega
    omega
  · have t1 : 1 ≤ t ∧ t - 1 ≤ 14 / l := by split at h <;> omega
    have b1 := bound (t - 1) 14 (by omega) t1.2
    have b2 := big (t - 1) (by omega)
    exact ⟨by omega, by omega, by omega, .inr t1.1⟩
  · have hA : (if W < (20 - D) / l then W else (20 - D) / l) ≤ (20 - D) / l := by split <;> omega
    generalize (if W < (20 - D) / l then W else (20 - D) / l) = A at h hA
    by_cases c : t = 1
    · subst c
      refine ⟨by omega, by omega, ?_, .inr (by omega)⟩
      have : (1 - 1) * l = 0 := by omega
      omega
    · have t1 : 1 ≤ t ∧ t - 1 ≤ (20 - D) / l := by
        split at h
        · omega
        · exact absurd h c
      have b1 := bound (t - 1) (20 - D) (by omega) t1.2
      have b2 := big (t - 1) (by omega)
      exact ⟨by omega, by omega, by omega, .inr t1.1⟩
abbrev lSt (x1 x2 x3 x4 x5 x6 x7 x8 x9 x10 x11 x12 x13 x15 x16 x17 x18 : Option Cel) (sc : D) : Rho :=
  [some ⟨sc, .sh⟩, x1, x2, x3, x4, x5, x6, x7, x8, x9, x10, x11, x12, x13, none, x15, x16, x17, x18, none, none, none, none, none, none, none]
section
variable {Fr Fw Fi Fp Fg Fx Fq Fa Fs Fm Fn Fh Fk : FF}
theorem law_k70_ok (hr : RowOfSp 2 12 Fr) (hw : WaysSp 20 Fw) (hi : WholeSp 2 Fi) (hp : IsPlanSp 2 20 Fp) (hg : GoneSp 20 Fg) (hx : WithSp 20 Fx) (hq : PairsSp 20 Fq) (ha : CAtSp Fa) (hs : Gen false 3 Fs) (hm : MayGen 3 Fm) (hn : NamesSp Fn) (hh : HomeSp Fh) (hk : KeysSp Fk) (ns : List Int) :
    fnF 26 1 (m_law_k70_2 Fr Fw Fi Fp Fg Fx Fq Fa Fs Fm Fn Fh Fk) [some ⟨.list (ns.map .int), .sh⟩] = .ok (.sh (.bool true)) [none] := by
  rw [m_law_k70_2_eq]
  obtain ⟨c0, a0⟩ := ha ns 0
  obtain ⟨c1, a1⟩ := ha ns 1
  obtain ⟨c2, a2⟩ := ha ns 2
  obtain ⟨c3, a3⟩ := ha ns 3
  obtain ⟨ka, kb, kd, kv, r1, r2, r3, ek⟩ := hk c2 4 (by omega)
  obtain ⟨na, nb, nd, nv, s1, s2, s3, en⟩ := hn c1
  obtain ⟨WK, lK⟩ := nmL_ok kv 1 r1 r2 r3
  obtain ⟨_, lN⟩ := nmL_ok nv 0 s1 s2 s3
  have WK4 := WK.take 4
  obtain ⟨k0, k1, k2, k3, e4⟩ := list4 (L := (nmL kv 1 ka kb kd).take 4) (by rw [List.length_take, lK]; rfl)
  obtain ⟨n0, n1, n2, n3, n4, n5, e6⟩ := list6 lN
  rw [e4] at WK4 ek
  rw [e6] at en
  obtain ⟨k, hkk⟩ : ∃ k : Ky4, k = ⟨k0, k1, k2, k3⟩ := ⟨_, rfl⟩
  obtain ⟨n, hnn⟩ : ∃ n : Nm4, n = ⟨n0, n1, n2, n3⟩ := ⟨_, rfl⟩
  have K : OkKy k := by subst hkk; exact ⟨WK4.nd, WK4.so⟩
  have ek : Fk [some ⟨.int c2, .sh⟩, some ⟨.int 4, .sh⟩] = .ok (.fr (kyD k)) [none, none] := by subst hkk; exact ek
  have eh : Fh [some ⟨.list ([n0, n1, n2, n3, n4, n5].map .str), .sh⟩, some ⟨kyD k, .sh⟩] = .ok (.sh (homeB n k).enc) [none, none] := by
    have := hh n k [.str n4, .str n5]
    subst hkk hnn
    exact this
  obtain ⟨B, _⟩ := home_bk (n := n) K
  obtain ⟨y0, y1, y2, y3⟩ := ky_at k
  obtain ⟨ps, i1, j1, em, M⟩ := hm n k ns 3 2 [] c3 K
  obtain ⟨v, i2, j2, es, V⟩ := hs n k ns i1 j1 K
  obtain ⟨Q1, Q, qs, qd⟩ := plan_drawn K M V
  have z1 := M.sz.1
  have pne := pairs_some ps (.mk k.k0 [([1], v)]) k.k0 rfl
  have em : Fm [some ⟨st3 ns 3 2, .io⟩, some ⟨kyD k, .sh⟩, some ⟨.tuple [], .sh⟩, some ⟨.int c3, .sh⟩, some ⟨.int 3, .sh⟩] = .ok (.fr (.list (ps.map Pl.encX))) [some ⟨st3 ns i1 j1, .io⟩, none, none, none, none] := em
  have eq1 : Pl.enc (.mk k.k0 [([1], v)]) = .tuple [.str k.k0, .tuple [.tuple [.tuple [.int 1], v.enc]]] := by
    rw [penc_eq, show (Pl.mk k.k0 [([1], v)]).puts.map Pl.encX = [.tuple [encP [1], v.enc]] by simp [Pl.puts, pencX_eq]]
    rfl
  have eq2 : Pl.enc (.mk k.k0 (ps ++ [([1], .mk k.k0 [([1], v)])])) = .tuple [.str k.k0, .tuple (ps.map Pl.encX ++ [.tuple [.tuple [.int 1], Pl.enc (.mk k.k0 [([1], v)])]])] := by
    rw [penc_eq, show (Pl.mk k.k0 (ps ++ [([1], .mk k.k0 [([1], v)])])).puts.map Pl.encX = ps.map Pl.encX ++ [.tuple [encP [1], Pl.enc (.mk k.k0 [([1], v)])]] by simp [Pl.puts, pencX_eq]]
    rfl
  obtain ⟨q, hq0⟩ : ∃ q : Pl, q = .mk k.k0 (ps ++ [([1], .mk k.k0 [([1], v)])]) := ⟨_, rfl⟩
  have qk : q.key = k.k0 := by rw [hq0]; rfl
  rw [← hq0] at Q qs qd pne eq2
  have Zq := PlOk.zp B Q
  have ep := hq q (by omega) qs (by omega)
  -- the pair that is picked
  obtain ⟨pl, hpl⟩ : ∃ pl : Nat, pl = ((pairsOf (Pl.ways [] q)).map encPr).length := ⟨_, rfl⟩
  have pl1 : 1 ≤ pl := by
    rw [hpl, List.length_map]
    cases h : pairsOf (Pl.ways [] q) with
    | nil => exact absurd h pne
    | cons => simp
  obtain ⟨pd, hpd, mpd⟩ := atI_lt (xs := (pairsOf (Pl.ways [] q)).map encPr) (i := c0 / 6 % (pl : Int)) (Int.emod_nonneg _ (by omega)) (by rw [← hpl]; exact Int.emod_lt_of_pos _ (by omega))
  obtain ⟨pr, mpr, rfl⟩ := List.mem_map.mp mpd
  have P := pairs_ok Zq pr mpr
  have d1 := at_dep P.a
  have d2 := at_dep P.r
  have w1 := at_size P.a
  have w2 := at_size P.r
  have pl' := P.l
  have ww : ∀ u : Pl, u.dep ≤ 6 → u.size ≤ 400 → Fw [some ⟨u.enc, .sh⟩, some ⟨.tuple [], .sh⟩, some ⟨.list [], .ow⟩] = .ok (.fr (.list ((Pl.ways [] u).map encWP))) [none, none, none] := fun u h1 h2 => by
    have := hw.ow u [] [] (by omega) (by simp; omega) (by simp; omega)
    rw [List.nil_append] at this
    exact this
  have f9 := ww pr.2.2.2 (by omega) (by omega)
  have f10 := ww q qd qs
  have f12 := ww pr.2.2.1 (by omega) (by omega)
  have l9 : ((Pl.ways [] pr.2.2.2).map encWP).length = pr.2.2.2.size := by rw [List.length_map, ways_len]
  have l10 : ((Pl.ways [] q).map encWP).length = q.size := by rw [List.length_map, ways_len]
  have l12 : ((Pl.ways [] pr.2.2.1).map encWP).length = pr.2.2.1.size := by rw [List.length_map, ways_len]
  -- how deep
  have lcq := fun (ρ : Rho → Rho) => True
  have dd : ∃ D : Int, maxLD (.list ((Pl.ways [] q).map fun x => PyData.int (x.1.length : Int))) = some (.sh (.int D)) ∧ (q.dep : Int) ≤ 1 + D := by
    have e : (Pl.ways [] q).map (fun x => PyData.int (x.1.length : Int)) = ((Pl.ways [] q).map fun x => (x.1.length : Int)).map .int := by rw [List.map_map]; rfl
    obtain ⟨x, mx, ex⟩ := ways_deep q []
    refine ⟨_, by rw [e]; exact maxLD_l (fun z => by rw [List.map_eq_nil_iff] at z; rw [z] at mx; cases mx), ?_⟩
    have := maxI_le (List.mem_map_of_mem (f := fun x : Way × Pl => (x.1.length : Int)) mx)
    rw [List.length_nil, Nat.zero_add] at ex
    omega
  obtain ⟨DI, hDI, leD⟩ := dd
  have mm : (0 : Int) < (pr.2.2.1.size : Int) - (pr.2.2.2.size : Int) := by omega
  have mb : (pr.2.2.1.size : Int) - (pr.2.2.2.size : Int) < 1073741824 := by omega
  have lrp : (0 : Int) < (pr.2.1.length : Int) := by omega
  have lrb : (pr.2.1.length : Int) < 1073741824 := by omega
  have T := times_ok (dq := (q.dep : Int)) (l := (pr.2.1.length : Int)) (D := 1 + DI) (many := 0) (W := (200 - (q.size : Int)) / ((pr.2.2.1.size : Int) - (pr.2.2.2.size : Int))) (pick := c0) (by omega) (by omega) (by omega) leD
  have a0 : Fa [some ⟨.list (ns.map .int), .sh⟩, some ⟨.int 0, .sh⟩] = .ok (.sh (.int c0)) [none, none] := a0
  have a1 : Fa [some ⟨.list (ns.map .int), .sh⟩, some ⟨.int 1, .sh⟩] = .ok (.sh (.int c1)) [none, none] := a1
  have a2 : Fa [some ⟨.list (ns.map .int), .sh⟩, some ⟨.int 2, .sh⟩] = .ok (.sh (.int c2)) [none, none] := a2
  have a3 : Fa [some ⟨.list (ns.map .int), .sh⟩, some ⟨.int 3, .sh⟩] = .ok (.sh (.int c3)) [none, none] := a3
  have es : Fs [some ⟨st3 ns i1 j1, .io⟩, some ⟨kyD k, .sh⟩, some ⟨.int 3, .sh⟩] = .ok (.sh v.enc) [some ⟨st3 ns i2 j2, .io⟩, none, none] := es
  have e3 : st3 ns 3 2 = .list [.list (ns.map .int), .int 3, .int 2] := rfl
  rw [e3] at em
  have zp : (ps.map Pl.encX).length + 1 ≤ sizeLine := fits (by rw [List.length_map]; omega)
  have body := fun (t : Nat) (h1 : t ≤ 30) (h2 : q.dep + (t - 1) * pr.2.1.length ≤ 20) (x0 x1 x3 x4 x6 x7 x9 x10 x11 x12 x13 : Option Cel) => body_ok (Fm := Fm) (Fn := Fn) (Fh := Fh) (Fk := Fk) (Fq := Fq) (Fa := Fa) (Fs := Fs) hr hw hi hp hg hx K Q qk P qs t h1 h2 x0 x1 x3 x4 x6 x7 x9 x10 x11 x12 x13
  have sgm := sg_merge K
  have sgD' : sgD k = .dict [(.str k.k0, .int 2), (.str k.k1, .int 1), (.str k.k2, .int 1), (.str k.k3, .int 1)] := rfl
  -- the lengths of the ways
  have lcW := fun (x1 x2 x3 x4 x5 x6 x7 x8 x9 x11 x12 x13 x15 x16 x17 x18 : Option Cel) (sc : D) => lcL_all (vs := [23, 24]) (g := gT 2 (gsC (gN 23) (gsC (gN 24) gsN))) (fe := eNox (m_law_k70_2_ce5 Fr Fw Fi Fp Fg Fx Fq Fa Fs Fm Fn Fh Fk)) (lSt x1 x2 x3 x4 x5 x6 x7 x8 x9 (some ⟨.list ((Pl.ways [] q).map encWP), .sh⟩) x11 x12 x13 x15 x16 x17 x18 sc) encWP
    (fun x => [some ⟨sc, .sh⟩, x1, x2, x3, x4, x5, x6, x7, x8, x9, some ⟨.list ((Pl.ways [] q).map encWP), .sh⟩, x11, x12, x13, none, x15, x16, x17, x18, none, none, none, none, some ⟨encWy x.1, .sh⟩, some ⟨x.2.enc, .sh⟩, none])
    (fun x => .int (x.1.length : Int)) (Pl.ways [] q) [] (fits (by rw [ways_len]; simp; omega)) (fun x _ => by
      have i0 := wayD_len x.1
      have ex : encWP x = .tuple [encWy x.1, x.2.enc] := rfl
      rw [ex]
      generalize (Pl.ways [] q).map encWP = WL
      generalize x.2.enc = xe
      generalize encWy x.1 = xw at i0 ⊢
      exact ⟨by simp, by simp, by simp [m_law_k70_2_ce5, i0]⟩)
  simp only [List.nil_append] at lcW
  have lrn := wayD_len pr.2.1
  have eprq : encPr pr = .tuple [encWy pr.1, encWy pr.2.1, pr.2.2.1.enc, pr.2.2.2.enc] := rfl
  rw [eprq] at hpd
  have ysz : ((pairsOf (Pl.ways [] q)).map encPr).length = pl := hpl.symm
  rw [eq1] at eq2
  generalize (Pl.ways [] q).map (fun x => PyData.int (x.1.length : Int)) = LN at hDI lcW
  generalize (Pl.ways [] pr.2.2.2).map encWP = W9 at f9 l9
  generalize (Pl.ways [] pr.2.2.1).map encWP = W12 at f12 l12
  generalize (Pl.ways [] q).map encWP = W10 at f10 l10 lcW
  generalize (pairsOf (Pl.ways [] q)).map encPr = PL at ep hpd ysz
  generalize ps.map Pl.encX = pe at em eq2 zp
  generalize ns.map PyData.int = nl at *
  unfold m_law_k70_2
  refine fin_seq (lSt (some ⟨kyD k, .ow⟩) none none none none none none none none none none none none none none none none (.list nl)) (by simp [lSt, a2, ek]) ?_
  refine fin_seq (lSt (some ⟨kyD k, .sh⟩) (some ⟨(homeB n k).enc, .sh⟩) none none none none none none none none none none none none none none none (.list nl)) (by
    simp only [List.map_cons, List.map_nil] at en eh
    generalize (homeB n k).enc = be at eh ⊢
    generalize kyD k = kd at eh ⊢
    simp [lSt, a1, en, eh]) ?_
  refine fin_seq (lSt (some ⟨kyD k, .sh⟩) (some ⟨(homeB n k).enc, .sh⟩) (some ⟨.list [.list nl, .int 3, .int 2], .ow⟩) none none none none none none none none none none none none none none (.list nl)) (by simp [lSt]) ?_
  refine fin_seq (lSt (some ⟨kyD k, .sh⟩) (some ⟨(homeB n k).enc, .sh⟩) (some ⟨st3 ns i1 j1, .ow⟩) (some ⟨.list pe, .ow⟩) none none none none none none none none none none none none none (.list nl)) (by
    generalize st3 ns i1 j1 = s1 at em ⊢
    simp [lSt, a3, em]) ?_
  refine fin_seq (lSt (some ⟨kyD k, .sh⟩) (some ⟨(homeB n k).enc, .sh⟩) (some ⟨st3 ns i2 j2, .ow⟩) (some ⟨.list pe, .ow⟩) (some ⟨.tuple [.str k.k0, .tuple [.tuple [.tuple [.int 1], v.enc]]], .sh⟩) none none none none none none none none none none none none (.list nl)) (by
    generalize st3 ns i1 j1 = s1 at es ⊢
    generalize st3 ns i2 j2 = s2 at es ⊢
    simp [lSt, y0, es]) ?_
  refine fin_seq (lSt (some ⟨kyD k, .sh⟩) (some ⟨(homeB n k).enc, .sh⟩) (some ⟨st3 ns i2 j2, .ow⟩) (some ⟨.list pe, .ow⟩) (some ⟨q.enc, .sh⟩) none none none none none none none none none none none none (.list nl)) (by
    rw [eq2]
    generalize PyData.tuple [.str k.k0, .tuple [.tuple [.tuple [.int 1], v.enc]]] = q1
    simp [lSt, y0, zp]) ?_
  refine fin_seq (lSt (some ⟨kyD k, .sh⟩) (some ⟨(homeB n k).enc, .sh⟩) (some ⟨st3 ns i2 j2, .ow⟩) (some ⟨.list pe, .ow⟩) (some ⟨q.enc, .sh⟩) (some ⟨.int c0, .sh⟩) none none none none none none none none none none none (.list nl)) (by simp [lSt, a0]) ?_
  refine fin_seq (lSt (some ⟨kyD k, .sh⟩) (some ⟨(homeB n k).enc, .sh⟩) (some ⟨st3 ns i2 j2, .ow⟩) (some ⟨.list pe, .ow⟩) (some ⟨q.enc, .sh⟩) (some ⟨.int c0, .sh⟩) (some ⟨.list PL, .ow⟩) none none none none none none none none none none (.list nl)) (by simp [lSt, ep]) ?_
  have pl1' : (0 : Int) < (pl : Int) := by omega
  have pl0 : 0 < pl := by omega
  refine fin_seq (lSt (some ⟨kyD k, .sh⟩) (some ⟨(homeB n k).enc, .sh⟩) (some ⟨st3 ns i2 j2, .ow⟩) (some ⟨.list pe, .ow⟩) (some ⟨q.enc, .sh⟩) (some ⟨.int c0, .sh⟩) (some ⟨.list PL, .ow⟩) none none none none none none (some ⟨encWy pr.1, .sh⟩) (some ⟨encWy pr.2.1, .sh⟩) (some ⟨pr.2.2.1.enc, .sh⟩) (some ⟨pr.2.2.2.enc, .sh⟩) (.list nl)) (by simp [lSt, ysz, pl0, pl1', hpd]) ?_
  refine fin_seq (lSt (some ⟨kyD k, .sh⟩) (some ⟨(homeB n k).enc, .sh⟩) (some ⟨st3 ns i2 j2, .ow⟩) (some ⟨.list pe, .ow⟩) (some ⟨q.enc, .sh⟩) (some ⟨.int c0, .sh⟩) (some ⟨.list PL, .ow⟩) (some ⟨sgD k, .ow⟩) none none none none none (some ⟨encWy pr.1, .sh⟩) (some ⟨encWy pr.2.1, .sh⟩) (some ⟨pr.2.2.1.enc, .sh⟩) (some ⟨pr.2.2.2.enc, .sh⟩) (.list nl)) (by
    rw [sgD']
    simp [lSt, y0, y1, y2, y3, sgm]) ?_
  generalize sgD k = sg at body ⊢
  generalize (homeB n k).enc = be at body ⊢
  generalize encWy pr.1 = we at body ⊢
  generalize encWy pr.2.1 = ge at body lrn ⊢
  generalize pr.2.2.1.enc = ue at f12 body ⊢
  generalize pr.2.2.2.enc = le at f9 body ⊢
  generalize q.enc = qe at f10 body ⊢
  refine fin_seq (lSt (some ⟨kyD k, .sh⟩) (some ⟨be, .sh⟩) (some ⟨st3 ns i2 j2, .ow⟩) (some ⟨.list pe, .ow⟩) (some ⟨qe, .sh⟩) (some ⟨.int c0, .sh⟩) (some ⟨.list PL, .ow⟩) (some ⟨sg, .ow⟩) (some ⟨.list W9, .ow⟩) none none none none (some ⟨we, .sh⟩) (some ⟨ge, .sh⟩) (some ⟨ue, .sh⟩) (some ⟨le, .sh⟩) (.list nl)) (by simp [lSt, f9]) ?_
  refine fin_seq (lSt (some ⟨kyD k, .sh⟩) (some ⟨be, .sh⟩) (some ⟨st3 ns i2 j2, .ow⟩) (some ⟨.list pe, .ow⟩) (some ⟨qe, .sh⟩) (some ⟨.int c0, .sh⟩) (some ⟨.list PL, .ow⟩) (some ⟨sg, .ow⟩) (some ⟨.list W9, .ow⟩) (some ⟨.list W10, .ow⟩) none none none (some ⟨we, .sh⟩) (some ⟨ge, .sh⟩) (some ⟨ue, .sh⟩) (some ⟨le, .sh⟩) (.list nl)) (by simp [lSt, f10]) ?_
  have lcW' := lcW (some ⟨kyD k, .sh⟩) (some ⟨be, .sh⟩) (some ⟨st3 ns i2 j2, .ow⟩) (some ⟨.list pe, .ow⟩) (some ⟨qe, .sh⟩) (some ⟨.int c0, .sh⟩) (some ⟨.list PL, .ow⟩) (some ⟨sg, .ow⟩) (some ⟨.list W9, .ow⟩) none none none (some ⟨we, .sh⟩) (some ⟨ge, .sh⟩) (some ⟨ue, .sh⟩) (some ⟨le, .sh⟩) (.list nl)
  refine fin_seq (lSt (some ⟨kyD k, .sh⟩) (some ⟨be, .sh⟩) (some ⟨st3 ns i2 j2, .ow⟩) (some ⟨.list pe, .ow⟩) (some ⟨qe, .sh⟩) (some ⟨.int c0, .sh⟩) (some ⟨.list PL, .ow⟩) (some ⟨sg, .ow⟩) (some ⟨.list W9, .ow⟩) (some ⟨.list W10, .sh⟩) (some ⟨.int (1 + DI), .sh⟩) none none (some ⟨we, .sh⟩) (some ⟨ge, .sh⟩) (some ⟨ue, .sh⟩) (some ⟨le, .sh⟩) (.list nl)) (by
    simp only [lSt] at lcW' ⊢
    simp [lcW', hDI]) ?_
  refine fin_seq (lSt (some ⟨kyD k, .sh⟩) (some ⟨be, .sh⟩) (some ⟨st3 ns i2 j2, .ow⟩) (some ⟨.list pe, .ow⟩) (some ⟨qe, .sh⟩) (some ⟨.int c0, .sh⟩) (some ⟨.list PL, .ow⟩) (some ⟨sg, .ow⟩) (some ⟨.list W9, .ow⟩) (some ⟨.list W10, .sh⟩) (some ⟨.int (1 + DI), .sh⟩) (some ⟨.int ((pr.2.2.1.size : Int) - (pr.2.2.2.size : Int)), .sh⟩) none (some ⟨we, .sh⟩) (some ⟨ge, .sh⟩) (some ⟨ue, .sh⟩) (some ⟨le, .sh⟩) (.list nl)) (by simp [lSt, f12, l9, l12]) ?_
  generalize (pr.2.2.1.size : Int) - (pr.2.2.2.size : Int) = my at mm mb T ⊢
  generalize hrl : (pr.2.1.length : Int) = rl at lrp lrb lrn T ⊢
  generalize hW : (200 - (q.size : Int)) / my = WW at T
  generalize hA : (20 - (1 + DI)) / rl = AA at T
  refine fin_seq (lSt (some ⟨kyD k, .sh⟩) (some ⟨be, .sh⟩) (some ⟨st3 ns i2 j2, .ow⟩) (some ⟨.list pe, .ow⟩) (some ⟨qe, .sh⟩) (some ⟨.int c0, .sh⟩) (some ⟨.list PL, .ow⟩) (some ⟨sg, .ow⟩) (some ⟨.list W9, .ow⟩) (some ⟨.list W10, .sh⟩) (some ⟨.int (1 + DI), .sh⟩) (some ⟨.int my, .sh⟩) (some ⟨.int (1 + if WW < AA then WW else AA), .sh⟩) (some ⟨we, .sh⟩) (some ⟨ge, .sh⟩) (some ⟨ue, .sh⟩) (some ⟨le, .sh⟩) (.list nl)) (by
    simp [lSt, lrn, lrp, lrb, mm, mb, l10, hW, hA, minD]) ?_
  subst hA hW
  generalize hT1 : (if 1 + 14 / rl < 2 + c0 % 6 then 1 + 14 / rl else 2 + c0 % 6) = t1 at T
  generalize hT2 : (if (200 - (q.size : Int)) / my < (20 - (1 + DI)) / rl then (200 - (q.size : Int)) / my else (20 - (1 + DI)) / rl) = mn at T ⊢
  generalize hT3 : (if 1 + mn > 1 then 1 + mn else 1) = t2 at T
  have T' : ∀ t ∈ [(0 : Int), 1, t1, t2], optR (gN 14 (.int t) (lSt (some ⟨kyD k, .sh⟩) (some ⟨be, .sh⟩) (some ⟨st3 ns i2 j2, .ow⟩) (some ⟨.list pe, .ow⟩) (some ⟨qe, .sh⟩) (some ⟨.int c0, .sh⟩) (some ⟨.list PL, .ow⟩) (some ⟨sg, .ow⟩) (some ⟨.list W9, .ow⟩) (some ⟨.list W10, .sh⟩) (some ⟨.int (1 + DI), .sh⟩) (some ⟨.int my, .sh⟩) (some ⟨.int (1 + mn), .sh⟩) (some ⟨we, .sh⟩) (some ⟨ge, .sh⟩) (some ⟨ue, .sh⟩) (some ⟨le, .sh⟩) (.list nl))) (m_law_k70_2_b4 Fr Fw Fi Fp Fg Fx Fq Fa Fs Fm Fn Fh Fk) =
      .nx (lSt (some ⟨kyD k, .sh⟩) (some ⟨be, .sh⟩) (some ⟨st3 ns i2 j2, .ow⟩) (some ⟨.list pe, .ow⟩) (some ⟨qe, .sh⟩) (some ⟨.int c0, .sh⟩) (some ⟨.list PL, .ow⟩) (some ⟨sg, .ow⟩) (some ⟨.list W9, .ow⟩) (some ⟨.list W10, .sh⟩) (some ⟨.int (1 + DI), .sh⟩) (some ⟨.int my, .sh⟩) (some ⟨.int (1 + mn), .sh⟩) (some ⟨we, .sh⟩) (some ⟨ge, .sh⟩) (some ⟨ue, .sh⟩) (some ⟨le, .sh⟩) (.list nl)) := fun t m => by
    obtain ⟨h1, h2, h3, h4⟩ := T t m
    obtain ⟨tn, rfl⟩ : ∃ tn : Nat, t = (tn : Int) := ⟨t.toNat, by omega⟩
    refine body tn (by omega) ?_ _ _ _ _ _ _ _ _ _ _ _
    rcases h4 with z | z
    · have : tn = 0 := by omega
      subst this
      have : (0 - 1) * pr.2.1.length = 0 := by simp
      omega
    · have e : (((tn - 1) * pr.2.1.length : Nat) : Int) = ((tn : Int) - 1) * rl := by
        rw [Int.natCast_mul, hrl]
        congr 1
        omega
      omega
  have loop := forL_same (g := gN 14) (b := m_law_k70_2_b4 Fr Fw Fi Fp Fg Fx Fq Fa Fs Fm Fn Fh Fk) (lSt (some ⟨kyD k, .sh⟩) (some ⟨be, .sh⟩) (some ⟨st3 ns i2 j2, .ow⟩) (some ⟨.list pe, .ow⟩) (some ⟨qe, .sh⟩) (some ⟨.int c0, .sh⟩) (some ⟨.list PL, .ow⟩) (some ⟨sg, .ow⟩) (some ⟨.list W9, .ow⟩) (some ⟨.list W10, .sh⟩) (some ⟨.int (1 + DI), .sh⟩) (some ⟨.int my, .sh⟩) (some ⟨.int (1 + mn), .sh⟩) (some ⟨we, .sh⟩) (some ⟨ge, .sh⟩) (some ⟨ue, .sh⟩) (some ⟨le, .sh⟩) (.list nl)) PyData.int [(0 : Int), 1, t1, t2] T'
  have loop : forL (gN 14) (m_law_k70_2_b4 Fr Fw Fi Fp Fg Fx Fq Fa Fs Fm Fn Fh Fk) [.int 0, .int 1, .int t1, .int t2] _ = _ := loop
  refine fin_seq _ (?_ : _ = RS.nx (lSt (some ⟨kyD k, .sh⟩) (some ⟨be, .sh⟩) (some ⟨st3 ns i2 j2, .ow⟩) (some ⟨.list pe, .ow⟩) (some ⟨qe, .sh⟩) (some ⟨.int c0, .sh⟩) (some ⟨.list PL, .ow⟩) (some ⟨sg, .ow⟩) (some ⟨.list W9, .ow⟩) (some ⟨.list W10, .sh⟩) (some ⟨.int (1 + DI), .sh⟩) (some ⟨.int my, .sh⟩) (some ⟨.int (1 + mn), .sh⟩) (some ⟨we, .sh⟩) (some ⟨ge, .sh⟩) (some ⟨ue, .sh⟩) (some ⟨le, .sh⟩) (.list nl))) ?_
  · rw [← loop, sFor_eq]
    have e1 : iSq (eLst (aCons (eC (.int 0)) (aCons (eC (.int 1)) (aCons (eCB (un2 minD) (aCons (eBin addD (eC (.int 2)) (eBin modD (eVb 6) (eC (.int 6)))) (aCons (eBin addD (eC (.int 1)) (eBin divD (eC (.int 14)) (eCB (un1 lenD) (aCons (eVb 16) aNil)))) aNil))) (aCons (eCB (un2 maxD) (aCons (eC (.int 1)) (aCons (eVb 13) aNil))) aNil)))))
        (lSt (some ⟨kyD k, .sh⟩) (some ⟨be, .sh⟩) (some ⟨st3 ns i2 j2, .ow⟩) (some ⟨.list pe, .ow⟩) (some ⟨qe, .sh⟩) (some ⟨.int c0, .sh⟩) (some ⟨.list PL, .ow⟩) (some ⟨sg, .ow⟩) (some ⟨.list W9, .ow⟩) (some ⟨.list W10, .sh⟩) (some ⟨.int (1 + DI), .sh⟩) (some ⟨.int my, .sh⟩) (some ⟨.int (1 + mn), .sh⟩) (some ⟨we, .sh⟩) (some ⟨ge, .sh⟩) (some ⟨ue, .sh⟩) (some ⟨le, .sh⟩) (.list nl)) =
        .ok [.int 0, .int 1, .int t1, .int t2] (lSt (some ⟨kyD k, .sh⟩) (some ⟨be, .sh⟩) (some ⟨st3 ns i2 j2, .ow⟩) (some ⟨.list pe, .ow⟩) (some ⟨qe, .sh⟩) (some ⟨.int c0, .sh⟩) (some ⟨.list PL, .ow⟩) (some ⟨sg, .ow⟩) (some ⟨.list W9, .ow⟩) (some ⟨.list W10, .sh⟩) (some ⟨.int (1 + DI), .sh⟩) (some ⟨.int my, .sh⟩) (some ⟨.int (1 + mn), .sh⟩) (some ⟨we, .sh⟩) (some ⟨ge, .sh⟩) (some ⟨ue, .sh⟩) (some ⟨le, .sh⟩) (.list nl)) := by
      have mi : minD (.int (2 + c0 % 6)) (.int (1 + 14 / rl)) = some (.sh (.int t1)) := by rw [← hT1]; rfl
      have ma : maxD (.int 1) (.int (1 + mn)) = some (.sh (.int t2)) := by rw [← hT3]; rfl
      simp [lSt, lrn, lrp, lrb, mi, ma]
    rw [e1, bindI_ok]
  · simp [lSt]
end
end GZ
namespace GM
open PySem L2 GS
end GM
namespace Wk70
open PySem L2 GS GM
def fs : Nat → Nat → FF
  | 0, _ => stuckF
  | k + 1, 0 => fnF 4 2 (m_plan_at)
  | k + 1, 1 => fnF 6 3 (m_with_plan (fs k 1))
  | k + 1, 2 => fnF 7 4 (m_gone (fs k 1) (fs k 0))
  | k + 1, 3 => fnF 1 1 (m_kids_of)
  | k + 1, 4 => fnF 5 1 (m_places (fs k 3) (fs k 4))
  | k + 1, 5 => fnF 5 2 (m_piece_at_2 (fs k 34) (fs k 3))
  | k + 1, 6 => fnF 3 1 (m_signs_of (fs k 3) (fs k 6))
  | k + 1, 7 => fnF 4 1 (m_feet_of (fs k 4) (fs k 5))
  | k + 1, 8 => fnF 1 1 (m_is_graft (fs k 7))
  | k + 1, 9 => fnF 2 1 (m_name_of (fs k 7))
  | k + 1, 10 => fnF 5 2 (m_tree_of)
  | k + 1, 11 => fnF 3 2 (m_with_foot (fs k 11))
  | k + 1, 12 => fnF 8 4 (m_built_at (fs k 13) (fs k 11) (fs k 12))
  | k + 1, 13 => fnF 2 2 (m_built (fs k 10) (fs k 12))
  | k + 1, 14 => fnF 2 2 (m_row_of (fs k 13) (fs k 6))
  | k + 1, 15 => fnF 1 1 (m_wanted)
  | k + 1, 16 => fnF 5 2 (m_takers (fs k 9) (fs k 8) (fs k 15))
  | k + 1, 17 => fnF 2 1 (m_are_numbers)
  | k + 1, 18 => fnF 3 1 (m_are_puts (fs k 17))
  | k + 1, 19 => fnF 7 3 (m_put_well (fs k 4) (fs k 16) (fs k 15) (fs k 5))
  | k + 1, 20 => fnF 5 2 (m_is_plan (fs k 20) (fs k 19) (fs k 10) (fs k 18))
  | k + 1, 21 => fnF 3 2 (m_is_whole (fs k 9) (fs k 8) (fs k 10))
  | k + 1, 22 => fnF 2 2 (m_law_cell_at)
  | k + 1, 23 => fnF 4 1 (m_law_names_2)
  | k + 1, 24 => fnF 5 2 (m_law_keys_2)
  | k + 1, 25 => fnF 10 2 (m_law_home)
  | k + 1, 26 => fnF 1 1 (m_law_cell_2 (fs k 22))
  | k + 1, 27 => fnF 5 5 (m_law_may (fs k 29))
  | k + 1, 28 => fnF 5 3 (m_law_start (fs k 27) (fs k 28) (fs k 26))
  | k + 1, 29 => fnF 5 3 (m_law_graft (fs k 27) (fs k 28) (fs k 26))
  | k + 1, 30 => fnL 5 3 (m_law_ways_2 (fs k 30))
  | k + 1, 31 => fnF 7 1 (m_law_pairs_2 (fs k 30))
  | k + 1, 32 => fnF 6 3 (m_law_with (fs k 32))
  | k + 1, 33 => fnF 26 1 (m_law_k70_2 (fs k 14) (fs k 30) (fs k 21) (fs k 20) (fs k 2) (fs k 32) (fs k 31) (fs k 22) (fs k 28) (fs k 27) (fs k 23) (fs k 25) (fs k 24))
  | k + 1, 34 => iniF (k + 1)
  | _ + 1, _ => stuckF
end Wk70
namespace Wk70
open PySem L2 GS GM
theorem hx_NoPlace : ∀ m, 2 ≤ m → Raises (fs m 34)
  | m + 1, h => raises_ini h
theorem h_m_plan_at : ∀ m, 1 ≤ m → GZ.AtSp (fs m 0)
  | _ + 1, _ => GZ.plan_at_ok
theorem h_m_with_plan : ∀ n m, n + 1 ≤ m → GZ.WithSp n (fs m 1)
  | n, m + 1, h => GZ.with_plan_ok fun k e => h_m_with_plan k m (by omega)
theorem h_m_gone : ∀ n m, n + 2 ≤ m → GZ.GoneSp n (fs m 2)
  | n, m + 1, h => GZ.gone_ok (h_m_with_plan n m (by omega)) (h_m_plan_at m (by omega))
theorem h_m_kids_of : ∀ m, 1 ≤ m → KidsSp (fs m 3)
  | _ + 1, _ => kids_of_ok
theorem h_m_places : ∀ n m, n ≤ 1000 → n + 2 ≤ m → PlacesSp n (fs m 4)
  | _, m + 1, hn, h => places_ok (h_m_kids_of m (by omega)) hn fun k e => h_m_places k m (by omega) (by omega)
theorem h_m_piece_at_2 : ∀ m, 2 ≤ m → PieceSp (fs m 5)
  | m + 1, h => piece_at_2_ok (h_m_kids_of m (by omega))
theorem h_m_signs_of : ∀ n m, n + 2 ≤ m → SignsSp n (fs m 6)
  | _, m + 1, h => signs_of_ok (h_m_kids_of m (by omega)) fun k e => h_m_signs_of k m (by omega)
theorem h_m_feet_of : ∀ n m, n ≤ 1000 → n + 3 ≤ m → FeetSp n (fs m 7)
  | n, m + 1, hn, h => feet_of_ok (h_m_places n m hn (by omega)) (h_m_piece_at_2 m (by omega))
theorem h_m_is_graft : ∀ n m, n ≤ 1000 → n + 4 ≤ m → GraftSp n (fs m 8)
  | n, m + 1, hn, h => is_graft_ok (h_m_feet_of n m hn (by omega))
theorem h_m_name_of : ∀ n m, n ≤ 1000 → n + 4 ≤ m → NameOfSp n (fs m 9)
  | n, m + 1, hn, h => name_of_ok (h_m_feet_of n m hn (by omega))
theorem h_m_tree_of : ∀ m, 1 ≤ m → TreeOfSp (fs m 10)
  | _ + 1, _ => tree_of_ok
theorem h_m_with_foot : ∀ n m, n + 1 ≤ m → WfSp n (fs m 11)
  | _, m + 1, h => with_foot_ok fun k e => h_m_with_foot k m (by omega)
mutual
theorem h_m_built_at : ∀ h n j m, h ≤ 1000 → (h + 2) * n + 150 + j + 1 ≤ m → GZ.BAtSp h n j (fs m 12)
  | h, n, j, m + 1, h3, hm => GZ.built_at_ok (h_m_built h n m h3 (by omega)) (h_m_with_foot 147 m (by omega)) fun k e => h_m_built_at h n k m h3 (by omega)
theorem h_m_built : ∀ h n m, h ≤ 1000 → (h + 2) * n + 150 ≤ m → GZ.BuiltSp h n (fs m 13)
  | h, n, m + 1, h3, hm => GZ.built_ok (h_m_tree_of m (by omega)) (fun k e => h_m_built_at h k h m h3 (by subst e; rw [Nat.mul_add] at hm; omega)) (by omega)
end
theorem h_m_row_of : ∀ h n m, h ≤ 1000 → (h + 2) * n + 151 ≤ m → GZ.RowOfSp h n (fs m 14)
  | h, n, m + 1, h3, hm => GZ.row_of_ok (h_m_built h n m h3 (by omega)) (h_m_signs_of 147 m (by omega))
theorem h_m_wanted : ∀ m, 1 ≤ m → WantSp (fs m 15)
  | _ + 1, _ => wanted_ok
theorem h_m_takers : ∀ n m, n ≤ 1000 → n + 5 ≤ m → TakersSp n (fs m 16)
  | n, m + 1, hn, h => takers_ok (h_m_name_of n m hn (by omega)) (h_m_is_graft n m hn (by omega)) (h_m_wanted m (by omega))
theorem h_m_are_numbers : ∀ m, 1 ≤ m → NumsSp (fs m 17)
  | _ + 1, _ => are_numbers_ok
theorem h_m_are_puts : ∀ m, 2 ≤ m → PutsSp (fs m 18)
  | m + 1, h => are_puts_ok (h_m_are_numbers m (by omega))
theorem h_m_put_well : ∀ n m, n ≤ 1000 → n + 6 ≤ m → WellSp n (fs m 19)
  | n, m + 1, hn, h => put_well_ok (h_m_places n m hn (by omega)) (h_m_takers n m hn (by omega)) (h_m_wanted m (by omega)) (h_m_piece_at_2 m (by omega))
theorem h_m_is_plan : ∀ h n m, h ≤ 1000 → h + n + 7 ≤ m → IsPlanSp h n (fs m 20)
  | h, n, m + 1, hn, hm => is_plan_ok (fun k e => h_m_is_plan h k m hn (by omega)) (h_m_put_well h m hn (by omega)) (h_m_tree_of m (by omega)) (h_m_are_puts m (by omega))
theorem h_m_is_whole : ∀ n m, n ≤ 1000 → n + 5 ≤ m → WholeSp n (fs m 21)
  | n, m + 1, hn, h => is_whole_ok (h_m_name_of n m hn (by omega)) (h_m_is_graft n m hn (by omega)) (h_m_tree_of m (by omega))
theorem h_m_law_cell_at : ∀ m, 1 ≤ m → GZ.CAtSp (fs m 22)
  | _ + 1, _ => GZ.law_cell_at_ok
theorem h_m_law_names_2 : ∀ m, 1 ≤ m → GZ.NamesSp (fs m 23)
  | _ + 1, _ => GZ.law_names_ok
theorem h_m_law_keys_2 : ∀ m, 1 ≤ m → GZ.KeysSp (fs m 24)
  | _ + 1, _ => GZ.law_keys_ok
theorem h_m_law_home : ∀ m, 1 ≤ m → GZ.HomeSp (fs m 25)
  | _ + 1, _ => GZ.law_home_ok
theorem h_m_law_cell_2 : ∀ m, 2 ≤ m → GZ.Cell2Sp (fs m 26)
  | m + 1, h => GZ.law_cell_2_ok (h_m_law_cell_at m (by omega))
mutual
theorem h_m_law_may : ∀ l m, 3 * l + 4 ≤ m → GZ.MayGen l (fs m 27)
  | l, m + 1, h => GZ.law_may_ok fun k e => h_m_law_graft k m (by omega)
theorem h_m_law_start : ∀ l m, 3 * l + 5 ≤ m → GZ.Gen false l (fs m 28)
  | l, m + 1, h => GZ.law_start_ok (h_m_law_may l m (by omega)) (fun k e => h_m_law_start k m (by omega)) (h_m_law_cell_2 m (by omega))
theorem h_m_law_graft : ∀ l m, 3 * l + 5 ≤ m → GZ.Gen true l (fs m 29)
  | l, m + 1, h => GZ.law_graft_ok (h_m_law_may l m (by omega)) (fun k e => h_m_law_start k m (by omega)) (h_m_law_cell_2 m (by omega))
end
theorem h_m_law_ways_2 : ∀ n m, n + 1 ≤ m → GZ.WaysSp n (fs m 30)
  | n, m + 1, h => GZ.law_ways_ok fun k e => h_m_law_ways_2 k m (by omega)
theorem h_m_law_pairs_2 : ∀ n m, n + 2 ≤ m → GZ.PairsSp n (fs m 31)
  | n, m + 1, h => GZ.law_pairs_ok (h_m_law_ways_2 n m (by omega))
theorem h_m_law_with : ∀ n m, n + 1 ≤ m → GZ.WithSp n (fs m 32)
  | n, m + 1, h => GZ.law_with_ok fun k e => h_m_law_with k m (by omega)
theorem law_true (ns : List Int) (hl : ns.length ≤ 63) : ∃ outs, fs 200 33 [some ⟨.list (ns.map .int), .sh⟩] = .ok (.sh (.bool true)) outs :=
  ⟨_, (GZ.law_k70_ok (h_m_row_of 2 12 199 (by omega) (by omega)) (h_m_law_ways_2 20 199 (by omega)) (h_m_is_whole 2 199 (by omega) (by omega)) (h_m_is_plan 2 20 199 (by omega) (by omega)) (h_m_gone 20 199 (by omega)) (h_m_law_with 20 199 (by omega)) (h_m_law_pairs_2 20 199 (by omega)) (h_m_law_cell_at 199 (by omega)) (h_m_law_start 3 199 (by omega)) (h_m_law_may 3 199 (by omega)) (h_m_law_names_2 199 (by omega)) (h_m_law_home 199 (by omega)) (h_m_law_keys_2 199 (by omega)) ns)⟩
end Wk70
namespace Wk70
open PySem L2 GS GM
def topS (i : Nat) : Stmt := PySem.Challenge.pw_graftsay_k70_rounds_gone.main.body.getD i (.Pass ⟨0, 0, 0, 0⟩)
def clsS (s : Stmt) (j : Nat) : Stmt := match s with | .ClassDef (body := body) .. => body.getD j (.Pass ⟨0, 0, 0, 0⟩) | _ => s
/-- plan_at -/
abbrev s0 : Stmt := topS 4
theorem sc0 : FnScope ["plan", "way", "found", "place"] ["plan", "way"] (defScope s0) := ⟨rfl, rfl, rfl, by decide +kernel, rfl, by decide +kernel, by decide +kernel⟩
/-- with_plan -/
abbrev s1 : Stmt := topS 5
theorem sc1 : FnScope ["plan", "way", "other", "puts", "place", "one"] ["plan", "way", "other"] (defScope s1) := ⟨rfl, rfl, rfl, by decide +kernel, rfl, by decide +kernel, by decide +kernel⟩
/-- gone -/
abbrev s2 : Stmt := topS 6
theorem sc2 : FnScope ["plan", "way", "ring", "times", "whole", "within", "turn"] ["plan", "way", "ring", "times"] (defScope s2) := ⟨rfl, rfl, rfl, by decide +kernel, rfl, by decide +kernel, by decide +kernel⟩
/-- kids_of -/
abbrev s3 : Stmt := topS 8
theorem sc3 : FnScope ["tree"] ["tree"] (defScope s3) := ⟨rfl, rfl, rfl, by decide +kernel, rfl, by decide +kernel, by decide +kernel⟩
/-- places -/
abbrev s4 : Stmt := topS 9
theorem sc4 : FnScope ["tree", "found", "k", "kid", "place"] ["tree"] (defScope s4) := ⟨rfl, rfl, rfl, by decide +kernel, rfl, by decide +kernel, by decide +kernel⟩
/-- piece_at -/
abbrev s5 : Stmt := topS 10
theorem sc5 : FnScope ["tree", "place", "found", "number", "kids"] ["tree", "place"] (defScope s5) := ⟨rfl, rfl, rfl, by decide +kernel, rfl, by decide +kernel, by decide +kernel⟩
/-- signs_of -/
abbrev s6 : Stmt := topS 11
theorem sc6 : FnScope ["tree", "found", "kid"] ["tree"] (defScope s6) := ⟨rfl, rfl, rfl, by decide +kernel, rfl, by decide +kernel, by decide +kernel⟩
/-- feet_of -/
abbrev s7 : Stmt := topS 13
theorem sc7 : FnScope ["tree", "pieces", "place", "piece"] ["tree"] (defScope s7) := ⟨rfl, rfl, rfl, by decide +kernel, rfl, by decide +kernel, by decide +kernel⟩
/-- is_graft -/
abbrev s8 : Stmt := topS 14
theorem sc8 : FnScope ["tree"] ["tree"] (defScope s8) := ⟨rfl, rfl, rfl, by decide +kernel, rfl, by decide +kernel, by decide +kernel⟩
/-- name_of -/
abbrev s9 : Stmt := topS 15
theorem sc9 : FnScope ["tree", "feet"] ["tree"] (defScope s9) := ⟨rfl, rfl, rfl, by decide +kernel, rfl, by decide +kernel, by decide +kernel⟩
/-- tree_of -/
abbrev s10 : Stmt := topS 16
theorem sc10 : FnScope ["book", "key", "found", "one", "tree"] ["book", "key"] (defScope s10) := ⟨rfl, rfl, rfl, by decide +kernel, rfl, by decide +kernel, by decide +kernel⟩
/-- with_foot -/
abbrev s11 : Stmt := topS 18
theorem sc11 : FnScope ["tree", "other", "kid"] ["tree", "other"] (defScope s11) := ⟨rfl, rfl, rfl, by decide +kernel, rfl, by decide +kernel, by decide +kernel⟩
/-- built_at -/
abbrev s12 : Stmt := topS 19
theorem sc12 : FnScope ["book", "tree", "place", "puts", "kids", "knot", "k", "kid"] ["book", "tree", "place", "puts"] (defScope s12) := ⟨rfl, rfl, rfl, by decide +kernel, rfl, by decide +kernel, by decide +kernel⟩
/-- built -/
abbrev s13 : Stmt := topS 20
theorem sc13 : FnScope ["book", "plan"] ["book", "plan"] (defScope s13) := ⟨rfl, rfl, rfl, by decide +kernel, rfl, by decide +kernel, by decide +kernel⟩
/-- row_of -/
abbrev s14 : Stmt := topS 21
theorem sc14 : FnScope ["book", "plan"] ["book", "plan"] (defScope s14) := ⟨rfl, rfl, rfl, by decide +kernel, rfl, by decide +kernel, by decide +kernel⟩
/-- wanted -/
abbrev s15 : Stmt := topS 23
theorem sc15 : FnScope ["piece"] ["piece"] (defScope s15) := ⟨rfl, rfl, rfl, by decide +kernel, rfl, by decide +kernel, by decide +kernel⟩
/-- takers -/
abbrev s16 : Stmt := topS 24
theorem sc16 : FnScope ["book", "piece", "want", "key", "tree"] ["book", "piece"] (defScope s16) := ⟨rfl, rfl, rfl, by decide +kernel, rfl, by decide +kernel, by decide +kernel⟩
/-- are_numbers -/
abbrev s17 : Stmt := topS 25
theorem sc17 : FnScope ["thing", "one"] ["thing"] (defScope s17) := ⟨rfl, rfl, rfl, by decide +kernel, rfl, by decide +kernel, by decide +kernel⟩
/-- are_puts -/
abbrev s18 : Stmt := topS 26
theorem sc18 : FnScope ["thing", "ahead", "one"] ["thing"] (defScope s18) := ⟨rfl, rfl, rfl, by decide +kernel, rfl, by decide +kernel, by decide +kernel⟩
/-- put_well -/
abbrev s19 : Stmt := topS 27
theorem sc19 : FnScope ["book", "tree", "puts", "told", "place", "piece", "want"] ["book", "tree", "puts"] (defScope s19) := ⟨rfl, rfl, rfl, by decide +kernel, rfl, by decide +kernel, by decide +kernel⟩
/-- is_plan -/
abbrev s20 : Stmt := topS 28
theorem sc20 : FnScope ["book", "thing", "tree", "place", "plan"] ["book", "thing"] (defScope s20) := ⟨rfl, rfl, rfl, by decide +kernel, rfl, by decide +kernel, by decide +kernel⟩
/-- is_whole -/
abbrev s21 : Stmt := topS 29
theorem sc21 : FnScope ["book", "plan", "tree"] ["book", "plan"] (defScope s21) := ⟨rfl, rfl, rfl, by decide +kernel, rfl, by decide +kernel, by decide +kernel⟩
/-- _law_cell_at -/
abbrev s22 : Stmt := topS 31
theorem sc22 : FnScope ["script", "k"] ["script", "k"] (defScope s22) := ⟨rfl, rfl, rfl, by decide +kernel, rfl, by decide +kernel, by decide +kernel⟩
/-- _law_names -/
abbrev s23 : Stmt := topS 32
theorem sc23 : FnScope ["cell", "letter", "more", "k"] ["cell"] (defScope s23) := ⟨rfl, rfl, rfl, by decide +kernel, rfl, by decide +kernel, by decide +kernel⟩
/-- _law_keys -/
abbrev s24 : Stmt := topS 33
theorem sc24 : FnScope ["cell", "many", "letter", "more", "k"] ["cell", "many"] (defScope s24) := ⟨rfl, rfl, rfl, by decide +kernel, rfl, by decide +kernel, by decide +kernel⟩
/-- _law_home -/
abbrev s25 : Stmt := topS 34
theorem sc25 : FnScope ["names", "keys", "top", "may", "inner", "link", "leaf", "stem", "wide", "turn"] ["names", "keys"] (defScope s25) := ⟨rfl, rfl, rfl, by decide +kernel, rfl, by decide +kernel, by decide +kernel⟩
/-- _law_cell -/
abbrev s26 : Stmt := topS 35
theorem sc26 : FnScope ["state"] ["state"] (defScope s26) := ⟨rfl, rfl, rfl, by decide +kernel, rfl, by decide +kernel, by decide +kernel⟩
/-- _law_may -/
abbrev s27 : Stmt := topS 36
theorem sc27 : FnScope ["state", "keys", "place", "cell", "left"] ["state", "keys", "place", "cell", "left"] (defScope s27) := ⟨rfl, rfl, rfl, by decide +kernel, rfl, by decide +kernel, by decide +kernel⟩
/-- _law_start -/
abbrev s28 : Stmt := topS 37
theorem sc28 : FnScope ["state", "keys", "left", "cell", "puts"] ["state", "keys", "left"] (defScope s28) := ⟨rfl, rfl, rfl, by decide +kernel, rfl, by decide +kernel, by decide +kernel⟩
/-- _law_graft -/
abbrev s29 : Stmt := topS 38
theorem sc29 : FnScope ["state", "keys", "left", "cell", "puts"] ["state", "keys", "left"] (defScope s29) := ⟨rfl, rfl, rfl, by decide +kernel, rfl, by decide +kernel, by decide +kernel⟩
/-- _law_ways -/
abbrev s30 : Stmt := topS 39
theorem sc30 : FnScope ["plan", "way", "found", "place", "one"] ["plan", "way", "found"] (defScope s30) := ⟨rfl, rfl, rfl, by decide +kernel, rfl, by decide +kernel, by decide +kernel⟩
/-- _law_pairs -/
abbrev s31 : Stmt := topS 40
theorem sc31 : FnScope ["plan", "found", "pairs", "way", "outer", "more", "inner"] ["plan"] (defScope s31) := ⟨rfl, rfl, rfl, by decide +kernel, rfl, by decide +kernel, by decide +kernel⟩
/-- _law_with -/
abbrev s32 : Stmt := topS 41
theorem sc32 : FnScope ["plan", "way", "other", "puts", "place", "one"] ["plan", "way", "other"] (defScope s32) := ⟨rfl, rfl, rfl, by decide +kernel, rfl, by decide +kernel, by decide +kernel⟩
/-- law -/
abbrev s33 : Stmt := topS 42
theorem sc33 : FnScope ["script", "keys", "book", "state", "outer", "plan", "pick", "pairs", "signs", "inside", "whole", "deepest", "many", "most", "times", "way", "ring", "one", "last", "due", "turn", "found", "some", "more", "inner", "key"] ["script"] (defScope s33) := ⟨rfl, rfl, rfl, by decide +kernel, rfl, by decide +kernel, by decide +kernel⟩
abbrev si_NoPlace : Stmt := clsS (topS 2) 0
theorem sci_NoPlace : FnScope ["self", "place"] ["self", "place"] (defScope si_NoPlace) := ⟨rfl, rfl, rfl, by decide +kernel, rfl, by decide +kernel, by decide +kernel⟩
structure Top (K : PySem.W.Frag) (mg : Str → Option Value) where
  a0 : Addr
  d0 : FuncData
  F0 : Fun K "plan_at" "plan_at" s0 a0 d0
  b0 : Binds K d0 ["plan", "way"] []
  g0 : mg "plan_at" = some (.ref a0)
  a1 : Addr
  d1 : FuncData
  F1 : Fun K "with_plan" "with_plan" s1 a1 d1
  b1 : Binds K d1 ["plan", "way", "other"] []
  g1 : mg "with_plan" = some (.ref a1)
  a2 : Addr
  d2 : FuncData
  F2 : Fun K "gone" "gone" s2 a2 d2
  b2 : Binds K d2 ["plan", "way", "ring", "times"] []
  g2 : mg "gone" = some (.ref a2)
  a3 : Addr
  d3 : FuncData
  F3 : Fun K "kids_of" "kids_of" s3 a3 d3
  b3 : Binds K d3 ["tree"] []
  g3 : mg "kids_of" = some (.ref a3)
  a4 : Addr
  d4 : FuncData
  F4 : Fun K "places" "places" s4 a4 d4
  b4 : Binds K d4 ["tree"] []
  g4 : mg "places" = some (.ref a4)
  a5 : Addr
  d5 : FuncData
  F5 : Fun K "piece_at" "piece_at" s5 a5 d5
  b5 : Binds K d5 ["tree", "place"] []
  g5 : mg "piece_at" = some (.ref a5)
  a6 : Addr
  d6 : FuncData
  F6 : Fun K "signs_of" "signs_of" s6 a6 d6
  b6 : Binds K d6 ["tree"] []
  g6 : mg "signs_of" = some (.ref a6)
  a7 : Addr
  d7 : FuncData
  F7 : Fun K "feet_of" "feet_of" s7 a7 d7
  b7 : Binds K d7 ["tree"] []
  g7 : mg "feet_of" = some (.ref a7)
  a8 : Addr
  d8 : FuncData
  F8 : Fun K "is_graft" "is_graft" s8 a8 d8
  b8 : Binds K d8 ["tree"] []
  g8 : mg "is_graft" = some (.ref a8)
  a9 : Addr
  d9 : FuncData
  F9 : Fun K "name_of" "name_of" s9 a9 d9
  b9 : Binds K d9 ["tree"] []
  g9 : mg "name_of" = some (.ref a9)
  a10 : Addr
  d10 : FuncData
  F10 : Fun K "tree_of" "tree_of" s10 a10 d10
  b10 : Binds K d10 ["book", "key"] []
  g10 : mg "tree_of" = some (.ref a10)
  a11 : Addr
  d11 : FuncData
  F11 : Fun K "with_foot" "with_foot" s11 a11 d11
  b11 : Binds K d11 ["tree", "other"] []
  g11 : mg "with_foot" = some (.ref a11)
  a12 : Addr
  d12 : FuncData
  F12 : Fun K "built_at" "built_at" s12 a12 d12
  b12 : Binds K d12 ["book", "tree", "place", "puts"] []
  g12 : mg "built_at" = some (.ref a12)
  a13 : Addr
  d13 : FuncData
  F13 : Fun K "built" "built" s13 a13 d13
  b13 : Binds K d13 ["book", "plan"] []
  g13 : mg "built" = some (.ref a13)
  a14 : Addr
  d14 : FuncData
  F14 : Fun K "row_of" "row_of" s14 a14 d14
  b14 : Binds K d14 ["book", "plan"] []
  g14 : mg "row_of" = some (.ref a14)
  a15 : Addr
  d15 : FuncData
  F15 : Fun K "wanted" "wanted" s15 a15 d15
  b15 : Binds K d15 ["piece"] []
  g15 : mg "wanted" = some (.ref a15)
  a16 : Addr
  d16 : FuncData
  F16 : Fun K "takers" "takers" s16 a16 d16
  b16 : Binds K d16 ["book", "piece"] []
  g16 : mg "takers" = some (.ref a16)
  a17 : Addr
  d17 : FuncData
  F17 : Fun K "are_numbers" "are_numbers" s17 a17 d17
  b17 : Binds K d17 ["thing"] []
  g17 : mg "are_numbers" = some (.ref a17)
  a18 : Addr
  d18 : FuncData
  F18 : Fun K "are_puts" "are_puts" s18 a18 d18
  b18 : Binds K d18 ["thing"] []
  g18 : mg "are_puts" = some (.ref a18)
  a19 : Addr
  d19 : FuncData
  F19 : Fun K "put_well" "put_well" s19 a19 d19
  b19 : Binds K d19 ["book", "tree", "puts"] []
  g19 : mg "put_well" = some (.ref a19)
  a20 : Addr
  d20 : FuncData
  F20 : Fun K "is_plan" "is_plan" s20 a20 d20
  b20 : Binds K d20 ["book", "thing"] []
  g20 : mg "is_plan" = some (.ref a20)
  a21 : Addr
  d21 : FuncData
  F21 : Fun K "is_whole" "is_whole" s21 a21 d21
  b21 : Binds K d21 ["book", "plan"] []
  g21 : mg "is_whole" = some (.ref a21)
  a22 : Addr
  d22 : FuncData
  F22 : Fun K "_law_cell_at" "_law_cell_at" s22 a22 d22
  b22 : Binds K d22 ["script", "k"] []
  g22 : mg "_law_cell_at" = some (.ref a22)
  a23 : Addr
  d23 : FuncData
  F23 : Fun K "_law_names" "_law_names" s23 a23 d23
  b23 : Binds K d23 ["cell"] []
  g23 : mg "_law_names" = some (.ref a23)
  a24 : Addr
  d24 : FuncData
  F24 : Fun K "_law_keys" "_law_keys" s24 a24 d24
  b24 : Binds K d24 ["cell", "many"] []
  g24 : mg "_law_keys" = some (.ref a24)
  a25 : Addr
  d25 : FuncData
  F25 : Fun K "_law_home" "_law_home" s25 a25 d25
  b25 : Binds K d25 ["names", "keys"] []
  g25 : mg "_law_home" = some (.ref a25)
  a26 : Addr
  d26 : FuncData
  F26 : Fun K "_law_cell" "_law_cell" s26 a26 d26
  b26 : Binds K d26 ["state"] []
  g26 : mg "_law_cell" = some (.ref a26)
  a27 : Addr
  d27 : FuncData
  F27 : Fun K "_law_may" "_law_may" s27 a27 d27
  b27 : Binds K d27 ["state", "keys", "place", "cell", "left"] []
  g27 : mg "_law_may" = some (.ref a27)
  a28 : Addr
  d28 : FuncData
  F28 : Fun K "_law_start" "_law_start" s28 a28 d28
  b28 : Binds K d28 ["state", "keys", "left"] []
  g28 : mg "_law_start" = some (.ref a28)
  a29 : Addr
  d29 : FuncData
  F29 : Fun K "_law_graft" "_law_graft" s29 a29 d29
  b29 : Binds K d29 ["state", "keys", "left"] []
  g29 : mg "_law_graft" = some (.ref a29)
  a30 : Addr
  d30 : FuncData
  F30 : Fun K "_law_ways" "_law_ways" s30 a30 d30
  b30 : Binds K d30 ["plan", "way", "found"] []
  g30 : mg "_law_ways" = some (.ref a30)
  a31 : Addr
  d31 : FuncData
  F31 : Fun K "_law_pairs" "_law_pairs" s31 a31 d31
  b31 : Binds K d31 ["plan"] []
  g31 : mg "_law_pairs" = some (.ref a31)
  a32 : Addr
  d32 : FuncData
  F32 : Fun K "_law_with" "_law_with" s32 a32 d32
  b32 : Binds K d32 ["plan", "way", "other"] []
  g32 : mg "_law_with" = some (.ref a32)
  a33 : Addr
  d33 : FuncData
  F33 : Fun K "law" "law" s33 a33 d33
  b33 : Binds K d33 ["script"] []
  g33 : mg "law" = some (.ref a33)
  m_dict : mg "dict" = none
  m_tuple : mg "tuple" = none
  m_len : mg "len" = none
  m_range : mg "range" = none
  m_enumerate : mg "enumerate" = none
  m_isinstance : mg "isinstance" = none
  m_int : mg "int" = none
  m_bool : mg "bool" = none
  m_str : mg "str" = none
  m_max : mg "max" = none
  m_min : mg "min" = none
  m_sum : mg "sum" = none
  xA_GraftError : Addr
  xg_GraftError : mg "GraftError" = some (.ref xA_GraftError)
  xA_NoPlace : Addr
  xg_NoPlace : mg "NoPlace" = some (.ref xA_NoPlace)
  gi : giB K xA_GraftError = true
  xI_NoPlace : Addr
  xd_NoPlace : FuncData
  xF_NoPlace : Fun K "__init__" "NoPlace.__init__" si_NoPlace xI_NoPlace xd_NoPlace
  xb_NoPlace : Binds K xd_NoPlace ("self" :: ["place"]) []
  xT_NoPlace : OexC K xA_NoPlace
  xo_NoPlace : oeB K xA_NoPlace xI_NoPlace ["place"] = true
  xv_NoPlace : cvK K "NoPlace" = .ref xA_NoPlace
structure Lv (P : Program) (K : KW) (mg : Str → Option Value) (base : Heap) (T : Top K.fr mg) (k : Nat) : Prop where
  h0 : FnOk P K.w K.fr mg base (L2.CX P K.w) k T.a0 T.d0 ["plan", "way"] (spF K (cvK K.fr) 2 (fs k 0))
  h1 : FnOk P K.w K.fr mg base (L2.CX P K.w) k T.a1 T.d1 ["plan", "way", "other"] (spF K (cvK K.fr) 3 (fs k 1))
  h2 : FnOk P K.w K.fr mg base (L2.CX P K.w) k T.a2 T.d2 ["plan", "way", "ring", "times"] (spF K (cvK K.fr) 4 (fs k 2))
  h3 : FnOk P K.w K.fr mg base (L2.CX P K.w) k T.a3 T.d3 ["tree"] (spF K (cvK K.fr) 1 (fs k 3))
  h4 : FnOk P K.w K.fr mg base (L2.CX P K.w) k T.a4 T.d4 ["tree"] (spF K (cvK K.fr) 1 (fs k 4))
  h5 : FnOk P K.w K.fr mg base (L2.CX P K.w) k T.a5 T.d5 ["tree", "place"] (spF K (cvK K.fr) 2 (fs k 5))
  h6 : FnOk P K.w K.fr mg base (L2.CX P K.w) k T.a6 T.d6 ["tree"] (spF K (cvK K.fr) 1 (fs k 6))
  h7 : FnOk P K.w K.fr mg base (L2.CX P K.w) k T.a7 T.d7 ["tree"] (spF K (cvK K.fr) 1 (fs k 7))
  h8 : FnOk P K.w K.fr mg base (L2.CX P K.w) k T.a8 T.d8 ["tree"] (spF K (cvK K.fr) 1 (fs k 8))
  h9 : FnOk P K.w K.fr mg base (L2.CX P K.w) k T.a9 T.d9 ["tree"] (spF K (cvK K.fr) 1 (fs k 9))
  h10 : FnOk P K.w K.fr mg base (L2.CX P K.w) k T.a10 T.d10 ["book", "key"] (spF K (cvK K.fr) 2 (fs k 10))
  h11 : FnOk P K.w K.fr mg base (L2.CX P K.w) k T.a11 T.d11 ["tree", "other"] (spF K (cvK K.fr) 2 (fs k 11))
  h12 : FnOk P K.w K.fr mg base (L2.CX P K.w) k T.a12 T.d12 ["book", "tree", "place", "puts"] (spF K (cvK K.fr) 4 (fs k 12))
  h13 : FnOk P K.w K.fr mg base (L2.CX P K.w) k T.a13 T.d13 ["book", "plan"] (spF K (cvK K.fr) 2 (fs k 13))
  h14 : FnOk P K.w K.fr mg base (L2.CX P K.w) k T.a14 T.d14 ["book", "plan"] (spF K (cvK K.fr) 2 (fs k 14))
  h15 : FnOk P K.w K.fr mg base (L2.CX P K.w) k T.a15 T.d15 ["piece"] (spF K (cvK K.fr) 1 (fs k 15))
  h16 : FnOk P K.w K.fr mg base (L2.CX P K.w) k T.a16 T.d16 ["book", "piece"] (spF K (cvK K.fr) 2 (fs k 16))
  h17 : FnOk P K.w K.fr mg base (L2.CX P K.w) k T.a17 T.d17 ["thing"] (spF K (cvK K.fr) 1 (fs k 17))
  h18 : FnOk P K.w K.fr mg base (L2.CX P K.w) k T.a18 T.d18 ["thing"] (spF K (cvK K.fr) 1 (fs k 18))
  h19 : FnOk P K.w K.fr mg base (L2.CX P K.w) k T.a19 T.d19 ["book", "tree", "puts"] (spF K (cvK K.fr) 3 (fs k 19))
  h20 : FnOk P K.w K.fr mg base (L2.CX P K.w) k T.a20 T.d20 ["book", "thing"] (spF K (cvK K.fr) 2 (fs k 20))
  h21 : FnOk P K.w K.fr mg base (L2.CX P K.w) k T.a21 T.d21 ["book", "plan"] (spF K (cvK K.fr) 2 (fs k 21))
  h22 : FnOk P K.w K.fr mg base (L2.CX P K.w) k T.a22 T.d22 ["script", "k"] (spF K (cvK K.fr) 2 (fs k 22))
  h23 : FnOk P K.w K.fr mg base (L2.CX P K.w) k T.a23 T.d23 ["cell"] (spF K (cvK K.fr) 1 (fs k 23))
  h24 : FnOk P K.w K.fr mg base (L2.CX P K.w) k T.a24 T.d24 ["cell", "many"] (spF K (cvK K.fr) 2 (fs k 24))
  h25 : FnOk P K.w K.fr mg base (L2.CX P K.w) k T.a25 T.d25 ["names", "keys"] (spF K (cvK K.fr) 2 (fs k 25))
  h26 : FnOk P K.w K.fr mg base (L2.CX P K.w) k T.a26 T.d26 ["state"] (spF K (cvK K.fr) 1 (fs k 26))
  h27 : FnOk P K.w K.fr mg base (L2.CX P K.w) k T.a27 T.d27 ["state", "keys", "place", "cell", "left"] (spF K (cvK K.fr) 5 (fs k 27))
  h28 : FnOk P K.w K.fr mg base (L2.CX P K.w) k T.a28 T.d28 ["state", "keys", "left"] (spF K (cvK K.fr) 3 (fs k 28))
  h29 : FnOk P K.w K.fr mg base (L2.CX P K.w) k T.a29 T.d29 ["state", "keys", "left"] (spF K (cvK K.fr) 3 (fs k 29))
  h30 : FnOk P K.w K.fr mg base (L2.CX P K.w) k T.a30 T.d30 ["plan", "way", "found"] (spF K (cvK K.fr) 3 (fs k 30))
  h31 : FnOk P K.w K.fr mg base (L2.CX P K.w) k T.a31 T.d31 ["plan"] (spF K (cvK K.fr) 1 (fs k 31))
  h32 : FnOk P K.w K.fr mg base (L2.CX P K.w) k T.a32 T.d32 ["plan", "way", "other"] (spF K (cvK K.fr) 3 (fs k 32))
  h33 : FnOk P K.w K.fr mg base (L2.CX P K.w) k T.a33 T.d33 ["script"] (spF K (cvK K.fr) 1 (fs k 33))
  x_NoPlace : IniOk P K.w K.fr mg base k T.xI_NoPlace T.xd_NoPlace ["place"] (fs k 34)
section
variable {P : Program} {K : KW} {mg : Str → Option Value} {base : Heap}
/-- plan_at -/
theorem e0 (k : Nat) : fs (k + 1) 0 = fnF 4 2 (m_plan_at) := rfl
theorem w0 {T : Top K.fr mg} {k : Nat} (hp : K.pt = false) (L : Lv P K mg base T k) : FnOk P K.w K.fr mg base (L2.CX P K.w) (k + 1) T.a0 T.d0 ["plan", "way"] (spF K (cvK K.fr) 2 (fs (k + 1) 0)) := by
  rw [e0]
  refine fn_of' ["plan", "way", "found", "place"] rfl rfl T.F0 sc0 fun cdv A outer s H E hr tk po => ?_
  have nd := sc0.nd
  have hu := hr.units
  have hu2 : _ + 199 < cLine := Nat.lt_of_le_of_lt (Nat.add_le_add_left (by decide : 199 ≤ 200) _) (Nat.lt_of_le_of_lt (Nat.add_le_add_right (Nat.le_add_right _ _) _) hr.un)
  have hu5 : _ + 65 < cLine := Nat.lt_of_le_of_lt (Nat.add_le_add_left (by decide : 65 ≤ 200) _) (Nat.lt_of_le_of_lt (Nat.add_le_add_right (Nat.le_add_right _ _) _) hr.un)
  unfold m_plan_at m_plan_at_b1
  exact ⟨_, (sss_cons (ss_set (i := 2) nd (se_mv 0)) (sss_cons (ss_for po rfl (si_sq (se_mv 1)) (sg_name nd) (sss_kill (vs := [3]) (sss_one (ss_set (i := 2) nd (se_ixA (by exact hu5) (se_ct cl_dict (call_dictX rfl (by exact hu5)) T.m_dict (sa_cons (se_ixA (by exact hu5) (se_vb 2) se_int) sa_nil)) (se_vb 3)))))) (sss_one (ss_end (ss_ret (se_rv 2))))))⟩
/-- with_plan -/
theorem e1 (k : Nat) : fs (k + 1) 1 = fnF 6 3 (m_with_plan (fs k 1)) := rfl
theorem w1 {T : Top K.fr mg} {k : Nat} (hp : K.pt = false) (L : Lv P K mg base T k) : FnOk P K.w K.fr mg base (L2.CX P K.w) (k + 1) T.a1 T.d1 ["plan", "way", "other"] (spF K (cvK K.fr) 3 (fs (k + 1) 1)) := by
  rw [e1]
  refine fn_of' ["plan", "way", "other", "puts", "place", "one"] rfl rfl T.F1 sc1 fun cdv A outer s H E hr tk po => ?_
  have nd := sc1.nd
  have hu := hr.units
  have hu2 : _ + 199 < cLine := Nat.lt_of_le_of_lt (Nat.add_le_add_left (by decide : 199 ≤ 200) _) (Nat.lt_of_le_of_lt (Nat.add_le_add_right (Nat.le_add_right _ _) _) hr.un)
  have hu5 : _ + 65 < cLine := Nat.lt_of_le_of_lt (Nat.add_le_add_left (by decide : 65 ≤ 200) _) (Nat.lt_of_le_of_lt (Nat.add_le_add_right (Nat.le_add_right _ _) _) hr.un)
  unfold m_with_plan m_with_plan_b1
  exact ⟨_, (sss_cons (ss_if (st_cmp ol_eqB (op_eqB (by exact hu2)) (se_cb cl_len call_len T.m_len (sa_cons (se_vb 1) sa_nil)) se_int) (sss_one (ss_end (ss_ret (se_rv 2)))) sss_nil) (sss_cons (ss_set (i := 3) nd (se_lst sa_nil)) (sss_cons (ss_for po rfl (si_sq (se_ixA (by exact hu5) (se_vb 0) se_int)) (sg_tup rfl (sgs_cons (sg_name nd) (sgs_cons (sg_name nd) sgs_nil))) (sss_kill (vs := [4, 5]) (sss_one (ss_if (st_cmp ol_eqB (op_eqB (by exact hu2)) (se_vb 4) (se_ixA (by exact hu5) (se_vb 1) se_int)) (sss_one (ss_app (i := 3) (se_tup (sa_cons (se_mv 4) (sa_cons (se_call L.h1 hr T.g1 T.F1.kp T.b1 tk (sa_cons (se_mv 5) (sa_cons (se_slice (se_vb 1) (.some se_int) .non) (sa_cons (se_mv 2) sa_nil))) none) sa_nil))))) (sss_one (ss_app (i := 3) (se_tup (sa_cons (se_mv 4) (sa_cons (se_mv 5) sa_nil))))))))) (sss_one (ss_end (ss_ret (se_tup (sa_cons (se_ixA (by exact hu5) (se_vb 0) se_int) (sa_cons (se_ct cl_tuple call_tupX T.m_tuple (sa_cons (se_vb 3) sa_nil)) sa_nil)))))))))⟩
/-- gone -/
theorem e2 (k : Nat) : fs (k + 1) 2 = fnF 7 4 (m_gone (fs k 1) (fs k 0)) := rfl
theorem w2 {T : Top K.fr mg} {k : Nat} (hp : K.pt = false) (L : Lv P K mg base T k) : FnOk P K.w K.fr mg base (L2.CX P K.w) (k + 1) T.a2 T.d2 ["plan", "way", "ring", "times"] (spF K (cvK K.fr) 4 (fs (k + 1) 2)) := by
  rw [e2]
  refine fn_of' ["plan", "way", "ring", "times", "whole", "within", "turn"] rfl rfl T.F2 sc2 fun cdv A outer s H E hr tk po => ?_
  have nd := sc2.nd
  have hu := hr.units
  have hu2 : _ + 199 < cLine := Nat.lt_of_le_of_lt (Nat.add_le_add_left (by decide : 199 ≤ 200) _) (Nat.lt_of_le_of_lt (Nat.add_le_add_right (Nat.le_add_right _ _) _) hr.un)
  have hu5 : _ + 65 < cLine := Nat.lt_of_le_of_lt (Nat.add_le_add_left (by decide : 65 ≤ 200) _) (Nat.lt_of_le_of_lt (Nat.add_le_add_right (Nat.le_add_right _ _) _) hr.un)
  unfold m_gone m_gone_b1
  exact ⟨_, (sss_cons (ss_set (i := 4) nd (se_call L.h0 hr T.g0 T.F0.kp T.b0 tk (sa_cons (se_mv 0) (sa_cons (se_mv 1) sa_nil)) none)) (sss_cons (ss_set (i := 5) nd (se_call L.h0 hr T.g0 T.F0.kp T.b0 tk (sa_cons (se_mv 4) (sa_cons (se_mv 2) sa_nil)) none)) (sss_cons (ss_for po rfl (si_r1 (se_vb 3) T.m_range) (sg_name nd) (sss_kill (vs := [6]) (sss_one (ss_set (i := 5) nd (se_call L.h1 hr T.g1 T.F1.kp T.b1 tk (sa_cons (se_mv 4) (sa_cons (se_mv 2) (sa_cons (se_mv 5) sa_nil))) none))))) (sss_one (ss_end (ss_ret (se_call L.h1 hr T.g1 T.F1.kp T.b1 tk (sa_cons (se_mv 0) (sa_cons (se_mv 1) (sa_cons (se_mv 5) sa_nil))) none)))))))⟩
/-- kids_of -/
theorem e3 (k : Nat) : fs (k + 1) 3 = fnF 1 1 (m_kids_of) := rfl
theorem w3 {T : Top K.fr mg} {k : Nat} (hp : K.pt = false) (L : Lv P K mg base T k) : FnOk P K.w K.fr mg base (L2.CX P K.w) (k + 1) T.a3 T.d3 ["tree"] (spF K (cvK K.fr) 1 (fs (k + 1) 3)) := by
  rw [e3]
  refine fn_of' ["tree"] rfl rfl T.F3 sc3 fun cdv A outer s H E hr tk po => ?_
  have nd := sc3.nd
  have hu := hr.units
  have hu2 : _ + 199 < cLine := Nat.lt_of_le_of_lt (Nat.add_le_add_left (by decide : 199 ≤ 200) _) (Nat.lt_of_le_of_lt (Nat.add_le_add_right (Nat.le_add_right _ _) _) hr.un)
  have hu5 : _ + 65 < cLine := Nat.lt_of_le_of_lt (Nat.add_le_add_left (by decide : 65 ≤ 200) _) (Nat.lt_of_le_of_lt (Nat.add_le_add_right (Nat.le_add_right _ _) _) hr.un)
  unfold m_kids_of
  exact ⟨_, (sss_one (ss_end (ss_ret (se_if (st_cmp ol_eqB (op_eqB (by exact hu2)) (se_ixA (by exact hu5) (se_vb 0) se_int) se_str) (se_ixA (by exact hu5) (se_vb 0) se_int) (se_tup sa_nil)))))⟩
/-- places -/
theorem e4 (k : Nat) : fs (k + 1) 4 = fnF 5 1 (m_places (fs k 3) (fs k 4)) := rfl
theorem w4 {T : Top K.fr mg} {k : Nat} (hp : K.pt = false) (L : Lv P K mg base T k) : FnOk P K.w K.fr mg base (L2.CX P K.w) (k + 1) T.a4 T.d4 ["tree"] (spF K (cvK K.fr) 1 (fs (k + 1) 4)) := by
  rw [e4]
  refine fn_of' ["tree", "found", "k", "kid", "place"] rfl rfl T.F4 sc4 fun cdv A outer s H E hr tk po => ?_
  have nd := sc4.nd
  have hu := hr.units
  have hu2 : _ + 199 < cLine := Nat.lt_of_le_of_lt (Nat.add_le_add_left (by decide : 199 ≤ 200) _) (Nat.lt_of_le_of_lt (Nat.add_le_add_right (Nat.le_add_right _ _) _) hr.un)
  have hu5 : _ + 65 < cLine := Nat.lt_of_le_of_lt (Nat.add_le_add_left (by decide : 65 ≤ 200) _) (Nat.lt_of_le_of_lt (Nat.add_le_add_right (Nat.le_add_right _ _) _) hr.un)
  unfold m_places m_places_b2 m_places_b1
  exact ⟨_, (sss_cons (ss_set (i := 1) nd (se_lst (sa_cons (se_tup sa_nil) sa_nil))) (sss_cons (ss_for po rfl (si_en (se_call L.h3 hr T.g3 T.F3.kp T.b3 tk (sa_cons (se_mv 0) sa_nil) none) T.m_enumerate) (sg_tup rfl (sgs_cons (sg_name nd) (sgs_cons (sg_name nd) sgs_nil))) (sss_kill (vs := [2, 3, 4]) (sss_one (ss_for po rfl (si_sq (se_call L.h4 hr T.g4 T.F4.kp T.b4 tk (sa_cons (se_mv 3) sa_nil) none)) (sg_name nd) (sss_kill (vs := [4]) (sss_one (ss_app (i := 1) (se_bin ol_add op_addA (se_tup (sa_cons (se_mv 2) sa_nil)) (se_vb 4))))))))) (sss_one (ss_end (ss_ret (se_rv 1))))))⟩
/-- piece_at -/
theorem e5 (k : Nat) : fs (k + 1) 5 = fnF 5 2 (m_piece_at_2 (fs k 34) (fs k 3)) := rfl
theorem w5 {T : Top K.fr mg} {k : Nat} (hp : K.pt = false) (L : Lv P K mg base T k) : FnOk P K.w K.fr mg base (L2.CX P K.w) (k + 1) T.a5 T.d5 ["tree", "place"] (spF K (cvK K.fr) 2 (fs (k + 1) 5)) := by
  rw [e5]
  refine fn_of' ["tree", "place", "found", "number", "kids"] rfl rfl T.F5 sc5 fun cdv A outer s H E hr tk po => ?_
  have nd := sc5.nd
  have hu := hr.units
  have hu2 : _ + 199 < cLine := Nat.lt_of_le_of_lt (Nat.add_le_add_left (by decide : 199 ≤ 200) _) (Nat.lt_of_le_of_lt (Nat.add_le_add_right (Nat.le_add_right _ _) _) hr.un)
  have hu5 : _ + 65 < cLine := Nat.lt_of_le_of_lt (Nat.add_le_add_left (by decide : 65 ≤ 200) _) (Nat.lt_of_le_of_lt (Nat.add_le_add_right (Nat.le_add_right _ _) _) hr.un)
  unfold m_piece_at_2 m_piece_at_2_b1
  exact ⟨_, (sss_cons (ss_set (i := 2) nd (se_mv 0)) (sss_cons (ss_for po rfl (si_sq (se_mv 1)) (sg_name nd) (sss_kill (vs := [3, 4]) (sss_cons (ss_set (i := 4) nd (se_call L.h3 hr T.g3 T.F3.kp T.b3 tk (sa_cons (se_mv 2) sa_nil) none)) (sss_cons (ss_if (st_not (st_chain ol_cmp op_le ol_ltA (op_ltA (by exact hu5)) se_int (se_vb 3) (se_cb cl_len call_len T.m_len (sa_cons (se_vb 4) sa_nil)))) (sss_one (ss_raise L.x_NoPlace T.xT_NoPlace T.xo_NoPlace T.xv_NoPlace T.xg_NoPlace T.xb_NoPlace hr tk rfl (sa_cons (se_mv 1) sa_nil))) sss_nil) (sss_one (ss_set (i := 2) nd (se_ixA (by exact hu5) (se_vb 4) (se_vb 3)))))))) (sss_one (ss_end (ss_ret (se_rv 2))))))⟩
/-- signs_of -/
theorem e6 (k : Nat) : fs (k + 1) 6 = fnF 3 1 (m_signs_of (fs k 3) (fs k 6)) := rfl
theorem w6 {T : Top K.fr mg} {k : Nat} (hp : K.pt = false) (L : Lv P K mg base T k) : FnOk P K.w K.fr mg base (L2.CX P K.w) (k + 1) T.a6 T.d6 ["tree"] (spF K (cvK K.fr) 1 (fs (k + 1) 6)) := by
  rw [e6]
  refine fn_of' ["tree", "found", "kid"] rfl rfl T.F6 sc6 fun cdv A outer s H E hr tk po => ?_
  have nd := sc6.nd
  have hu := hr.units
  have hu2 : _ + 199 < cLine := Nat.lt_of_le_of_lt (Nat.add_le_add_left (by decide : 199 ≤ 200) _) (Nat.lt_of_le_of_lt (Nat.add_le_add_right (Nat.le_add_right _ _) _) hr.un)
  have hu5 : _ + 65 < cLine := Nat.lt_of_le_of_lt (Nat.add_le_add_left (by decide : 65 ≤ 200) _) (Nat.lt_of_le_of_lt (Nat.add_le_add_right (Nat.le_add_right _ _) _) hr.un)
  unfold m_signs_of m_signs_of_b1
  exact ⟨_, (sss_cons (ss_if (st_cmp ol_eqB (op_eqB (by exact hu2)) (se_ixA (by exact hu5) (se_vb 0) se_int) se_str) (sss_one (ss_end (ss_ret (se_tup (sa_cons (se_ixA (by exact hu5) (se_vb 0) se_int) sa_nil))))) sss_nil) (sss_cons (ss_set (i := 1) nd (se_tup sa_nil)) (sss_cons (ss_for po rfl (si_sq (se_call L.h3 hr T.g3 T.F3.kp T.b3 tk (sa_cons (se_mv 0) sa_nil) none)) (sg_name nd) (sss_kill (vs := [2]) (sss_one (ss_set (i := 1) nd (se_bin ol_add op_addA (se_vb 1) (se_call L.h6 hr T.g6 T.F6.kp T.b6 tk (sa_cons (se_mv 2) sa_nil) none)))))) (sss_one (ss_end (ss_ret (se_rv 1)))))))⟩
/-- feet_of -/
theorem e7 (k : Nat) : fs (k + 1) 7 = fnF 4 1 (m_feet_of (fs k 4) (fs k 5)) := rfl
theorem w7 {T : Top K.fr mg} {k : Nat} (hp : K.pt = false) (L : Lv P K mg base T k) : FnOk P K.w K.fr mg base (L2.CX P K.w) (k + 1) T.a7 T.d7 ["tree"] (spF K (cvK K.fr) 1 (fs (k + 1) 7)) := by
  rw [e7]
  refine fn_of' ["tree", "pieces", "place", "piece"] rfl rfl T.F7 sc7 fun cdv A outer s H E hr tk po => ?_
  have nd := sc7.nd
  have hu := hr.units
  have hu2 : _ + 199 < cLine := Nat.lt_of_le_of_lt (Nat.add_le_add_left (by decide : 199 ≤ 200) _) (Nat.lt_of_le_of_lt (Nat.add_le_add_right (Nat.le_add_right _ _) _) hr.un)
  have hu5 : _ + 65 < cLine := Nat.lt_of_le_of_lt (Nat.add_le_add_left (by decide : 65 ≤ 200) _) (Nat.lt_of_le_of_lt (Nat.add_le_add_right (Nat.le_add_right _ _) _) hr.un)
  unfold m_feet_of m_feet_of_ce3 m_feet_of_ce2 m_feet_of_ct1
  exact ⟨_, (sss_cons (ss_setLc (i := 1) (own := [(("place" : Str), 2)]) rfl nd (blkOk_by (N := ["tree", "pieces", "place", "piece"]) (sc := defScope s7) (by decide +kernel)) (si_sq (se_call L.h4 hr T.g4 T.F4.kp T.b4 tk (sa_cons (se_mv 0) sa_nil) none)) (fun _ _ _ _ _ => (sgw_name nd)) (fun _ _ _ _ _ => sp_nil) (fun _ _ _ _ _ => (se_call L.h5 (by exact hr) T.g5 T.F5.kp T.b5 takes0 (sa_cons (se_mv 0) (sa_cons (se_mv 2) sa_nil)) none)) (sw_true rfl rfl rfl (by decide +kernel))) (sss_one (ss_end (ss_ret (se_comp (own := [(("piece" : Str), 3)]) rfl nd (blkOk_by (N := ["tree", "pieces", "place", "piece"]) (sc := defScope s7) (by decide +kernel)) (si_sq (se_mv 1)) (fun _ _ _ _ _ => (sgw_name nd)) (fun _ _ _ _ _ => (sp_one (st_cmp ol_eqB (op_eqB (by exact hu2)) (se_ixA (by exact hu5) (se_vb 3) se_int) se_str))) (fun _ _ _ _ _ => (se_ixA (by exact hu5) (se_vb 3) se_int)))))))⟩
/-- is_graft -/
theorem e8 (k : Nat) : fs (k + 1) 8 = fnF 1 1 (m_is_graft (fs k 7)) := rfl
theorem w8 {T : Top K.fr mg} {k : Nat} (hp : K.pt = false) (L : Lv P K mg base T k) : FnOk P K.w K.fr mg base (L2.CX P K.w) (k + 1) T.a8 T.d8 ["tree"] (spF K (cvK K.fr) 1 (fs (k + 1) 8)) := by
  rw [e8]
  refine fn_of' ["tree"] rfl rfl T.F8 sc8 fun cdv A outer s H E hr tk po => ?_
  have nd := sc8.nd
  have hu := hr.units
  have hu2 : _ + 199 < cLine := Nat.lt_of_le_of_lt (Nat.add_le_add_left (by decide : 199 ≤ 200) _) (Nat.lt_of_le_of_lt (Nat.add_le_add_right (Nat.le_add_right _ _) _) hr.un)
  have hu5 : _ + 65 < cLine := Nat.lt_of_le_of_lt (Nat.add_le_add_left (by decide : 65 ≤ 200) _) (Nat.lt_of_le_of_lt (Nat.add_le_add_right (Nat.le_add_right _ _) _) hr.un)
  unfold m_is_graft
  exact ⟨_, (sss_one (ss_end (ss_ret (se_cmp ol_eqB (op_eqB (by exact hu2)) (se_cb cl_len call_len T.m_len (sa_cons (se_call L.h7 hr T.g7 T.F7.kp T.b7 tk (sa_cons (se_mv 0) sa_nil) none) sa_nil)) se_int))))⟩
/-- name_of -/
theorem e9 (k : Nat) : fs (k + 1) 9 = fnF 2 1 (m_name_of (fs k 7)) := rfl
theorem w9 {T : Top K.fr mg} {k : Nat} (hp : K.pt = false) (L : Lv P K mg base T k) : FnOk P K.w K.fr mg base (L2.CX P K.w) (k + 1) T.a9 T.d9 ["tree"] (spF K (cvK K.fr) 1 (fs (k + 1) 9)) := by
  rw [e9]
  refine fn_of' ["tree", "feet"] rfl rfl T.F9 sc9 fun cdv A outer s H E hr tk po => ?_
  have nd := sc9.nd
  have hu := hr.units
  have hu2 : _ + 199 < cLine := Nat.lt_of_le_of_lt (Nat.add_le_add_left (by decide : 199 ≤ 200) _) (Nat.lt_of_le_of_lt (Nat.add_le_add_right (Nat.le_add_right _ _) _) hr.un)
  have hu5 : _ + 65 < cLine := Nat.lt_of_le_of_lt (Nat.add_le_add_left (by decide : 65 ≤ 200) _) (Nat.lt_of_le_of_lt (Nat.add_le_add_right (Nat.le_add_right _ _) _) hr.un)
  unfold m_name_of
  exact ⟨_, (sss_cons (ss_set (i := 1) nd (se_call L.h7 hr T.g7 T.F7.kp T.b7 tk (sa_cons (se_mv 0) sa_nil) none)) (sss_one (ss_end (ss_ret (se_if (st_cmp ol_eqB (op_eqB (by exact hu2)) (se_cb cl_len call_len T.m_len (sa_cons (se_vb 1) sa_nil)) se_int) (se_ixA (by exact hu5) (se_vb 1) se_int) (se_ixA (by exact hu5) (se_vb 0) se_int))))))⟩
/-- tree_of -/
theorem e10 (k : Nat) : fs (k + 1) 10 = fnF 5 2 (m_tree_of) := rfl
theorem w10 {T : Top K.fr mg} {k : Nat} (hp : K.pt = false) (L : Lv P K mg base T k) : FnOk P K.w K.fr mg base (L2.CX P K.w) (k + 1) T.a10 T.d10 ["book", "key"] (spF K (cvK K.fr) 2 (fs (k + 1) 10)) := by
  rw [e10]
  refine fn_of' ["book", "key", "found", "one", "tree"] rfl rfl T.F10 sc10 fun cdv A outer s H E hr tk po => ?_
  have nd := sc10.nd
  have hu := hr.units
  have hu2 : _ + 199 < cLine := Nat.lt_of_le_of_lt (Nat.add_le_add_left (by decide : 199 ≤ 200) _) (Nat.lt_of_le_of_lt (Nat.add_le_add_right (Nat.le_add_right _ _) _) hr.un)
  have hu5 : _ + 65 < cLine := Nat.lt_of_le_of_lt (Nat.add_le_add_left (by decide : 65 ≤ 200) _) (Nat.lt_of_le_of_lt (Nat.add_le_add_right (Nat.le_add_right _ _) _) hr.un)
  unfold m_tree_of m_tree_of_b1
  exact ⟨_, (sss_cons (ss_set (i := 2) nd se_non) (sss_cons (ss_for po rfl (si_sq (se_ixA (by exact hu5) (se_vb 0) se_int)) (sg_tup rfl (sgs_cons (sg_name nd) (sgs_cons (sg_name nd) sgs_nil))) (sss_kill (vs := [3, 4]) (sss_one (ss_if (st_cmp ol_eqB (op_eqB (by exact hu2)) (se_vb 3) (se_vb 1)) (sss_one (ss_set (i := 2) nd (se_mv 4))) sss_nil)))) (sss_one (ss_end (ss_ret (se_rv 2))))))⟩
/-- with_foot -/
theorem e11 (k : Nat) : fs (k + 1) 11 = fnF 3 2 (m_with_foot (fs k 11)) := rfl
theorem w11 {T : Top K.fr mg} {k : Nat} (hp : K.pt = false) (L : Lv P K mg base T k) : FnOk P K.w K.fr mg base (L2.CX P K.w) (k + 1) T.a11 T.d11 ["tree", "other"] (spF K (cvK K.fr) 2 (fs (k + 1) 11)) := by
  rw [e11]
  refine fn_of' ["tree", "other", "kid"] rfl rfl T.F11 sc11 fun cdv A outer s H E hr tk po => ?_
  have nd := sc11.nd
  have hu := hr.units
  have hu2 : _ + 199 < cLine := Nat.lt_of_le_of_lt (Nat.add_le_add_left (by decide : 199 ≤ 200) _) (Nat.lt_of_le_of_lt (Nat.add_le_add_right (Nat.le_add_right _ _) _) hr.un)
  have hu5 : _ + 65 < cLine := Nat.lt_of_le_of_lt (Nat.add_le_add_left (by decide : 65 ≤ 200) _) (Nat.lt_of_le_of_lt (Nat.add_le_add_right (Nat.le_add_right _ _) _) hr.un)
  unfold m_with_foot m_with_foot_ce1
  exact ⟨_, (sss_cons (ss_if (st_cmp ol_eqB (op_eqB (by exact hu2)) (se_ixA (by exact hu5) (se_vb 0) se_int) se_str) (sss_one (ss_end (ss_ret (se_rv 1)))) sss_nil) (sss_cons (ss_if (st_cmp ol_neB (op_neB (by exact hu2)) (se_ixA (by exact hu5) (se_vb 0) se_int) se_str) (sss_one (ss_end (ss_ret (se_rv 0)))) sss_nil) (sss_one (ss_end (ss_ret (se_bin ol_add op_addA (se_slice (se_vb 0) .non (.some se_int)) (se_tup (sa_cons (se_ct cl_tuple call_tupX T.m_tuple (sa_cons (se_comp (own := [(("kid" : Str), 2)]) rfl nd (blkOk_by (N := ["tree", "other", "kid"]) (sc := defScope s11) (by decide +kernel)) (si_sq (se_ixA (by exact hu5) (se_vb 0) se_int)) (fun _ _ _ _ _ => (sgw_name nd)) (fun _ _ _ _ _ => sp_nil) (fun _ _ _ _ _ => (se_call L.h11 (by exact hr) T.g11 T.F11.kp T.b11 takes0 (sa_cons (se_mv 2) (sa_cons (se_mv 1) sa_nil)) none))) sa_nil)) sa_nil))))))))⟩
/-- built_at -/
theorem e12 (k : Nat) : fs (k + 1) 12 = fnF 8 4 (m_built_at (fs k 13) (fs k 11) (fs k 12)) := rfl
theorem w12 {T : Top K.fr mg} {k : Nat} (hp : K.pt = false) (L : Lv P K mg base T k) : FnOk P K.w K.fr mg base (L2.CX P K.w) (k + 1) T.a12 T.d12 ["book", "tree", "place", "puts"] (spF K (cvK K.fr) 4 (fs (k + 1) 12)) := by
  rw [e12]
  refine fn_of' ["book", "tree", "place", "puts", "kids", "knot", "k", "kid"] rfl rfl T.F12 sc12 fun cdv A outer s H E hr tk po => ?_
  have nd := sc12.nd
  have hu := hr.units
  have hu2 : _ + 199 < cLine := Nat.lt_of_le_of_lt (Nat.add_le_add_left (by decide : 199 ≤ 200) _) (Nat.lt_of_le_of_lt (Nat.add_le_add_right (Nat.le_add_right _ _) _) hr.un)
  have hu5 : _ + 65 < cLine := Nat.lt_of_le_of_lt (Nat.add_le_add_left (by decide : 65 ≤ 200) _) (Nat.lt_of_le_of_lt (Nat.add_le_add_right (Nat.le_add_right _ _) _) hr.un)
  unfold m_built_at m_built_at_ce1
  exact ⟨_, (sss_cons (ss_if (st_cmp ol_eqB (op_eqB (by exact hu2)) (se_ixA (by exact hu5) (se_vb 1) se_int) se_str) (sss_one (ss_end (ss_ret (se_call L.h13 hr T.g13 T.F13.kp T.b13 tk (sa_cons (se_mv 0) (sa_cons (se_ixA (by exact hu5) (se_vb 3) (se_vb 2)) sa_nil)) none)))) sss_nil) (sss_cons (ss_if (st_cmp ol_neB (op_neB (by exact hu2)) (se_ixA (by exact hu5) (se_vb 1) se_int) se_str) (sss_one (ss_end (ss_ret (se_rv 1)))) sss_nil) (sss_cons (ss_setLc (i := 4) (own := [(("k" : Str), 6), (("kid" : Str), 7)]) rfl nd (blkOk_by (N := ["book", "tree", "place", "puts", "kids", "knot", "k", "kid"]) (sc := defScope s12) (by decide +kernel)) (si_en (se_ixA (by exact hu5) (se_vb 1) se_int) T.m_enumerate) (fun _ _ _ _ _ => (sgw_tup rfl (sgws_cons (sgw_name nd) (sgws_cons (sgw_name nd) sgws_nil)))) (fun _ _ _ _ _ => sp_nil) (fun _ _ _ _ _ => (se_call L.h12 (by exact hr) T.g12 T.F12.kp T.b12 takes0 (sa_cons (se_mv 0) (sa_cons (se_mv 7) (sa_cons (se_bin ol_add op_addA (se_vb 2) (se_tup (sa_cons (se_mv 6) sa_nil))) (sa_cons (se_mv 3) sa_nil)))) none)) (sw_true rfl rfl rfl (by decide +kernel))) (sss_cons (ss_set (i := 5) nd (se_tup (sa_cons se_str (sa_cons (se_ixA (by exact hu5) (se_vb 1) se_int) (sa_cons se_non (sa_cons (se_ct cl_tuple call_tupX T.m_tuple (sa_cons (se_vb 4) sa_nil)) sa_nil)))))) (sss_one (ss_end (ss_ret (se_if (st_cmp ol_inB (op_inB (by exact hu5)) (se_vb 2) (se_vb 3)) (se_call L.h11 hr T.g11 T.F11.kp T.b11 tk (sa_cons (se_call L.h13 hr T.g13 T.F13.kp T.b13 tk (sa_cons (se_mv 0) (sa_cons (se_ixA (by exact hu5) (se_vb 3) (se_vb 2)) sa_nil)) none) (sa_cons (se_mv 5) sa_nil)) none) (se_mv 5)))))))))⟩
/-- built -/
theorem e13 (k : Nat) : fs (k + 1) 13 = fnF 2 2 (m_built (fs k 10) (fs k 12)) := rfl
theorem w13 {T : Top K.fr mg} {k : Nat} (hp : K.pt = false) (L : Lv P K mg base T k) : FnOk P K.w K.fr mg base (L2.CX P K.w) (k + 1) T.a13 T.d13 ["book", "plan"] (spF K (cvK K.fr) 2 (fs (k + 1) 13)) := by
  rw [e13]
  refine fn_of' ["book", "plan"] rfl rfl T.F13 sc13 fun cdv A outer s H E hr tk po => ?_
  have nd := sc13.nd
  have hu := hr.units
  have hu2 : _ + 199 < cLine := Nat.lt_of_le_of_lt (Nat.add_le_add_left (by decide : 199 ≤ 200) _) (Nat.lt_of_le_of_lt (Nat.add_le_add_right (Nat.le_add_right _ _) _) hr.un)
  have hu5 : _ + 65 < cLine := Nat.lt_of_le_of_lt (Nat.add_le_add_left (by decide : 65 ≤ 200) _) (Nat.lt_of_le_of_lt (Nat.add_le_add_right (Nat.le_add_right _ _) _) hr.un)
  unfold m_built
  exact ⟨_, (sss_one (ss_end (ss_ret (se_call L.h12 hr T.g12 T.F12.kp T.b12 tk (sa_cons (se_mv 0) (sa_cons (se_call L.h10 hr T.g10 T.F10.kp T.b10 tk (sa_cons (se_mv 0) (sa_cons (se_ixA (by exact hu5) (se_vb 1) se_int) sa_nil)) none) (sa_cons (se_tup sa_nil) (sa_cons (se_ct cl_dict (call_dictX rfl (by exact hu5)) T.m_dict (sa_cons (se_ixA (by exact hu5) (se_vb 1) se_int) sa_nil)) sa_nil)))) none))))⟩
/-- row_of -/
theorem e14 (k : Nat) : fs (k + 1) 14 = fnF 2 2 (m_row_of (fs k 13) (fs k 6)) := rfl
theorem w14 {T : Top K.fr mg} {k : Nat} (hp : K.pt = false) (L : Lv P K mg base T k) : FnOk P K.w K.fr mg base (L2.CX P K.w) (k + 1) T.a14 T.d14 ["book", "plan"] (spF K (cvK K.fr) 2 (fs (k + 1) 14)) := by
  rw [e14]
  refine fn_of' ["book", "plan"] rfl rfl T.F14 sc14 fun cdv A outer s H E hr tk po => ?_
  have nd := sc14.nd
  have hu := hr.units
  have hu2 : _ + 199 < cLine := Nat.lt_of_le_of_lt (Nat.add_le_add_left (by decide : 199 ≤ 200) _) (Nat.lt_of_le_of_lt (Nat.add_le_add_right (Nat.le_add_right _ _) _) hr.un)
  have hu5 : _ + 65 < cLine := Nat.lt_of_le_of_lt (Nat.add_le_add_left (by decide : 65 ≤ 200) _) (Nat.lt_of_le_of_lt (Nat.add_le_add_right (Nat.le_add_right _ _) _) hr.un)
  unfold m_row_of
  exact ⟨_, (sss_one (ss_end (ss_ret (se_call L.h6 hr T.g6 T.F6.kp T.b6 tk (sa_cons (se_call L.h13 hr T.g13 T.F13.kp T.b13 tk (sa_cons (se_mv 0) (sa_cons (se_mv 1) sa_nil)) none) sa_nil) none))))⟩
/-- wanted -/
theorem e15 (k : Nat) : fs (k + 1) 15 = fnF 1 1 (m_wanted) := rfl
theorem w15 {T : Top K.fr mg} {k : Nat} (hp : K.pt = false) (L : Lv P K mg base T k) : FnOk P K.w K.fr mg base (L2.CX P K.w) (k + 1) T.a15 T.d15 ["piece"] (spF K (cvK K.fr) 1 (fs (k + 1) 15)) := by
  rw [e15]
  refine fn_of' ["piece"] rfl rfl T.F15 sc15 fun cdv A outer s H E hr tk po => ?_
  have nd := sc15.nd
  have hu := hr.units
  have hu2 : _ + 199 < cLine := Nat.lt_of_le_of_lt (Nat.add_le_add_left (by decide : 199 ≤ 200) _) (Nat.lt_of_le_of_lt (Nat.add_le_add_right (Nat.le_add_right _ _) _) hr.un)
  have hu5 : _ + 65 < cLine := Nat.lt_of_le_of_lt (Nat.add_le_add_left (by decide : 65 ≤ 200) _) (Nat.lt_of_le_of_lt (Nat.add_le_add_right (Nat.le_add_right _ _) _) hr.un)
  unfold m_wanted
  exact ⟨_, (sss_cons (ss_if (st_cmp ol_eqB (op_eqB (by exact hu2)) (se_ixA (by exact hu5) (se_vb 0) se_int) se_str) (sss_one (ss_end (ss_ret (se_tup (sa_cons se_bl (sa_cons (se_ixA (by exact hu5) (se_vb 0) se_int) (sa_cons se_bl sa_nil))))))) sss_nil) (sss_cons (ss_if (sw_and (st_cmp ol_eqB (op_eqB (by exact hu2)) (se_ixA (by exact hu5) (se_vb 0) se_int) se_str) (sw_one (st_cmp ol_not op_notA (se_ixA (by exact hu5) (se_vb 0) se_int) se_non))).st (sss_one (ss_end (ss_ret (se_tup (sa_cons se_bl (sa_cons (se_ixA (by exact hu5) (se_ixA (by exact hu5) (se_vb 0) se_int) se_int) (sa_cons (se_ixA (by exact hu5) (se_ixA (by exact hu5) (se_vb 0) se_int) se_int) sa_nil))))))) sss_nil) (sss_one (ss_ret se_non))))⟩
/-- takers -/
theorem e16 (k : Nat) : fs (k + 1) 16 = fnF 5 2 (m_takers (fs k 9) (fs k 8) (fs k 15)) := rfl
theorem w16 {T : Top K.fr mg} {k : Nat} (hp : K.pt = false) (L : Lv P K mg base T k) : FnOk P K.w K.fr mg base (L2.CX P K.w) (k + 1) T.a16 T.d16 ["book", "piece"] (spF K (cvK K.fr) 2 (fs (k + 1) 16)) := by
  rw [e16]
  refine fn_of' ["book", "piece", "want", "key", "tree"] rfl rfl T.F16 sc16 fun cdv A outer s H E hr tk po => ?_
  have nd := sc16.nd
  have hu := hr.units
  have hu2 : _ + 199 < cLine := Nat.lt_of_le_of_lt (Nat.add_le_add_left (by decide : 199 ≤ 200) _) (Nat.lt_of_le_of_lt (Nat.add_le_add_right (Nat.le_add_right _ _) _) hr.un)
  have hu5 : _ + 65 < cLine := Nat.lt_of_le_of_lt (Nat.add_le_add_left (by decide : 65 ≤ 200) _) (Nat.lt_of_le_of_lt (Nat.add_le_add_right (Nat.le_add_right _ _) _) hr.un)
  unfold m_takers m_takers_ce2 m_takers_ct1
  exact ⟨_, (sss_cons (ss_set (i := 2) nd (se_call L.h15 hr T.g15 T.F15.kp T.b15 tk (sa_cons (se_mv 1) sa_nil) none)) (sss_cons (ss_if (st_cmp ol_is op_isA (se_vb 2) se_non) (sss_one (ss_end (ss_ret (se_lst sa_nil)))) sss_nil) (sss_one (ss_end (ss_ret (se_comp (own := [(("key" : Str), 3), (("tree" : Str), 4)]) rfl nd (blkOk_by (N := ["book", "piece", "want", "key", "tree"]) (sc := defScope s16) (by decide +kernel)) (si_sq (se_ixA (by exact hu5) (se_vb 0) se_int)) (fun _ _ _ _ _ => (sgw_tup rfl (sgws_cons (sgw_name nd) (sgws_cons (sgw_name nd) sgws_nil)))) (fun _ _ _ _ _ => (sp_one (sw_and (st_cmp ol_eqB (op_eqB (by exact hu2)) (se_call L.h8 (by exact hr) T.g8 T.F8.kp T.b8 takes0 (sa_cons (se_mv 4) sa_nil) none) (se_ixA (by exact hu5) (se_vb 2) se_int)) (sw_one (st_cmp ol_eqB (op_eqB (by exact hu2)) (se_call L.h9 (by exact hr) T.g9 T.F9.kp T.b9 takes0 (sa_cons (se_mv 4) sa_nil) none) (se_ixA (by exact hu5) (se_vb 2) se_int)))).st)) (fun _ _ _ _ _ => (se_mv 3))))))))⟩
/-- are_numbers -/
theorem e17 (k : Nat) : fs (k + 1) 17 = fnF 2 1 (m_are_numbers) := rfl
theorem w17 {T : Top K.fr mg} {k : Nat} (hp : K.pt = false) (L : Lv P K mg base T k) : FnOk P K.w K.fr mg base (L2.CX P K.w) (k + 1) T.a17 T.d17 ["thing"] (spF K (cvK K.fr) 1 (fs (k + 1) 17)) := by
  rw [e17]
  refine fn_of' ["thing", "one"] rfl rfl T.F17 sc17 fun cdv A outer s H E hr tk po => ?_
  have nd := sc17.nd
  have hu := hr.units
  have hu2 : _ + 199 < cLine := Nat.lt_of_le_of_lt (Nat.add_le_add_left (by decide : 199 ≤ 200) _) (Nat.lt_of_le_of_lt (Nat.add_le_add_right (Nat.le_add_right _ _) _) hr.un)
  have hu5 : _ + 65 < cLine := Nat.lt_of_le_of_lt (Nat.add_le_add_left (by decide : 65 ≤ 200) _) (Nat.lt_of_le_of_lt (Nat.add_le_add_right (Nat.le_add_right _ _) _) hr.un)
  unfold m_are_numbers m_are_numbers_b1
  exact ⟨_, (sss_cons (ss_if (st_not (st_val (se_isi kit_tup T.m_isinstance T.m_tuple (se_vb 0)))) (sss_one (ss_end (ss_ret se_bl))) sss_nil) (sss_cons (ss_for po rfl (si_sq (se_mv 0)) (sg_name nd) (sss_kill (vs := [1]) (sss_one (ss_if (sw_or (st_val (se_isi kit_bool T.m_isinstance T.m_bool (se_vb 1))) (sw_one (st_not (st_val (se_isi kit_int T.m_isinstance T.m_int (se_vb 1)))))).st (sss_one (ss_end (ss_ret se_bl))) sss_nil)))) (sss_one (ss_end (ss_ret se_bl)))))⟩
/-- are_puts -/
theorem e18 (k : Nat) : fs (k + 1) 18 = fnF 3 1 (m_are_puts (fs k 17)) := rfl
theorem w18 {T : Top K.fr mg} {k : Nat} (hp : K.pt = false) (L : Lv P K mg base T k) : FnOk P K.w K.fr mg base (L2.CX P K.w) (k + 1) T.a18 T.d18 ["thing"] (spF K (cvK K.fr) 1 (fs (k + 1) 18)) := by
  rw [e18]
  refine fn_of' ["thing", "ahead", "one"] rfl rfl T.F18 sc18 fun cdv A outer s H E hr tk po => ?_
  have nd := sc18.nd
  have hu := hr.units
  have hu2 : _ + 199 < cLine := Nat.lt_of_le_of_lt (Nat.add_le_add_left (by decide : 199 ≤ 200) _) (Nat.lt_of_le_of_lt (Nat.add_le_add_right (Nat.le_add_right _ _) _) hr.un)
  have hu5 : _ + 65 < cLine := Nat.lt_of_le_of_lt (Nat.add_le_add_left (by decide : 65 ≤ 200) _) (Nat.lt_of_le_of_lt (Nat.add_le_add_right (Nat.le_add_right _ _) _) hr.un)
  unfold m_are_puts m_are_puts_b1
  exact ⟨_, (sss_cons (ss_if (st_not (st_val (se_isi kit_tup T.m_isinstance T.m_tuple (se_vb 0)))) (sss_one (ss_end (ss_ret se_bl))) sss_nil) (sss_cons (ss_set (i := 1) nd se_non) (sss_cons (ss_for po rfl (si_sq (se_mv 0)) (sg_name nd) (sss_kill (vs := [2]) (sss_cons (ss_if (sw_or (st_not (st_val (se_isi kit_tup T.m_isinstance T.m_tuple (se_vb 2)))) (sw_or (st_cmp ol_neB (op_neB (by exact hu2)) (se_cb cl_len call_len T.m_len (sa_cons (se_vb 2) sa_nil)) se_int) (sw_one (st_not (st_val (se_call L.h17 hr T.g17 T.F17.kp T.b17 tk (sa_cons (se_ixA (by exact hu5) (se_vb 2) se_int) sa_nil) none)))))).st (sss_one (ss_end (ss_ret se_bl))) sss_nil) (sss_cons (ss_if (sw_or (st_not (st_val (se_isi kit_tup T.m_isinstance T.m_tuple (se_ixA (by exact hu5) (se_vb 2) se_int)))) (sw_or (st_cmp ol_neB (op_neB (by exact hu2)) (se_cb cl_len call_len T.m_len (sa_cons (se_ixA (by exact hu5) (se_vb 2) se_int) sa_nil)) se_int) (sw_one (st_not (st_val (se_isi kit_str T.m_isinstance T.m_str (se_ixA (by exact hu5) (se_ixA (by exact hu5) (se_vb 2) se_int) se_int))))))).st (sss_one (ss_end (ss_ret se_bl))) sss_nil) (sss_cons (ss_if (sw_and (st_cmp ol_not op_notA (se_vb 1) se_non) (sw_one (st_not (st_cmp ol_ltA (op_ltA (by exact hu5)) (se_vb 1) (se_ixA (by exact hu5) (se_vb 2) se_int))))).st (sss_one (ss_end (ss_ret se_bl))) sss_nil) (sss_one (ss_set (i := 1) nd (se_ixA (by exact hu5) (se_vb 2) se_int)))))))) (sss_one (ss_end (ss_ret se_bl))))))⟩
/-- put_well -/
theorem e19 (k : Nat) : fs (k + 1) 19 = fnF 7 3 (m_put_well (fs k 4) (fs k 16) (fs k 15) (fs k 5)) := rfl
theorem w19 {T : Top K.fr mg} {k : Nat} (hp : K.pt = false) (L : Lv P K mg base T k) : FnOk P K.w K.fr mg base (L2.CX P K.w) (k + 1) T.a19 T.d19 ["book", "tree", "puts"] (spF K (cvK K.fr) 3 (fs (k + 1) 19)) := by
  rw [e19]
  refine fn_of' ["book", "tree", "puts", "told", "place", "piece", "want"] rfl rfl T.F19 sc19 fun cdv A outer s H E hr tk po => ?_
  have nd := sc19.nd
  have hu := hr.units
  have hu2 : _ + 199 < cLine := Nat.lt_of_le_of_lt (Nat.add_le_add_left (by decide : 199 ≤ 200) _) (Nat.lt_of_le_of_lt (Nat.add_le_add_right (Nat.le_add_right _ _) _) hr.un)
  have hu5 : _ + 65 < cLine := Nat.lt_of_le_of_lt (Nat.add_le_add_left (by decide : 65 ≤ 200) _) (Nat.lt_of_le_of_lt (Nat.add_le_add_right (Nat.le_add_right _ _) _) hr.un)
  unfold m_put_well m_put_well_b3 m_put_well_ce2 m_put_well_ct1
  exact ⟨_, (sss_cons (ss_set (i := 3) nd (se_ct cl_dict (call_dictX rfl (by exact hu5)) T.m_dict (sa_cons (se_vb 2) sa_nil))) (sss_cons (ss_for po rfl (si_sq (se_call L.h4 hr T.g4 T.F4.kp T.b4 tk (sa_cons (se_mv 1) sa_nil) none)) (sg_name nd) (sss_kill (vs := [4, 5, 6]) (sss_cons (ss_set (i := 5) nd (se_call L.h5 hr T.g5 T.F5.kp T.b5 tk (sa_cons (se_mv 1) (sa_cons (se_mv 4) sa_nil)) none)) (sss_cons (ss_set (i := 6) nd (se_call L.h15 hr T.g15 T.F15.kp T.b15 tk (sa_cons (se_mv 5) sa_nil) none)) (sss_cons (ss_if (sw_and (st_cmp ol_not op_notA (se_vb 6) se_non) (sw_and (st_val (se_ixA (by exact hu5) (se_vb 6) se_int)) (sw_one (st_cmp ol_notInB (op_notInB (by exact hu5)) (se_vb 4) (se_vb 3))))).st (sss_one (ss_end (ss_ret se_bl))) sss_nil) (sss_one (ss_if (sw_and (st_cmp ol_inB (op_inB (by exact hu5)) (se_vb 4) (se_vb 3)) (sw_one (st_cmp ol_notInB (op_notInB (by exact hu5)) (se_ixA (by exact hu5) (se_ixA (by exact hu5) (se_vb 3) (se_vb 4)) se_int) (se_call L.h16 hr T.g16 T.F16.kp T.b16 tk (sa_cons (se_mv 0) (sa_cons (se_mv 5) sa_nil)) none)))).st (sss_one (ss_end (ss_ret se_bl))) sss_nil))))))) (sss_one (ss_end (ss_ret (se_cmp ol_eqB (op_eqB (by exact hu2)) (se_cb cl_len call_len T.m_len (sa_cons (se_comp (own := [(("place" : Str), 4)]) rfl nd (blkOk_by (N := ["book", "tree", "puts", "told", "place", "piece", "want"]) (sc := defScope s19) (by decide +kernel)) (si_sq (se_mv 3)) (fun _ _ _ _ _ => (sgw_name nd)) (fun _ _ _ _ _ => (sp_one (st_cmp ol_notInB (op_notInB (by exact hu5)) (se_vb 4) (se_call L.h4 (by exact hr) T.g4 T.F4.kp T.b4 takes0 (sa_cons (se_mv 1) sa_nil) none)))) (fun _ _ _ _ _ => (se_mv 4))) sa_nil)) se_int))))))⟩
/-- is_plan -/
theorem e20 (k : Nat) : fs (k + 1) 20 = fnF 5 2 (m_is_plan (fs k 20) (fs k 19) (fs k 10) (fs k 18)) := rfl
theorem w20 {T : Top K.fr mg} {k : Nat} (hp : K.pt = false) (L : Lv P K mg base T k) : FnOk P K.w K.fr mg base (L2.CX P K.w) (k + 1) T.a20 T.d20 ["book", "thing"] (spF K (cvK K.fr) 2 (fs (k + 1) 20)) := by
  rw [e20]
  refine fn_of' ["book", "thing", "tree", "place", "plan"] rfl rfl T.F20 sc20 fun cdv A outer s H E hr tk po => ?_
  have nd := sc20.nd
  have hu := hr.units
  have hu2 : _ + 199 < cLine := Nat.lt_of_le_of_lt (Nat.add_le_add_left (by decide : 199 ≤ 200) _) (Nat.lt_of_le_of_lt (Nat.add_le_add_right (Nat.le_add_right _ _) _) hr.un)
  have hu5 : _ + 65 < cLine := Nat.lt_of_le_of_lt (Nat.add_le_add_left (by decide : 65 ≤ 200) _) (Nat.lt_of_le_of_lt (Nat.add_le_add_right (Nat.le_add_right _ _) _) hr.un)
  unfold m_is_plan m_is_plan_b1
  exact ⟨_, (sss_cons (ss_if (sw_or (st_not (st_val (se_isi kit_tup T.m_isinstance T.m_tuple (se_vb 1)))) (sw_or (st_cmp ol_neB (op_neB (by exact hu2)) (se_cb cl_len call_len T.m_len (sa_cons (se_vb 1) sa_nil)) se_int) (sw_or (st_not (st_val (se_isi kit_str T.m_isinstance T.m_str (se_ixA (by exact hu5) (se_vb 1) se_int)))) (sw_one (st_not (st_val (se_call L.h18 hr T.g18 T.F18.kp T.b18 tk (sa_cons (se_ixA (by exact hu5) (se_vb 1) se_int) sa_nil) none))))))).st (sss_one (ss_end (ss_ret se_bl))) sss_nil) (sss_cons (ss_set (i := 2) nd (se_call L.h10 hr T.g10 T.F10.kp T.b10 tk (sa_cons (se_mv 0) (sa_cons (se_ixA (by exact hu5) (se_vb 1) se_int) sa_nil)) none)) (sss_cons (ss_if (sw_or (st_cmp ol_is op_isA (se_vb 2) se_non) (sw_one (st_not (st_val (se_call L.h19 hr T.g19 T.F19.kp T.b19 tk (sa_cons (se_mv 0) (sa_cons (se_mv 2) (sa_cons (se_ixA (by exact hu5) (se_vb 1) se_int) sa_nil))) none))))).st (sss_one (ss_end (ss_ret se_bl))) sss_nil) (sss_cons (ss_for po rfl (si_sq (se_ixA (by exact hu5) (se_vb 1) se_int)) (sg_tup rfl (sgs_cons (sg_name nd) (sgs_cons (sg_name nd) sgs_nil))) (sss_kill (vs := [3, 4]) (sss_one (ss_if (st_not (st_val (se_call L.h20 hr T.g20 T.F20.kp T.b20 tk (sa_cons (se_mv 0) (sa_cons (se_mv 4) sa_nil)) none))) (sss_one (ss_end (ss_ret se_bl))) sss_nil)))) (sss_one (ss_end (ss_ret se_bl)))))))⟩
/-- is_whole -/
theorem e21 (k : Nat) : fs (k + 1) 21 = fnF 3 2 (m_is_whole (fs k 9) (fs k 8) (fs k 10)) := rfl
theorem w21 {T : Top K.fr mg} {k : Nat} (hp : K.pt = false) (L : Lv P K mg base T k) : FnOk P K.w K.fr mg base (L2.CX P K.w) (k + 1) T.a21 T.d21 ["book", "plan"] (spF K (cvK K.fr) 2 (fs (k + 1) 21)) := by
  rw [e21]
  refine fn_of' ["book", "plan", "tree"] rfl rfl T.F21 sc21 fun cdv A outer s H E hr tk po => ?_
  have nd := sc21.nd
  have hu := hr.units
  have hu2 : _ + 199 < cLine := Nat.lt_of_le_of_lt (Nat.add_le_add_left (by decide : 199 ≤ 200) _) (Nat.lt_of_le_of_lt (Nat.add_le_add_right (Nat.le_add_right _ _) _) hr.un)
  have hu5 : _ + 65 < cLine := Nat.lt_of_le_of_lt (Nat.add_le_add_left (by decide : 65 ≤ 200) _) (Nat.lt_of_le_of_lt (Nat.add_le_add_right (Nat.le_add_right _ _) _) hr.un)
  unfold m_is_whole
  exact ⟨_, (sss_cons (ss_set (i := 2) nd (se_call L.h10 hr T.g10 T.F10.kp T.b10 tk (sa_cons (se_mv 0) (sa_cons (se_ixA (by exact hu5) (se_vb 1) se_int) sa_nil)) none)) (sss_one (ss_end (ss_ret (se_and (se_not (se_call L.h8 hr T.g8 T.F8.kp T.b8 tk (sa_cons (se_mv 2) sa_nil) none)) (se_one (se_cmp ol_eqB (op_eqB (by exact hu2)) (se_call L.h9 hr T.g9 T.F9.kp T.b9 tk (sa_cons (se_mv 2) sa_nil) none) (se_ixA (by exact hu5) (se_vb 0) se_int))))))))⟩
/-- _law_cell_at -/
theorem e22 (k : Nat) : fs (k + 1) 22 = fnF 2 2 (m_law_cell_at) := rfl
theorem w22 {T : Top K.fr mg} {k : Nat} (hp : K.pt = false) (L : Lv P K mg base T k) : FnOk P K.w K.fr mg base (L2.CX P K.w) (k + 1) T.a22 T.d22 ["script", "k"] (spF K (cvK K.fr) 2 (fs (k + 1) 22)) := by
  rw [e22]
  refine fn_of' ["script", "k"] rfl rfl T.F22 sc22 fun cdv A outer s H E hr tk po => ?_
  have nd := sc22.nd
  have hu := hr.units
  have hu2 : _ + 199 < cLine := Nat.lt_of_le_of_lt (Nat.add_le_add_left (by decide : 199 ≤ 200) _) (Nat.lt_of_le_of_lt (Nat.add_le_add_right (Nat.le_add_right _ _) _) hr.un)
  have hu5 : _ + 65 < cLine := Nat.lt_of_le_of_lt (Nat.add_le_add_left (by decide : 65 ≤ 200) _) (Nat.lt_of_le_of_lt (Nat.add_le_add_right (Nat.le_add_right _ _) _) hr.un)
  unfold m_law_cell_at
  exact ⟨_, (sss_cons (ss_if (st_cmp ol_ltA (op_ltA (by exact hu5)) (se_vb 1) (se_cb cl_len call_len T.m_len (sa_cons (se_vb 0) sa_nil))) (sss_one (ss_end (ss_ret (se_ixA (by exact hu5) (se_vb 0) (se_vb 1))))) sss_nil) (sss_one (ss_ret se_int)))⟩
/-- _law_names -/
theorem e23 (k : Nat) : fs (k + 1) 23 = fnF 4 1 (m_law_names_2) := rfl
theorem w23 {T : Top K.fr mg} {k : Nat} (hp : K.pt = false) (L : Lv P K mg base T k) : FnOk P K.w K.fr mg base (L2.CX P K.w) (k + 1) T.a23 T.d23 ["cell"] (spF K (cvK K.fr) 1 (fs (k + 1) 23)) := by
  rw [e23]
  refine fn_of' ["cell", "letter", "more", "k"] rfl rfl T.F23 sc23 fun cdv A outer s H E hr tk po => ?_
  have nd := sc23.nd
  have hu := hr.units
  have hu2 : _ + 199 < cLine := Nat.lt_of_le_of_lt (Nat.add_le_add_left (by decide : 199 ≤ 200) _) (Nat.lt_of_le_of_lt (Nat.add_le_add_right (Nat.le_add_right _ _) _) hr.un)
  have hu5 : _ + 65 < cLine := Nat.lt_of_le_of_lt (Nat.add_le_add_left (by decide : 65 ≤ 200) _) (Nat.lt_of_le_of_lt (Nat.add_le_add_right (Nat.le_add_right _ _) _) hr.un)
  unfold m_law_names_2 m_law_names_2_ce2 m_law_names_2_ce1
  exact ⟨_, (sss_cons (ss_set (i := 1) nd (se_ixA (by exact hu5) se_str (se_bin ol_mod op_mod (se_vb 0) se_int))) (sss_cons (ss_set (i := 2) nd (se_bin ol_mod op_mod (se_bin ol_div op_fdiv (se_vb 0) se_int) se_int)) (sss_cons (ss_if (st_cmp ol_eqB (op_eqB (by exact hu2)) (se_bin ol_mod op_mod (se_bin ol_div op_fdiv (se_vb 0) se_int) se_int) se_int) (sss_one (ss_end (ss_ret (se_comp (own := [(("k" : Str), 3)]) rfl nd (blkOk_by (N := ["cell", "letter", "more", "k"]) (sc := defScope s23) (by decide +kernel)) (si_r1 se_int T.m_range) (fun _ _ _ _ _ => (sgw_name nd)) (fun _ _ _ _ _ => sp_nil) (fun _ _ _ _ _ => (se_bin ol_mulA op_mulA (se_vb 1) (se_bin ol_sub op_sub (se_bin ol_add op_addA (se_vb 2) se_int) (se_vb 3)))))))) sss_nil) (sss_one (ss_end (ss_ret (se_comp (own := [(("k" : Str), 3)]) rfl nd (blkOk_by (N := ["cell", "letter", "more", "k"]) (sc := defScope s23) (by decide +kernel)) (si_r1 se_int T.m_range) (fun _ _ _ _ _ => (sgw_name nd)) (fun _ _ _ _ _ => sp_nil) (fun _ _ _ _ _ => (se_bin ol_add op_addA (se_bin ol_add op_addA (se_bin ol_mulA op_mulA (se_vb 1) (se_bin ol_add op_addA (se_vb 2) se_int)) (se_ixA (by exact hu5) se_str (se_vb 3))) (se_bin ol_mulA op_mulA (se_vb 1) (se_bin ol_mod op_mod (se_bin ol_div op_fdiv (se_vb 0) se_int) se_int)))))))))))⟩
/-- _law_keys -/
theorem e24 (k : Nat) : fs (k + 1) 24 = fnF 5 2 (m_law_keys_2) := rfl
theorem w24 {T : Top K.fr mg} {k : Nat} (hp : K.pt = false) (L : Lv P K mg base T k) : FnOk P K.w K.fr mg base (L2.CX P K.w) (k + 1) T.a24 T.d24 ["cell", "many"] (spF K (cvK K.fr) 2 (fs (k + 1) 24)) := by
  rw [e24]
  refine fn_of' ["cell", "many", "letter", "more", "k"] rfl rfl T.F24 sc24 fun cdv A outer s H E hr tk po => ?_
  have nd := sc24.nd
  have hu := hr.units
  have hu2 : _ + 199 < cLine := Nat.lt_of_le_of_lt (Nat.add_le_add_left (by decide : 199 ≤ 200) _) (Nat.lt_of_le_of_lt (Nat.add_le_add_right (Nat.le_add_right _ _) _) hr.un)
  have hu5 : _ + 65 < cLine := Nat.lt_of_le_of_lt (Nat.add_le_add_left (by decide : 65 ≤ 200) _) (Nat.lt_of_le_of_lt (Nat.add_le_add_right (Nat.le_add_right _ _) _) hr.un)
  unfold m_law_keys_2 m_law_keys_2_ce2 m_law_keys_2_ce1
  exact ⟨_, (sss_cons (ss_set (i := 2) nd (se_ixA (by exact hu5) se_str (se_bin ol_mod op_mod (se_vb 0) se_int))) (sss_cons (ss_set (i := 3) nd (se_bin ol_mod op_mod (se_bin ol_div op_fdiv (se_vb 0) se_int) se_int)) (sss_cons (ss_if (st_cmp ol_eqB (op_eqB (by exact hu2)) (se_bin ol_mod op_mod (se_bin ol_div op_fdiv (se_vb 0) se_int) se_int) se_int) (sss_one (ss_end (ss_ret (se_comp (own := [(("k" : Str), 4)]) rfl nd (blkOk_by (N := ["cell", "many", "letter", "more", "k"]) (sc := defScope s24) (by decide +kernel)) (si_r1 (se_vb 1) T.m_range) (fun _ _ _ _ _ => (sgw_name nd)) (fun _ _ _ _ _ => sp_nil) (fun _ _ _ _ _ => (se_bin ol_mulA op_mulA (se_vb 2) (se_bin ol_add op_addA (se_vb 3) (se_ixA (by exact hu5) (se_lst (sa_cons se_int (sa_cons se_int (sa_cons se_int (sa_cons se_int (sa_cons se_int (sa_cons se_int sa_nil))))))) (se_vb 4))))))))) sss_nil) (sss_one (ss_end (ss_ret (se_comp (own := [(("k" : Str), 4)]) rfl nd (blkOk_by (N := ["cell", "many", "letter", "more", "k"]) (sc := defScope s24) (by decide +kernel)) (si_r1 (se_vb 1) T.m_range) (fun _ _ _ _ _ => (sgw_name nd)) (fun _ _ _ _ _ => sp_nil) (fun _ _ _ _ _ => (se_bin ol_add op_addA (se_bin ol_add op_addA (se_bin ol_mulA op_mulA (se_vb 2) (se_bin ol_add op_addA (se_vb 3) se_int)) (se_ixA (by exact hu5) se_str (se_vb 4))) (se_bin ol_mulA op_mulA (se_vb 2) (se_bin ol_mod op_mod (se_bin ol_div op_fdiv (se_vb 0) se_int) se_int)))))))))))⟩
/-- _law_home -/
theorem e25 (k : Nat) : fs (k + 1) 25 = fnF 10 2 (m_law_home) := rfl
theorem w25 {T : Top K.fr mg} {k : Nat} (hp : K.pt = false) (L : Lv P K mg base T k) : FnOk P K.w K.fr mg base (L2.CX P K.w) (k + 1) T.a25 T.d25 ["names", "keys"] (spF K (cvK K.fr) 2 (fs (k + 1) 25)) := by
  rw [e25]
  refine fn_of' ["names", "keys", "top", "may", "inner", "link", "leaf", "stem", "wide", "turn"] rfl rfl T.F25 sc25 fun cdv A outer s H E hr tk po => ?_
  have nd := sc25.nd
  have hu := hr.units
  have hu2 : _ + 199 < cLine := Nat.lt_of_le_of_lt (Nat.add_le_add_left (by decide : 199 ≤ 200) _) (Nat.lt_of_le_of_lt (Nat.add_le_add_right (Nat.le_add_right _ _) _) hr.un)
  have hu5 : _ + 65 < cLine := Nat.lt_of_le_of_lt (Nat.add_le_add_left (by decide : 65 ≤ 200) _) (Nat.lt_of_le_of_lt (Nat.add_le_add_right (Nat.le_add_right _ _) _) hr.un)
  unfold m_law_home
  exact ⟨_, (sss_cons (ss_set (i := 2) nd (se_ixA (by exact hu5) (se_vb 0) se_int)) (sss_cons (ss_set (i := 3) nd (se_tup (sa_cons (se_ixA (by exact hu5) (se_vb 0) se_int) (sa_cons se_bl sa_nil)))) (sss_cons (ss_set (i := 4) nd (se_tup (sa_cons se_str (sa_cons (se_ixA (by exact hu5) (se_vb 0) se_int) (sa_cons (se_mv 3) (sa_cons (se_tup (sa_cons (se_tup (sa_cons se_str (sa_cons se_str sa_nil))) sa_nil)) sa_nil)))))) (sss_cons (ss_set (i := 5) nd (se_tup (sa_cons se_str (sa_cons (se_mv 2) (sa_cons (se_mv 3) (sa_cons (se_tup (sa_cons (se_tup (sa_cons se_str (sa_cons se_str sa_nil))) (sa_cons (se_tup (sa_cons se_str (sa_cons (se_mv 2) sa_nil))) (sa_cons (se_mv 4) sa_nil)))) sa_nil)))))) (sss_cons (ss_set (i := 6) nd (se_tup (sa_cons se_str (sa_cons (se_mv 2) (sa_cons (se_mv 3) (sa_cons (se_tup (sa_cons (se_tup (sa_cons se_str (sa_cons se_str sa_nil))) sa_nil)) sa_nil)))))) (sss_cons (ss_set (i := 7) nd (se_tup (sa_cons se_str (sa_cons (se_ixA (by exact hu5) (se_vb 0) se_int) (sa_cons (se_mv 3) (sa_cons (se_tup (sa_cons (se_tup (sa_cons se_str (sa_cons (se_ixA (by exact hu5) (se_vb 0) se_int) sa_nil))) sa_nil)) sa_nil)))))) (sss_cons (ss_set (i := 8) nd (se_tup (sa_cons se_str (sa_cons (se_ixA (by exact hu5) (se_vb 0) se_int) (sa_cons (se_mv 3) (sa_cons (se_tup (sa_cons (se_mv 7) (sa_cons (se_tup (sa_cons se_str (sa_cons se_str sa_nil))) sa_nil))) sa_nil)))))) (sss_cons (ss_set (i := 9) nd (se_tup (sa_cons se_str (sa_cons (se_ixA (by exact hu5) (se_vb 0) se_int) (sa_cons se_non (sa_cons (se_tup (sa_cons (se_tup (sa_cons se_str (sa_cons se_str sa_nil))) (sa_cons (se_tup (sa_cons se_str (sa_cons (se_mv 2) sa_nil))) (sa_cons (se_tup (sa_cons se_str (sa_cons (se_ixA (by exact hu5) (se_vb 0) se_int) sa_nil))) sa_nil)))) sa_nil)))))) (sss_one (ss_end (ss_ret (se_tup (sa_cons (se_mv 2) (sa_cons (se_tup (sa_cons (se_tup (sa_cons (se_ixA (by exact hu5) (se_vb 1) se_int) (sa_cons (se_mv 5) sa_nil))) (sa_cons (se_tup (sa_cons (se_ixA (by exact hu5) (se_vb 1) se_int) (sa_cons (se_mv 6) sa_nil))) (sa_cons (se_tup (sa_cons (se_ixA (by exact hu5) (se_vb 1) se_int) (sa_cons (se_mv 8) sa_nil))) (sa_cons (se_tup (sa_cons (se_ixA (by exact hu5) (se_vb 1) se_int) (sa_cons (se_mv 9) sa_nil))) sa_nil))))) sa_nil))))))))))))))⟩
/-- _law_cell -/
theorem e26 (k : Nat) : fs (k + 1) 26 = fnF 1 1 (m_law_cell_2 (fs k 22)) := rfl
theorem w26 {T : Top K.fr mg} {k : Nat} (hp : K.pt = false) (L : Lv P K mg base T k) : FnOk P K.w K.fr mg base (L2.CX P K.w) (k + 1) T.a26 T.d26 ["state"] (spF K (cvK K.fr) 1 (fs (k + 1) 26)) := by
  rw [e26]
  refine fn_of' ["state"] rfl rfl T.F26 sc26 fun cdv A outer s H E hr tk po => ?_
  have nd := sc26.nd
  have hu := hr.units
  have hu2 : _ + 199 < cLine := Nat.lt_of_le_of_lt (Nat.add_le_add_left (by decide : 199 ≤ 200) _) (Nat.lt_of_le_of_lt (Nat.add_le_add_right (Nat.le_add_right _ _) _) hr.un)
  have hu5 : _ + 65 < cLine := Nat.lt_of_le_of_lt (Nat.add_le_add_left (by decide : 65 ≤ 200) _) (Nat.lt_of_le_of_lt (Nat.add_le_add_right (Nat.le_add_right _ _) _) hr.un)
  unfold m_law_cell_2
  exact ⟨_, (sss_cons (ss_augI (i := 0) ip_add se_int se_int) (sss_one (ss_end (ss_ret (se_call L.h22 hr T.g22 T.F22.kp T.b22 tk (sa_cons (se_ixA (by exact hu5) (se_vb 0) se_int) (sa_cons (se_ixA (by exact hu5) (se_vb 0) se_int) sa_nil)) none)))))⟩
/-- _law_may -/
theorem e27 (k : Nat) : fs (k + 1) 27 = fnF 5 5 (m_law_may (fs k 29)) := rfl
theorem w27 {T : Top K.fr mg} {k : Nat} (hp : K.pt = false) (L : Lv P K mg base T k) : FnOk P K.w K.fr mg base (L2.CX P K.w) (k + 1) T.a27 T.d27 ["state", "keys", "place", "cell", "left"] (spF K (cvK K.fr) 5 (fs (k + 1) 27)) := by
  rw [e27]
  refine fn_of' ["state", "keys", "place", "cell", "left"] rfl rfl T.F27 sc27 fun cdv A outer s H E hr tk po => ?_
  have nd := sc27.nd
  have hu := hr.units
  have hu2 : _ + 199 < cLine := Nat.lt_of_le_of_lt (Nat.add_le_add_left (by decide : 199 ≤ 200) _) (Nat.lt_of_le_of_lt (Nat.add_le_add_right (Nat.le_add_right _ _) _) hr.un)
  have hu5 : _ + 65 < cLine := Nat.lt_of_le_of_lt (Nat.add_le_add_left (by decide : 65 ≤ 200) _) (Nat.lt_of_le_of_lt (Nat.add_le_add_right (Nat.le_add_right _ _) _) hr.un)
  unfold m_law_may
  exact ⟨_, (sss_cons (ss_if (sw_or (st_cmp ol_eqB (op_eqB (by exact hu2)) (se_vb 4) se_int) (sw_or (st_cmp ol_cmp op_gt (se_ixA (by exact hu5) (se_vb 0) se_int) se_int) (sw_one (st_cmp ol_neB (op_neB (by exact hu2)) (se_bin ol_mod op_mod (se_vb 3) se_int) se_int)))).st (sss_one (ss_end (ss_ret (se_lst sa_nil)))) sss_nil) (sss_one (ss_end (ss_ret (se_lst (sa_cons (se_tup (sa_cons (se_mv 2) (sa_cons (se_call L.h29 hr T.g29 T.F29.kp T.b29 tk (sa_cons (se_vb 0) (sa_cons (se_mv 1) (sa_cons (se_bin ol_sub op_sub (se_vb 4) se_int) sa_nil))) (some 0)) sa_nil))) sa_nil))))))⟩
/-- _law_start -/
theorem e28 (k : Nat) : fs (k + 1) 28 = fnF 5 3 (m_law_start (fs k 27) (fs k 28) (fs k 26)) := rfl
theorem w28 {T : Top K.fr mg} {k : Nat} (hp : K.pt = false) (L : Lv P K mg base T k) : FnOk P K.w K.fr mg base (L2.CX P K.w) (k + 1) T.a28 T.d28 ["state", "keys", "left"] (spF K (cvK K.fr) 3 (fs (k + 1) 28)) := by
  rw [e28]
  refine fn_of' ["state", "keys", "left", "cell", "puts"] rfl rfl T.F28 sc28 fun cdv A outer s H E hr tk po => ?_
  have nd := sc28.nd
  have hu := hr.units
  have hu2 : _ + 199 < cLine := Nat.lt_of_le_of_lt (Nat.add_le_add_left (by decide : 199 ≤ 200) _) (Nat.lt_of_le_of_lt (Nat.add_le_add_right (Nat.le_add_right _ _) _) hr.un)
  have hu5 : _ + 65 < cLine := Nat.lt_of_le_of_lt (Nat.add_le_add_left (by decide : 65 ≤ 200) _) (Nat.lt_of_le_of_lt (Nat.add_le_add_right (Nat.le_add_right _ _) _) hr.un)
  unfold m_law_start
  exact ⟨_, (sss_cons (ss_augI (i := 0) ip_add se_int se_int) (sss_cons (ss_set (i := 3) nd (se_call L.h26 hr T.g26 T.F26.kp T.b26 tk (sa_cons (se_vb 0) sa_nil) (some 0))) (sss_cons (ss_set (i := 4) nd (se_call L.h27 hr T.g27 T.F27.kp T.b27 tk (sa_cons (se_vb 0) (sa_cons (se_mv 1) (sa_cons (se_tup sa_nil) (sa_cons (se_mv 3) (sa_cons (se_mv 2) sa_nil))))) (some 0))) (sss_cons (ss_if (sw_or (st_cmp ol_eqB (op_eqB (by exact hu2)) (se_vb 2) se_int) (sw_or (st_cmp ol_cmp op_gt (se_ixA (by exact hu5) (se_vb 0) se_int) se_int) (sw_one (st_cmp ol_eqB (op_eqB (by exact hu2)) (se_bin ol_mod op_mod (se_bin ol_div op_fdiv (se_vb 3) se_int) se_int) se_int)))).st (sss_one (ss_end (ss_ret (se_tup (sa_cons (se_ixA (by exact hu5) (se_vb 1) se_int) (sa_cons (se_ct cl_tuple call_tupX T.m_tuple (sa_cons (se_vb 4) sa_nil)) sa_nil)))))) sss_nil) (sss_cons (ss_app (i := 4) (se_tup (sa_cons (se_tup (sa_cons se_int sa_nil)) (sa_cons (se_call L.h28 hr T.g28 T.F28.kp T.b28 tk (sa_cons (se_vb 0) (sa_cons (se_mv 1) (sa_cons (se_bin ol_sub op_sub (se_vb 2) se_int) sa_nil))) (some 0)) sa_nil)))) (sss_cons (ss_ext (i := 4) (se_call L.h27 hr T.g27 T.F27.kp T.b27 tk (sa_cons (se_vb 0) (sa_cons (se_mv 1) (sa_cons (se_tup (sa_cons se_int sa_nil)) (sa_cons (se_bin ol_div op_fdiv (se_vb 3) se_int) (sa_cons (se_mv 2) sa_nil))))) (some 0))) (sss_one (ss_end (ss_ret (se_tup (sa_cons (se_ixA (by exact hu5) (se_vb 1) se_int) (sa_cons (se_ct cl_tuple call_tupX T.m_tuple (sa_cons (se_vb 4) sa_nil)) sa_nil))))))))))))⟩
/-- _law_graft -/
theorem e29 (k : Nat) : fs (k + 1) 29 = fnF 5 3 (m_law_graft (fs k 27) (fs k 28) (fs k 26)) := rfl
theorem w29 {T : Top K.fr mg} {k : Nat} (hp : K.pt = false) (L : Lv P K mg base T k) : FnOk P K.w K.fr mg base (L2.CX P K.w) (k + 1) T.a29 T.d29 ["state", "keys", "left"] (spF K (cvK K.fr) 3 (fs (k + 1) 29)) := by
  rw [e29]
  refine fn_of' ["state", "keys", "left", "cell", "puts"] rfl rfl T.F29 sc29 fun cdv A outer s H E hr tk po => ?_
  have nd := sc29.nd
  have hu := hr.units
  have hu2 : _ + 199 < cLine := Nat.lt_of_le_of_lt (Nat.add_le_add_left (by decide : 199 ≤ 200) _) (Nat.lt_of_le_of_lt (Nat.add_le_add_right (Nat.le_add_right _ _) _) hr.un)
  have hu5 : _ + 65 < cLine := Nat.lt_of_le_of_lt (Nat.add_le_add_left (by decide : 65 ≤ 200) _) (Nat.lt_of_le_of_lt (Nat.add_le_add_right (Nat.le_add_right _ _) _) hr.un)
  unfold m_law_graft
  exact ⟨_, (sss_cons (ss_augI (i := 0) ip_add se_int se_int) (sss_cons (ss_set (i := 3) nd (se_call L.h26 hr T.g26 T.F26.kp T.b26 tk (sa_cons (se_vb 0) sa_nil) (some 0))) (sss_cons (ss_if (sw_and (st_cmp ol_eqB (op_eqB (by exact hu2)) (se_bin ol_mod op_mod (se_vb 3) se_int) se_int) (sw_and (st_cmp ol_cmp op_gt (se_vb 2) se_int) (sw_one (st_cmp ol_cmp op_le (se_ixA (by exact hu5) (se_vb 0) se_int) se_int)))).st (sss_one (ss_end (ss_ret (se_tup (sa_cons (se_ixA (by exact hu5) (se_vb 1) se_int) (sa_cons (se_tup (sa_cons (se_tup (sa_cons (se_tup (sa_cons se_int sa_nil)) (sa_cons (se_call L.h28 hr T.g28 T.F28.kp T.b28 tk (sa_cons (se_vb 0) (sa_cons (se_mv 1) (sa_cons (se_bin ol_sub op_sub (se_vb 2) se_int) sa_nil))) (some 0)) sa_nil))) sa_nil)) sa_nil)))))) sss_nil) (sss_cons (ss_set (i := 4) nd (se_call L.h27 hr T.g27 T.F27.kp T.b27 tk (sa_cons (se_vb 0) (sa_cons (se_mv 1) (sa_cons (se_tup sa_nil) (sa_cons (se_bin ol_div op_fdiv (se_vb 3) se_int) (sa_cons (se_mv 2) sa_nil))))) (some 0))) (sss_cons (ss_ext (i := 4) (se_call L.h27 hr T.g27 T.F27.kp T.b27 tk (sa_cons (se_vb 0) (sa_cons (se_mv 1) (sa_cons (se_tup (sa_cons se_int sa_nil)) (sa_cons (se_bin ol_div op_fdiv (se_vb 3) se_int) (sa_cons (se_mv 2) sa_nil))))) (some 0))) (sss_one (ss_end (ss_ret (se_tup (sa_cons (se_ixA (by exact hu5) (se_vb 1) se_int) (sa_cons (se_ct cl_tuple call_tupX T.m_tuple (sa_cons (se_vb 4) sa_nil)) sa_nil)))))))))))⟩
/-- _law_ways -/
theorem e30 (k : Nat) : fs (k + 1) 30 = fnL 5 3 (m_law_ways_2 (fs k 30)) := rfl
theorem w30 {T : Top K.fr mg} {k : Nat} (hp : K.pt = false) (L : Lv P K mg base T k) : FnOk P K.w K.fr mg base (L2.CX P K.w) (k + 1) T.a30 T.d30 ["plan", "way", "found"] (spF K (cvK K.fr) 3 (fs (k + 1) 30)) := by
  rw [e30]
  refine fn_ofL ["plan", "way", "found", "place", "one"] rfl rfl T.F30 sc30 fun cdv A outer s H E hr tk po => ?_
  have nd := sc30.nd
  have hu := hr.units
  have hu2 : _ + 199 < cLine := Nat.lt_of_le_of_lt (Nat.add_le_add_left (by decide : 199 ≤ 200) _) (Nat.lt_of_le_of_lt (Nat.add_le_add_right (Nat.le_add_right _ _) _) hr.un)
  have hu5 : _ + 65 < cLine := Nat.lt_of_le_of_lt (Nat.add_le_add_left (by decide : 65 ≤ 200) _) (Nat.lt_of_le_of_lt (Nat.add_le_add_right (Nat.le_add_right _ _) _) hr.un)
  unfold m_law_ways_2 m_law_ways_2_b1
  exact ⟨_, (sss_cons (ss_app (i := 2) (se_tup (sa_cons (se_mv 1) (sa_cons (se_mv 0) sa_nil)))) (sss_cons (ss_for po rfl (si_sq (se_ixA (by exact hu5) (se_vb 0) se_int)) (sg_tup rfl (sgs_cons (sg_name nd) (sgs_cons (sg_name nd) sgs_nil))) (sss_kill (vs := [3, 4]) (sss_one (ss_callD L.h30 hr T.g30 T.F30.kp T.b30 tk (sa_cons (se_mv 4) (sa_cons (se_bin ol_add op_addA (se_vb 1) (se_tup (sa_cons (se_mv 3) sa_nil))) (sa_cons (se_vb 2) sa_nil))) (some 2))))) (sss_one (ss_end (ss_retL (se_rvL 2))))))⟩
/-- _law_pairs -/
theorem e31 (k : Nat) : fs (k + 1) 31 = fnF 7 1 (m_law_pairs_2 (fs k 30)) := rfl
theorem w31 {T : Top K.fr mg} {k : Nat} (hp : K.pt = false) (L : Lv P K mg base T k) : FnOk P K.w K.fr mg base (L2.CX P K.w) (k + 1) T.a31 T.d31 ["plan"] (spF K (cvK K.fr) 1 (fs (k + 1) 31)) := by
  rw [e31]
  refine fn_of' ["plan", "found", "pairs", "way", "outer", "more", "inner"] rfl rfl T.F31 sc31 fun cdv A outer s H E hr tk po => ?_
  have nd := sc31.nd
  have hu := hr.units
  have hu2 : _ + 199 < cLine := Nat.lt_of_le_of_lt (Nat.add_le_add_left (by decide : 199 ≤ 200) _) (Nat.lt_of_le_of_lt (Nat.add_le_add_right (Nat.le_add_right _ _) _) hr.un)
  have hu5 : _ + 65 < cLine := Nat.lt_of_le_of_lt (Nat.add_le_add_left (by decide : 65 ≤ 200) _) (Nat.lt_of_le_of_lt (Nat.add_le_add_right (Nat.le_add_right _ _) _) hr.un)
  unfold m_law_pairs_2 m_law_pairs_2_b2 m_law_pairs_2_b1
  exact ⟨_, (sss_cons (ss_set (i := 1) nd (se_callE L.h30 hr T.g30 T.F30.kp T.b30 tk (saf_cons (se_mv 0) (saf_cons (se_tup sa_nil) (saf_last (se_lst sa_nil)))))) (sss_cons (ss_set (i := 2) nd (se_lst sa_nil)) (sss_cons (ss_for po rfl (si_sq (se_mv 1)) (sg_tup rfl (sgs_cons (sg_name nd) (sgs_cons (sg_name nd) sgs_nil))) (sss_kill (vs := [3, 4, 5, 6]) (sss_one (ss_for po rfl (si_sq (se_mv 1)) (sg_tup rfl (sgs_cons (sg_name nd) (sgs_cons (sg_name nd) sgs_nil))) (sss_kill (vs := [5, 6]) (sss_one (ss_if (sw_and (st_cmp ol_cmp op_gt (se_cb cl_len call_len T.m_len (sa_cons (se_vb 5) sa_nil)) (se_cb cl_len call_len T.m_len (sa_cons (se_vb 3) sa_nil))) (sw_and (st_cmp ol_eqB (op_eqB (by exact hu2)) (se_slice (se_vb 5) .non (.some (se_cb cl_len call_len T.m_len (sa_cons (se_vb 3) sa_nil)))) (se_vb 3)) (sw_one (st_cmp ol_eqB (op_eqB (by exact hu2)) (se_ixA (by exact hu5) (se_vb 6) se_int) (se_ixA (by exact hu5) (se_vb 4) se_int))))).st (sss_one (ss_app (i := 2) (se_tup (sa_cons (se_mv 3) (sa_cons (se_slice (se_vb 5) (.some (se_cb cl_len call_len T.m_len (sa_cons (se_vb 3) sa_nil))) .non) (sa_cons (se_mv 4) (sa_cons (se_mv 6) sa_nil))))))) sss_nil))))))) (sss_one (ss_end (ss_ret (se_rv 2)))))))⟩
/-- _law_with -/
theorem e32 (k : Nat) : fs (k + 1) 32 = fnF 6 3 (m_law_with (fs k 32)) := rfl
theorem w32 {T : Top K.fr mg} {k : Nat} (hp : K.pt = false) (L : Lv P K mg base T k) : FnOk P K.w K.fr mg base (L2.CX P K.w) (k + 1) T.a32 T.d32 ["plan", "way", "other"] (spF K (cvK K.fr) 3 (fs (k + 1) 32)) := by
  rw [e32]
  refine fn_of' ["plan", "way", "other", "puts", "place", "one"] rfl rfl T.F32 sc32 fun cdv A outer s H E hr tk po => ?_
  have nd := sc32.nd
  have hu := hr.units
  have hu2 : _ + 199 < cLine := Nat.lt_of_le_of_lt (Nat.add_le_add_left (by decide : 199 ≤ 200) _) (Nat.lt_of_le_of_lt (Nat.add_le_add_right (Nat.le_add_right _ _) _) hr.un)
  have hu5 : _ + 65 < cLine := Nat.lt_of_le_of_lt (Nat.add_le_add_left (by decide : 65 ≤ 200) _) (Nat.lt_of_le_of_lt (Nat.add_le_add_right (Nat.le_add_right _ _) _) hr.un)
  unfold m_law_with m_law_with_b1
  exact ⟨_, (sss_cons (ss_if (st_cmp ol_eqB (op_eqB (by exact hu2)) (se_cb cl_len call_len T.m_len (sa_cons (se_vb 1) sa_nil)) se_int) (sss_one (ss_end (ss_ret (se_rv 2)))) sss_nil) (sss_cons (ss_set (i := 3) nd (se_lst sa_nil)) (sss_cons (ss_for po rfl (si_sq (se_ixA (by exact hu5) (se_vb 0) se_int)) (sg_tup rfl (sgs_cons (sg_name nd) (sgs_cons (sg_name nd) sgs_nil))) (sss_kill (vs := [4, 5]) (sss_one (ss_if (st_cmp ol_eqB (op_eqB (by exact hu2)) (se_vb 4) (se_ixA (by exact hu5) (se_vb 1) se_int)) (sss_one (ss_app (i := 3) (se_tup (sa_cons (se_mv 4) (sa_cons (se_call L.h32 hr T.g32 T.F32.kp T.b32 tk (sa_cons (se_mv 5) (sa_cons (se_slice (se_vb 1) (.some se_int) .non) (sa_cons (se_mv 2) sa_nil))) none) sa_nil))))) (sss_one (ss_app (i := 3) (se_tup (sa_cons (se_mv 4) (sa_cons (se_mv 5) sa_nil))))))))) (sss_one (ss_end (ss_ret (se_tup (sa_cons (se_ixA (by exact hu5) (se_vb 0) se_int) (sa_cons (se_ct cl_tuple call_tupX T.m_tuple (sa_cons (se_vb 3) sa_nil)) sa_nil)))))))))⟩
/-- law -/
theorem e33 (k : Nat) : fs (k + 1) 33 = fnF 26 1 (m_law_k70_2 (fs k 14) (fs k 30) (fs k 21) (fs k 20) (fs k 2) (fs k 32) (fs k 31) (fs k 22) (fs k 28) (fs k 27) (fs k 23) (fs k 25) (fs k 24)) := rfl
theorem w33 {T : Top K.fr mg} {k : Nat} (hp : K.pt = false) (L : Lv P K mg base T k) : FnOk P K.w K.fr mg base (L2.CX P K.w) (k + 1) T.a33 T.d33 ["script"] (spF K (cvK K.fr) 1 (fs (k + 1) 33)) := by
  rw [e33]
  refine fn_of' ["script", "keys", "book", "state", "outer", "plan", "pick", "pairs", "signs", "inside", "whole", "deepest", "many", "most", "times", "way", "ring", "one", "last", "due", "turn", "found", "some", "more", "inner", "key"] rfl rfl T.F33 sc33 fun cdv A outer s H E hr tk po => ?_
  have nd := sc33.nd
  have hu := hr.units
  have hu2 : _ + 199 < cLine := Nat.lt_of_le_of_lt (Nat.add_le_add_left (by decide : 199 ≤ 200) _) (Nat.lt_of_le_of_lt (Nat.add_le_add_right (Nat.le_add_right _ _) _) hr.un)
  have hu5 : _ + 65 < cLine := Nat.lt_of_le_of_lt (Nat.add_le_add_left (by decide : 65 ≤ 200) _) (Nat.lt_of_le_of_lt (Nat.add_le_add_right (Nat.le_add_right _ _) _) hr.un)
  unfold m_law_k70_2 m_law_k70_2_ce5 m_law_k70_2_b4 m_law_k70_2_b3 m_law_k70_2_ce2 m_law_k70_2_ce1
  exact ⟨_, (sss_cons (ss_set (i := 1) nd (se_call L.h24 hr T.g24 T.F24.kp T.b24 tk (sa_cons (se_call L.h22 hr T.g22 T.F22.kp T.b22 tk (sa_cons (se_mv 0) (sa_cons se_int sa_nil)) none) (sa_cons se_int sa_nil)) none)) (sss_cons (ss_set (i := 2) nd (se_call L.h25 hr T.g25 T.F25.kp T.b25 tk (sa_cons (se_call L.h23 hr T.g23 T.F23.kp T.b23 tk (sa_cons (se_call L.h22 hr T.g22 T.F22.kp T.b22 tk (sa_cons (se_mv 0) (sa_cons se_int sa_nil)) none) sa_nil) none) (sa_cons (se_mv 1) sa_nil)) none)) (sss_cons (ss_set (i := 3) nd (se_lst (sa_cons (se_mv 0) (sa_cons se_int (sa_cons se_int sa_nil))))) (sss_cons (ss_set (i := 4) nd (se_call L.h27 hr T.g27 T.F27.kp T.b27 tk (sa_cons (se_vb 3) (sa_cons (se_mv 1) (sa_cons (se_tup sa_nil) (sa_cons (se_call L.h22 hr T.g22 T.F22.kp T.b22 tk (sa_cons (se_mv 0) (sa_cons se_int sa_nil)) none) (sa_cons se_int sa_nil))))) (some 0))) (sss_cons (ss_set (i := 5) nd (se_tup (sa_cons (se_ixA (by exact hu5) (se_vb 1) se_int) (sa_cons (se_tup (sa_cons (se_tup (sa_cons (se_tup (sa_cons se_int sa_nil)) (sa_cons (se_call L.h28 hr T.g28 T.F28.kp T.b28 tk (sa_cons (se_vb 3) (sa_cons (se_mv 1) (sa_cons se_int sa_nil))) (some 0)) sa_nil))) sa_nil)) sa_nil)))) (sss_cons (ss_set (i := 5) nd (se_tup (sa_cons (se_ixA (by exact hu5) (se_vb 1) se_int) (sa_cons (se_ct cl_tuple call_tupX T.m_tuple (sa_cons (se_bin ol_add op_addA (se_vb 4) (se_lst (sa_cons (se_tup (sa_cons (se_tup (sa_cons se_int sa_nil)) (sa_cons (se_mv 5) sa_nil))) sa_nil))) sa_nil)) sa_nil)))) (sss_cons (ss_set (i := 6) nd (se_call L.h22 hr T.g22 T.F22.kp T.b22 tk (sa_cons (se_mv 0) (sa_cons se_int sa_nil)) none)) (sss_cons (ss_set (i := 7) nd (se_call L.h31 hr T.g31 T.F31.kp T.b31 tk (sa_cons (se_mv 5) sa_nil) none)) (sss_cons (ss_unp (se_ixA (by exact hu5) (se_vb 7) (se_bin ol_mod op_mod (se_bin ol_div op_fdiv (se_vb 6) se_int) (se_cb cl_len call_len T.m_len (sa_cons (se_vb 7) sa_nil)))) (sg_tup rfl (sgs_cons (sg_name nd) (sgs_cons (sg_name nd) (sgs_cons (sg_name nd) (sgs_cons (sg_name nd) sgs_nil)))))) (sss_cons (ss_set (i := 8) nd (se_dct (sd_cons (se_ixA (by exact hu5) (se_vb 1) se_int) se_int (sd_cons (se_ixA (by exact hu5) (se_vb 1) se_int) se_int (sd_cons (se_ixA (by exact hu5) (se_vb 1) se_int) se_int (sd_cons (se_ixA (by exact hu5) (se_vb 1) se_int) se_int sd_nil)))))) (sss_cons (ss_set (i := 9) nd (se_callE L.h30 hr T.g30 T.F30.kp T.b30 tk (saf_cons (se_mv 18) (saf_cons (se_tup sa_nil) (saf_last (se_lst sa_nil)))))) (sss_cons (ss_set (i := 10) nd (se_callE L.h30 hr T.g30 T.F30.kp T.b30 tk (saf_cons (se_mv 5) (saf_cons (se_tup sa_nil) (saf_last (se_lst sa_nil)))))) (sss_cons (ss_set (i := 11) nd (se_bin ol_add op_addA se_int (se_cb cl_maxL (cr_max rfl) T.m_max (sa_cons (se_comp (own := [(("more" : Str), 23), (("inner" : Str), 24)]) rfl nd (blkOk_by (N := ["script", "keys", "book", "state", "outer", "plan", "pick", "pairs", "signs", "inside", "whole", "deepest", "many", "most", "times", "way", "ring", "one", "last", "due", "turn", "found", "some", "more", "inner", "key"]) (sc := defScope s33) (by decide +kernel)) (si_sq (se_mv 10)) (fun _ _ _ _ _ => (sgw_tup rfl (sgws_cons (sgw_name nd) (sgws_cons (sgw_name nd) sgws_nil)))) (fun _ _ _ _ _ => sp_nil) (fun _ _ _ _ _ => (se_cb cl_len call_len T.m_len (sa_cons (se_vb 23) sa_nil)))) sa_nil)))) (sss_cons (ss_set (i := 12) nd (se_bin ol_sub op_sub (se_cb cl_len call_len T.m_len (sa_cons (se_callE L.h30 hr T.g30 T.F30.kp T.b30 tk (saf_cons (se_mv 17) (saf_cons (se_tup sa_nil) (saf_last (se_lst sa_nil))))) sa_nil)) (se_cb cl_len call_len T.m_len (sa_cons (se_vb 9) sa_nil)))) (sss_cons (ss_set (i := 13) nd (se_bin ol_add op_addA se_int (se_cb cl_min2 (call_min2 rfl) T.m_min (sa_cons (se_bin ol_div op_fdiv (se_bin ol_sub op_sub se_int (se_vb 11)) (se_cb cl_len call_len T.m_len (sa_cons (se_vb 16) sa_nil))) (sa_cons (se_bin ol_div op_fdiv (se_bin ol_sub op_sub se_int (se_cb cl_len call_len T.m_len (sa_cons (se_vb 10) sa_nil))) (se_vb 12)) sa_nil))))) (sss_cons (ss_for po rfl (si_sq (se_lst (sa_cons se_int (sa_cons se_int (sa_cons (se_cb cl_min2 (call_min2 rfl) T.m_min (sa_cons (se_bin ol_add op_addA se_int (se_bin ol_mod op_mod (se_vb 6) se_int)) (sa_cons (se_bin ol_add op_addA se_int (se_bin ol_div op_fdiv se_int (se_cb cl_len call_len T.m_len (sa_cons (se_vb 16) sa_nil)))) sa_nil))) (sa_cons (se_cb cl_max2 (call_max2 rfl) T.m_max (sa_cons se_int (sa_cons (se_vb 13) sa_nil))) sa_nil)))))) (sg_name nd) (sss_kill (vs := [14, 19, 20, 21, 22]) (sss_cons (ss_set (i := 19) nd (se_mv 18)) (sss_cons (ss_for po rfl (si_r1 (se_vb 14) T.m_range) (sg_name nd) (sss_kill (vs := [20]) (sss_one (ss_set (i := 19) nd (se_call L.h32 hr T.g32 T.F32.kp T.b32 tk (sa_cons (se_mv 17) (sa_cons (se_mv 16) (sa_cons (se_mv 19) sa_nil))) none))))) (sss_cons (ss_set (i := 19) nd (se_call L.h32 hr T.g32 T.F32.kp T.b32 tk (sa_cons (se_mv 5) (sa_cons (se_mv 15) (sa_cons (se_mv 19) sa_nil))) none)) (sss_cons (ss_set (i := 21) nd (se_call L.h2 hr T.g2 T.F2.kp T.b2 tk (sa_cons (se_mv 5) (sa_cons (se_mv 15) (sa_cons (se_mv 16) (sa_cons (se_mv 14) sa_nil)))) none)) (sss_cons (ss_if (sw_or (st_not (st_val (se_isi kit_tup T.m_isinstance T.m_tuple (se_vb 21)))) (sw_one (st_cmp ol_neB (op_neB (by exact hu2)) (se_vb 21) (se_vb 19)))).st (sss_one (ss_end (ss_ret se_bl))) sss_nil) (sss_cons (ss_if (sw_or (st_cmp ol_not op_notA (se_call L.h20 hr T.g20 T.F20.kp T.b20 tk (sa_cons (se_mv 2) (sa_cons (se_mv 21) sa_nil)) none) se_bl) (sw_one (st_cmp ol_not op_notA (se_call L.h21 hr T.g21 T.F21.kp T.b21 tk (sa_cons (se_mv 2) (sa_cons (se_mv 21) sa_nil)) none) se_bl))).st (sss_one (ss_end (ss_ret se_bl))) sss_nil) (sss_cons (ss_setLc (i := 22) (own := [(("more" : Str), 23), (("inner" : Str), 24)]) rfl nd (blkOk_by (N := ["script", "keys", "book", "state", "outer", "plan", "pick", "pairs", "signs", "inside", "whole", "deepest", "many", "most", "times", "way", "ring", "one", "last", "due", "turn", "found", "some", "more", "inner", "key"]) (sc := defScope s33) (by decide +kernel)) (si_sq (se_callE L.h30 hr T.g30 T.F30.kp T.b30 tk (saf_cons (se_mv 19) (saf_cons (se_tup sa_nil) (saf_last (se_lst sa_nil)))))) (fun _ _ _ _ _ => (sgw_tup rfl (sgws_cons (sgw_name nd) (sgws_cons (sgw_name nd) sgws_nil)))) (fun _ _ _ _ _ => sp_nil) (fun _ _ _ _ _ => (se_ixA (by exact hu5) (se_vb 24) se_int)) (sw_true rfl rfl rfl (by decide +kernel))) (sss_one (ss_if (sw_and (st_cmp ol_cmp op_le (se_cb cl_len call_len T.m_len (sa_cons (se_vb 22) sa_nil)) se_int) (sw_one (st_cmp ol_neB (op_neB (by exact hu2)) (se_cb cl_len call_len T.m_len (sa_cons (se_call L.h14 hr T.g14 T.F14.kp T.b14 tk (sa_cons (se_mv 2) (sa_cons (se_mv 21) sa_nil)) none) sa_nil)) (se_cb cl_sum (cr_sum rfl) T.m_sum (sa_cons (se_comp (own := [(("key" : Str), 25)]) rfl nd (blkOk_by (N := ["script", "keys", "book", "state", "outer", "plan", "pick", "pairs", "signs", "inside", "whole", "deepest", "many", "most", "times", "way", "ring", "one", "last", "due", "turn", "found", "some", "more", "inner", "key"]) (sc := defScope s33) (by decide +kernel)) (si_sq (se_mv 22)) (fun _ _ _ _ _ => (sgw_name nd)) (fun _ _ _ _ _ => sp_nil) (fun _ _ _ _ _ => (se_ixA (by exact hu5) (se_vb 8) (se_vb 25)))) sa_nil))))).st (sss_one (ss_end (ss_ret se_bl))) sss_nil))))))))))) (sss_one (ss_end (ss_ret se_bl)))))))))))))))))))⟩
theorem xw_NoPlace {T : Top K.fr mg} : ∀ k, IniOk P K.w K.fr mg base k T.xI_NoPlace T.xd_NoPlace ["place"] (fs k 34)
  | 0 => .inl rfl
  | 1 => .inl rfl
  | k + 2 => .inr ⟨k + 1, rfl, fn_init1 T.xF_NoPlace sci_NoPlace fun cdv A outer s H E => pss_cons (ps_expr (pe_ginit T.gi T.xg_GraftError (pa_cons (pe_var (i := 0) rfl (.inl rfl)) (pa_cons pe_str pa_nil)))) (pss_one (ps_ost (pe_var (i := 0) rfl (.inl rfl)) (pe_var (i := 1) rfl (.inl rfl))))⟩
theorem lv (hp : K.pt = false) (T : Top K.fr mg) : ∀ k, Lv P K mg base T k
  | 0 => ⟨fn_zero rfl, fn_zero rfl, fn_zero rfl, fn_zero rfl, fn_zero rfl, fn_zero rfl, fn_zero rfl, fn_zero rfl, fn_zero rfl, fn_zero rfl, fn_zero rfl, fn_zero rfl, fn_zero rfl, fn_zero rfl, fn_zero rfl, fn_zero rfl, fn_zero rfl, fn_zero rfl, fn_zero rfl, fn_zero rfl, fn_zero rfl, fn_zero rfl, fn_zero rfl, fn_zero rfl, fn_zero rfl, fn_zero rfl, fn_zero rfl, fn_zero rfl, fn_zero rfl, fn_zero rfl, fn_zero rfl, fn_zero rfl, fn_zero rfl, fn_zero rfl, xw_NoPlace 0⟩
  | k + 1 => have L := lv hp T k; ⟨w0 hp L, w1 hp L, w2 hp L, w3 hp L, w4 hp L, w5 hp L, w6 hp L, w7 hp L, w8 hp L, w9 hp L, w10 hp L, w11 hp L, w12 hp L, w13 hp L, w14 hp L, w15 hp L, w16 hp L, w17 hp L, w18 hp L, w19 hp L, w20 hp L, w21 hp L, w22 hp L, w23 hp L, w24 hp L, w25 hp L, w26 hp L, w27 hp L, w28 hp L, w29 hp L, w30 hp L, w31 hp L, w32 hp L, w33 hp L, xw_NoPlace (k + 1)⟩
end
end Wk70
namespace Wk70
open PySem L2 GS GM
/-! ### the end -/
theorem top_mk {K : PySem.W.Frag} {h : Heap} {mg : Str → Option Value} {fa f0 f1 f2 f3 f4 f5 f6 f7 f8 f9 f10 f11 f12 f13 f14 f15 f16 f17 f18 f19 f20 f21 f22 f23 f24 f25 f26 f27 f28 f29 f30 f31 f32 f33 : Addr} (X : K.In h) (G : h.Ns mainGlobals mg) (hfa : mg "law" = some (.ref fa))
    {od0 an0 od1 an1 od2 an2 od3 an3 od4 an4 od5 an5 od6 an6 od7 an7 od8 an8 od9 an9 od10 an10 od11 an11 od12 an12 od13 an13 od14 an14 od15 an15 od16 an16 od17 an17 od18 an18 od19 an19 od20 an20 od21 an21 od22 an22 od23 an23 od24 an24 od25 an25 od26 an26 od27 an27 od28 an28 od29 an29 od30 an30 od31 an31 od32 an32 od33 an33 : Option Addr} {sl0 sl1 sl2 sl3 sl4 sl5 sl6 sl7 sl8 sl9 sl10 sl11 sl12 sl13 sl14 sl15 sl16 sl17 sl18 sl19 sl20 sl21 sl22 sl23 sl24 sl25 sl26 sl27 sl28 sl29 sl30 sl31 sl32 sl33 : Array (Option Value)} {oc0 kV0 dc0 pm0 cd0 ct0 oc1 kV1 dc1 pm1 cd1 ct1 oc2 kV2 dc2 pm2 cd2 ct2 oc3 kV3 dc3 pm3 cd3 ct3 oc4 kV4 dc4 pm4 cd4 ct4 oc5 kV5 dc5 pm5 cd5 ct5 oc6 kV6 dc6 pm6 cd6 ct6 oc7 kV7 dc7 pm7 cd7 ct7 oc8 kV8 dc8 pm8 cd8 ct8 oc9 kV9 dc9 pm9 cd9 ct9 oc10 kV10 dc10 pm10 cd10 ct10 oc11 kV11 dc11 pm11 cd11 ct11 oc12 kV12 dc12 pm12 cd12 ct12 oc13 kV13 dc13 pm13 cd13 ct13 oc14 kV14 dc14 pm14 cd14 ct14 oc15 kV15 dc15 pm15 cd15 ct15 oc16 kV16 dc16 pm16 cd16 ct16 oc17 kV17 dc17 pm17 cd17 ct17 oc18 kV18 dc18 pm18 cd18 ct18 oc19 kV19 dc19 pm19 cd19 ct19 oc20 kV20 dc20 pm20 cd20 ct20 oc21 kV21 dc21 pm21 cd21 ct21 oc22 kV22 dc22 pm22 cd22 ct22 oc23 kV23 dc23 pm23 cd23 ct23 oc24 kV24 dc24 pm24 cd24 ct24 oc25 kV25 dc25 pm25 cd25 ct25 oc26 kV26 dc26 pm26 cd26 ct26 oc27 kV27 dc27 pm27 cd27 ct27 oc28 kV28 dc28 pm28 cd28 ct28 oc29 kV29 dc29 pm29 cd29 ct29 oc30 kV30 dc30 pm30 cd30 ct30 oc31 kV31 dc31 pm31 cd31 ct31 oc32 kV32 dc32 pm32 cd32 ct32 oc33 kV33 dc33 pm33 cd33 ct33 : Value}
    (a0 : PySem.W.nsIn K mainGlobals "plan_at" = some (some (.ref f0))) (l0 : K.lookup f0 = some ⟨oc0, od0, .func (PySem.W.fnOf "plan_at" "plan_at" (defArgs s0) (defBody s0) (defScope s0) .none kV0 dc0 pm0 an0 cd0 ct0), sl0⟩) (c0 : PySem.W.codeIn K cd0 "plan_at" = true) (k0 : PySem.W.keepIn K (.ref f0) = true)
    (a1 : PySem.W.nsIn K mainGlobals "with_plan" = some (some (.ref f1))) (l1 : K.lookup f1 = some ⟨oc1, od1, .func (PySem.W.fnOf "with_plan" "with_plan" (defArgs s1) (defBody s1) (defScope s1) .none kV1 dc1 pm1 an1 cd1 ct1), sl1⟩) (c1 : PySem.W.codeIn K cd1 "with_plan" = true) (k1 : PySem.W.keepIn K (.ref f1) = true)
    (a2 : PySem.W.nsIn K mainGlobals "gone" = some (some (.ref f2))) (l2 : K.lookup f2 = some ⟨oc2, od2, .func (PySem.W.fnOf "gone" "gone" (defArgs s2) (defBody s2) (defScope s2) .none kV2 dc2 pm2 an2 cd2 ct2), sl2⟩) (c2 : PySem.W.codeIn K cd2 "gone" = true) (k2 : PySem.W.keepIn K (.ref f2) = true)
    (a3 : PySem.W.nsIn K mainGlobals "kids_of" = some (some (.ref f3))) (l3 : K.lookup f3 = some ⟨oc3, od3, .func (PySem.W.fnOf "kids_of" "kids_of" (defArgs s3) (defBody s3) (defScope s3) .none kV3 dc3 pm3 an3 cd3 ct3), sl3⟩) (c3 : PySem.W.codeIn K cd3 "kids_of" = true) (k3 : PySem.W.keepIn K (.ref f3) = true)
    (a4 : PySem.W.nsIn K mainGlobals "places" = some (some (.ref f4))) (l4 : K.lookup f4 = some ⟨oc4, od4, .func (PySem.W.fnOf "places" "places" (defArgs s4) (defBody s4) (defScope s4) .none kV4 dc4 pm4 an4 cd4 ct4), sl4⟩) (c4 : PySem.W.codeIn K cd4 "places" = true) (k4 : PySem.W.keepIn K (.ref f4) = true)
    (a5 : PySem.W.nsIn K mainGlobals "piece_at" = some (some (.ref f5))) (l5 : K.lookup f5 = some ⟨oc5, od5, .func (PySem.W.fnOf "piece_at" "piece_at" (defArgs s5) (defBody s5) (defScope s5) .none kV5 dc5 pm5 an5 cd5 ct5), sl5⟩) (c5 : PySem.W.codeIn K cd5 "piece_at" = true) (k5 : PySem.W.keepIn K (.ref f5) = true)
    (a6 : PySem.W.nsIn K mainGlobals "signs_of" = some (some (.ref f6))) (l6 : K.lookup f6 = some ⟨oc6, od6, .func (PySem.W.fnOf "signs_of" "signs_of" (defArgs s6) (defBody s6) (defScope s6) .none kV6 dc6 pm6 an6 cd6 ct6), sl6⟩) (c6 : PySem.W.codeIn K cd6 "signs_of" = true) (k6 : PySem.W.keepIn K (.ref f6) = true)
    (a7 : PySem.W.nsIn K mainGlobals "feet_of" = some (some (.ref f7))) (l7 : K.lookup f7 = some ⟨oc7, od7, .func (PySem.W.fnOf "feet_of" "feet_of" (defArgs s7) (defBody s7) (defScope s7) .none kV7 dc7 pm7 an7 cd7 ct7), sl7⟩) (c7 : PySem.W.codeIn K cd7 "feet_of" = true) (k7 : PySem.W.keepIn K (.ref f7) = true)
    (a8 : PySem.W.nsIn K mainGlobals "is_graft" = some (some (.ref f8))) (l8 : K.lookup f8 = some ⟨oc8, od8, .func (PySem.W.fnOf "is_graft" "is_graft" (defArgs s8) (defBody s8) (defScope s8) .none kV8 dc8 pm8 an8 cd8 ct8), sl8⟩) (c8 : PySem.W.codeIn K cd8 "is_graft" = true) (k8 : PySem.W.keepIn K (.ref f8) = true)
    (a9 : PySem.W.nsIn K mainGlobals "name_of" = some (some (.ref f9))) (l9 : K.lookup f9 = some ⟨oc9, od9, .func (PySem.W.fnOf "name_of" "name_of" (defArgs s9) (defBody s9) (defScope s9) .none kV9 dc9 pm9 an9 cd9 ct9), sl9⟩) (c9 : PySem.W.codeIn K cd9 "name_of" = true) (k9 : PySem.W.keepIn K (.ref f9) = true)
    (a10 : PySem.W.nsIn K mainGlobals "tree_of" = some (some (.ref f10))) (l10 : K.lookup f10 = some ⟨oc10, od10, .func (PySem.W.fnOf "tree_of" "tree_of" (defArgs s10) (defBody s10) (defScope s10) .none kV10 dc10 pm10 an10 cd10 ct10), sl10⟩) (c10 : PySem.W.codeIn K cd10 "tree_of" = true) (k10 : PySem.W.keepIn K (.ref f10) = true)
    (a11 : PySem.W.nsIn K mainGlobals "with_foot" = some (some (.ref f11))) (l11 : K.lookup f11 = some ⟨oc11, od11, .func (PySem.W.fnOf "with_foot" "with_foot" (defArgs s11) (defBody s11) (defScope s11) .none kV11 dc11 pm11 an11 cd11 ct11), sl11⟩) (c11 : PySem.W.codeIn K cd11 "with_foot" = true) (k11 : PySem.W.keepIn K (.ref f11) = true)
    (a12 : PySem.W.nsIn K mainGlobals "built_at" = some (some (.ref f12))) (l12 : K.lookup f12 = some ⟨oc12, od12, .func (PySem.W.fnOf "built_at" "built_at" (defArgs s12) (defBody s12) (defScope s12) .none kV12 dc12 pm12 an12 cd12 ct12), sl12⟩) (c12 : PySem.W.codeIn K cd12 "built_at" = true) (k12 : PySem.W.keepIn K (.ref f12) = true)
    (a13 : PySem.W.nsIn K mainGlobals "built" = some (some (.ref f13))) (l13 : K.lookup f13 = some ⟨oc13, od13, .func (PySem.W.fnOf "built" "built" (defArgs s13) (defBody s13) (defScope s13) .none kV13 dc13 pm13 an13 cd13 ct13), sl13⟩) (c13 : PySem.W.codeIn K cd13 "built" = true) (k13 : PySem.W.keepIn K (.ref f13) = true)
    (a14 : PySem.W.nsIn K mainGlobals "row_of" = some (some (.ref f14))) (l14 : K.lookup f14 = some ⟨oc14, od14, .func (PySem.W.fnOf "row_of" "row_of" (defArgs s14) (defBody s14) (defScope s14) .none kV14 dc14 pm14 an14 cd14 ct14), sl14⟩) (c14 : PySem.W.codeIn K cd14 "row_of" = true) (k14 : PySem.W.keepIn K (.ref f14) = true)
    (a15 : PySem.W.nsIn K mainGlobals "wanted" = some (some (.ref f15))) (l15 : K.lookup f15 = some ⟨oc15, od15, .func (PySem.W.fnOf "wanted" "wanted" (defArgs s15) (defBody s15) (defScope s15) .none kV15 dc15 pm15 an15 cd15 ct15), sl15⟩) (c15 : PySem.W.codeIn K cd15 "wanted" = true) (k15 : PySem.W.keepIn K (.ref f15) = true)
    (a16 : PySem.W.nsIn K mainGlobals "takers" = some (some (.ref f16))) (l16 : K.lookup f16 = some ⟨oc16, od16, .func (PySem.W.fnOf "takers" "takers" (defArgs s16) (defBody s16) (defScope s16) .none kV16 dc16 pm16 an16 cd16 ct16), sl16⟩) (c16 : PySem.W.codeIn K cd16 "takers" = true) (k16 : PySem.W.keepIn K (.ref f16) = true)
    (a17 : PySem.W.nsIn K mainGlobals "are_numbers" = some (some (.ref f17))) (l17 : K.lookup f17 = some ⟨oc17, od17, .func (PySem.W.fnOf "are_numbers" "are_numbers" (defArgs s17) (defBody s17) (defScope s17) .none kV17 dc17 pm17 an17 cd17 ct17), sl17⟩) (c17 : PySem.W.codeIn K cd17 "are_numbers" = true) (k17 : PySem.W.keepIn K (.ref f17) = true)
    (a18 : PySem.W.nsIn K mainGlobals "are_puts" = some (some (.ref f18))) (l18 : K.lookup f18 = some ⟨oc18, od18, .func (PySem.W.fnOf "are_puts" "are_puts" (defArgs s18) (defBody s18) (defScope s18) .none kV18 dc18 pm18 an18 cd18 ct18), sl18⟩) (c18 : PySem.W.codeIn K cd18 "are_puts" = true) (k18 : PySem.W.keepIn K (.ref f18) = true)
    (a19 : PySem.W.nsIn K mainGlobals "put_well" = some (some (.ref f19))) (l19 : K.lookup f19 = some ⟨oc19, od19, .func (PySem.W.fnOf "put_well" "put_well" (defArgs s19) (defBody s19) (defScope s19) .none kV19 dc19 pm19 an19 cd19 ct19), sl19⟩) (c19 : PySem.W.codeIn K cd19 "put_well" = true) (k19 : PySem.W.keepIn K (.ref f19) = true)
    (a20 : PySem.W.nsIn K mainGlobals "is_plan" = some (some (.ref f20))) (l20 : K.lookup f20 = some ⟨oc20, od20, .func (PySem.W.fnOf "is_plan" "is_plan" (defArgs s20) (defBody s20) (defScope s20) .none kV20 dc20 pm20 an20 cd20 ct20), sl20⟩) (c20 : PySem.W.codeIn K cd20 "is_plan" = true) (k20 : PySem.W.keepIn K (.ref f20) = true)
    (a21 : PySem.W.nsIn K mainGlobals "is_whole" = some (some (.ref f21))) (l21 : K.lookup f21 = some ⟨oc21, od21, .func (PySem.W.fnOf "is_whole" "is_whole" (defArgs s21) (defBody s21) (defScope s21) .none kV21 dc21 pm21 an21 cd21 ct21), sl21⟩) (c21 : PySem.W.codeIn K cd21 "is_whole" = true) (k21 : PySem.W.keepIn K (.ref f21) = true)
    (a22 : PySem.W.nsIn K mainGlobals "_law_cell_at" = some (some (.ref f22))) (l22 : K.lookup f22 = some ⟨oc22, od22, .func (PySem.W.fnOf "_law_cell_at" "_law_cell_at" (defArgs s22) (defBody s22) (defScope s22) .none kV22 dc22 pm22 an22 cd22 ct22), sl22⟩) (c22 : PySem.W.codeIn K cd22 "_law_cell_at" = true) (k22 : PySem.W.keepIn K (.ref f22) = true)
    (a23 : PySem.W.nsIn K mainGlobals "_law_names" = some (some (.ref f23))) (l23 : K.lookup f23 = some ⟨oc23, od23, .func (PySem.W.fnOf "_law_names" "_law_names" (defArgs s23) (defBody s23) (defScope s23) .none kV23 dc23 pm23 an23 cd23 ct23), sl23⟩) (c23 : PySem.W.codeIn K cd23 "_law_names" = true) (k23 : PySem.W.keepIn K (.ref f23) = true)
    (a24 : PySem.W.nsIn K mainGlobals "_law_keys" = some (some (.ref f24))) (l24 : K.lookup f24 = some ⟨oc24, od24, .func (PySem.W.fnOf "_law_keys" "_law_keys" (defArgs s24) (defBody s24) (defScope s24) .none kV24 dc24 pm24 an24 cd24 ct24), sl24⟩) (c24 : PySem.W.codeIn K cd24 "_law_keys" = true) (k24 : PySem.W.keepIn K (.ref f24) = true)
    (a25 : PySem.W.nsIn K mainGlobals "_law_home" = some (some (.ref f25))) (l25 : K.lookup f25 = some ⟨oc25, od25, .func (PySem.W.fnOf "_law_home" "_law_home" (defArgs s25) (defBody s25) (defScope s25) .none kV25 dc25 pm25 an25 cd25 ct25), sl25⟩) (c25 : PySem.W.codeIn K cd25 "_law_home" = true) (k25 : PySem.W.keepIn K (.ref f25) = true)
    (a26 : PySem.W.nsIn K mainGlobals "_law_cell" = some (some (.ref f26))) (l26 : K.lookup f26 = some ⟨oc26, od26, .func (PySem.W.fnOf "_law_cell" "_law_cell" (defArgs s26) (defBody s26) (defScope s26) .none kV26 dc26 pm26 an26 cd26 ct26), sl26⟩) (c26 : PySem.W.codeIn K cd26 "_law_cell" = true) (k26 : PySem.W.keepIn K (.ref f26) = true)
    (a27 : PySem.W.nsIn K mainGlobals "_law_may" = some (some (.ref f27))) (l27 : K.lookup f27 = some ⟨oc27, od27, .func (PySem.W.fnOf "_law_may" "_law_may" (defArgs s27) (defBody s27) (defScope s27) .none kV27 dc27 pm27 an27 cd27 ct27), sl27⟩) (c27 : PySem.W.codeIn K cd27 "_law_may" = true) (k27 : PySem.W.keepIn K (.ref f27) = true)
    (a28 : PySem.W.nsIn K mainGlobals "_law_start" = some (some (.ref f28))) (l28 : K.lookup f28 = some ⟨oc28, od28, .func (PySem.W.fnOf "_law_start" "_law_start" (defArgs s28) (defBody s28) (defScope s28) .none kV28 dc28 pm28 an28 cd28 ct28), sl28⟩) (c28 : PySem.W.codeIn K cd28 "_law_start" = true) (k28 : PySem.W.keepIn K (.ref f28) = true)
    (a29 : PySem.W.nsIn K mainGlobals "_law_graft" = some (some (.ref f29))) (l29 : K.lookup f29 = some ⟨oc29, od29, .func (PySem.W.fnOf "_law_graft" "_law_graft" (defArgs s29) (defBody s29) (defScope s29) .none kV29 dc29 pm29 an29 cd29 ct29), sl29⟩) (c29 : PySem.W.codeIn K cd29 "_law_graft" = true) (k29 : PySem.W.keepIn K (.ref f29) = true)
    (a30 : PySem.W.nsIn K mainGlobals "_law_ways" = some (some (.ref f30))) (l30 : K.lookup f30 = some ⟨oc30, od30, .func (PySem.W.fnOf "_law_ways" "_law_ways" (defArgs s30) (defBody s30) (defScope s30) .none kV30 dc30 pm30 an30 cd30 ct30), sl30⟩) (c30 : PySem.W.codeIn K cd30 "_law_ways" = true) (k30 : PySem.W.keepIn K (.ref f30) = true)
    (a31 : PySem.W.nsIn K mainGlobals "_law_pairs" = some (some (.ref f31))) (l31 : K.lookup f31 = some ⟨oc31, od31, .func (PySem.W.fnOf "_law_pairs" "_law_pairs" (defArgs s31) (defBody s31) (defScope s31) .none kV31 dc31 pm31 an31 cd31 ct31), sl31⟩) (c31 : PySem.W.codeIn K cd31 "_law_pairs" = true) (k31 : PySem.W.keepIn K (.ref f31) = true)
    (a32 : PySem.W.nsIn K mainGlobals "_law_with" = some (some (.ref f32))) (l32 : K.lookup f32 = some ⟨oc32, od32, .func (PySem.W.fnOf "_law_with" "_law_with" (defArgs s32) (defBody s32) (defScope s32) .none kV32 dc32 pm32 an32 cd32 ct32), sl32⟩) (c32 : PySem.W.codeIn K cd32 "_law_with" = true) (k32 : PySem.W.keepIn K (.ref f32) = true)
    (a33 : PySem.W.nsIn K mainGlobals "law" = some (some (.ref f33))) (l33 : K.lookup f33 = some ⟨oc33, od33, .func (PySem.W.fnOf "law" "law" (defArgs s33) (defBody s33) (defScope s33) .none kV33 dc33 pm33 an33 cd33 ct33), sl33⟩) (c33 : PySem.W.codeIn K cd33 "law" = true) (k33 : PySem.W.keepIn K (.ref f33) = true)
    (z_dict : PySem.W.nsIn K mainGlobals "dict" = some none)
    (z_tuple : PySem.W.nsIn K mainGlobals "tuple" = some none)
    (z_len : PySem.W.nsIn K mainGlobals "len" = some none)
    (z_range : PySem.W.nsIn K mainGlobals "range" = some none)
    (z_enumerate : PySem.W.nsIn K mainGlobals "enumerate" = some none)
    (z_isinstance : PySem.W.nsIn K mainGlobals "isinstance" = some none)
    (z_int : PySem.W.nsIn K mainGlobals "int" = some none)
    (z_bool : PySem.W.nsIn K mainGlobals "bool" = some none)
    (z_str : PySem.W.nsIn K mainGlobals "str" = some none)
    (z_max : PySem.W.nsIn K mainGlobals "max" = some none)
    (z_min : PySem.W.nsIn K mainGlobals "min" = some none)
    (z_sum : PySem.W.nsIn K mainGlobals "sum" = some none)
    {fx_GraftError : Addr} (xa_GraftError : PySem.W.nsIn K mainGlobals "GraftError" = some (some (.ref fx_GraftError)))
    {fx_NoPlace : Addr} (xa_NoPlace : PySem.W.nsIn K mainGlobals "NoPlace" = some (some (.ref fx_NoPlace)))
    (gi : giB K fx_GraftError = true)
    {fi_NoPlace : Addr} {xod_NoPlace xan_NoPlace : Option Addr} {xsl_NoPlace : Array (Option Value)} {xoc_NoPlace xkV_NoPlace xdc_NoPlace xpm_NoPlace xcd_NoPlace xct_NoPlace : Value}
    (xi_NoPlace : PySem.W.findIn K (.ref fx_NoPlace) "__init__" = some (some (.ref fi_NoPlace))) (xl_NoPlace : K.lookup fi_NoPlace = some ⟨xoc_NoPlace, xod_NoPlace, .func (PySem.W.fnOf "__init__" "NoPlace.__init__" (defArgs si_NoPlace) (defBody si_NoPlace) (defScope si_NoPlace) .none xkV_NoPlace xdc_NoPlace xpm_NoPlace xan_NoPlace xcd_NoPlace xct_NoPlace), xsl_NoPlace⟩) (xc_NoPlace : PySem.W.codeIn K xcd_NoPlace "NoPlace.__init__" = true) (xk_NoPlace : PySem.W.keepIn K (.ref fi_NoPlace) = true)
    {xn_NoPlace xq_NoPlace : Str} {xN_NoPlace : Addr} {xbs_NoPlace xbm_NoPlace : List Value} {xsn_NoPlace : List Str} {xsu_NoPlace : List Value} {xab_NoPlace : Bool} {xco_NoPlace : Option Bool} {xdd_NoPlace : Option Addr} {x0_NoPlace x1_NoPlace x2_NoPlace x3_NoPlace x5_NoPlace : Option Value}
    (xe_NoPlace : K.lookup fx_NoPlace = some (excClassObj xn_NoPlace xq_NoPlace fx_NoPlace xN_NoPlace xbs_NoPlace xbm_NoPlace true xsn_NoPlace xsu_NoPlace xab_NoPlace xco_NoPlace xdd_NoPlace x0_NoPlace x1_NoPlace x2_NoPlace x3_NoPlace x5_NoPlace "ValueError.__new__")) (xr_NoPlace : PySem.HandSPX.refsVE xbm_NoPlace = true) (xo_NoPlace : oeB K fx_NoPlace fi_NoPlace ["place"] = true) (xv_NoPlace : cvK K "NoPlace" = .ref fx_NoPlace)
    : ∃ T : Top K mg, T.a33 = fa ∧ ∀ (s : Shared) (v : Value), BindsTo s T.d33 ⟨[v], []⟩ [("script", v)] := by
  have e := hfa.symm.trans (PySem.W.mg_of X G a33)
  have e' : f33 = fa := by cases e; rfl
  have F0 := fun_mk (st := s0) l0 c0 k0
  have b0 := F0.binds (ps := ["plan", "way"]) fun _ _ _ _ _ _ us hl => match us, hl with | [_, _], _ => rfl
  have F1 := fun_mk (st := s1) l1 c1 k1
  have b1 := F1.binds (ps := ["plan", "way", "other"]) fun _ _ _ _ _ _ us hl => match us, hl with | [_, _, _], _ => rfl
  have F2 := fun_mk (st := s2) l2 c2 k2
  have b2 := F2.binds (ps := ["plan", "way", "ring", "times"]) fun _ _ _ _ _ _ us hl => match us, hl with | [_, _, _, _], _ => rfl
  have F3 := fun_mk (st := s3) l3 c3 k3
  have b3 := F3.binds (ps := ["tree"]) fun _ _ _ _ _ _ us hl => match us, hl with | [_], _ => rfl
  have F4 := fun_mk (st := s4) l4 c4 k4
  have b4 := F4.binds (ps := ["tree"]) fun _ _ _ _ _ _ us hl => match us, hl with | [_], _ => rfl
  have F5 := fun_mk (st := s5) l5 c5 k5
  have b5 := F5.binds (ps := ["tree", "place"]) fun _ _ _ _ _ _ us hl => match us, hl with | [_, _], _ => rfl
  have F6 := fun_mk (st := s6) l6 c6 k6
  have b6 := F6.binds (ps := ["tree"]) fun _ _ _ _ _ _ us hl => match us, hl with | [_], _ => rfl
  have F7 := fun_mk (st := s7) l7 c7 k7
  have b7 := F7.binds (ps := ["tree"]) fun _ _ _ _ _ _ us hl => match us, hl with | [_], _ => rfl
  have F8 := fun_mk (st := s8) l8 c8 k8
  have b8 := F8.binds (ps := ["tree"]) fun _ _ _ _ _ _ us hl => match us, hl with | [_], _ => rfl
  have F9 := fun_mk (st := s9) l9 c9 k9
  have b9 := F9.binds (ps := ["tree"]) fun _ _ _ _ _ _ us hl => match us, hl with | [_], _ => rfl
  have F10 := fun_mk (st := s10) l10 c10 k10
  have b10 := F10.binds (ps := ["book", "key"]) fun _ _ _ _ _ _ us hl => match us, hl with | [_, _], _ => rfl
  have F11 := fun_mk (st := s11) l11 c11 k11
  have b11 := F11.binds (ps := ["tree", "other"]) fun _ _ _ _ _ _ us hl => match us, hl with | [_, _], _ => rfl
  have F12 := fun_mk (st := s12) l12 c12 k12
  have b12 := F12.binds (ps := ["book", "tree", "place", "puts"]) fun _ _ _ _ _ _ us hl => match us, hl with | [_, _, _, _], _ => rfl
  have F13 := fun_mk (st := s13) l13 c13 k13
  have b13 := F13.binds (ps := ["book", "plan"]) fun _ _ _ _ _ _ us hl => match us, hl with | [_, _], _ => rfl
  have F14 := fun_mk (st := s14) l14 c14 k14
  have b14 := F14.binds (ps := ["book", "plan"]) fun _ _ _ _ _ _ us hl => match us, hl with | [_, _], _ => rfl
  have F15 := fun_mk (st := s15) l15 c15 k15
  have b15 := F15.binds (ps := ["piece"]) fun _ _ _ _ _ _ us hl => match us, hl with | [_], _ => rfl
  have F16 := fun_mk (st := s16) l16 c16 k16
  have b16 := F16.binds (ps := ["book", "piece"]) fun _ _ _ _ _ _ us hl => match us, hl with | [_, _], _ => rfl
  have F17 := fun_mk (st := s17) l17 c17 k17
  have b17 := F17.binds (ps := ["thing"]) fun _ _ _ _ _ _ us hl => match us, hl with | [_], _ => rfl
  have F18 := fun_mk (st := s18) l18 c18 k18
  have b18 := F18.binds (ps := ["thing"]) fun _ _ _ _ _ _ us hl => match us, hl with | [_], _ => rfl
  have F19 := fun_mk (st := s19) l19 c19 k19
  have b19 := F19.binds (ps := ["book", "tree", "puts"]) fun _ _ _ _ _ _ us hl => match us, hl with | [_, _, _], _ => rfl
  have F20 := fun_mk (st := s20) l20 c20 k20
  have b20 := F20.binds (ps := ["book", "thing"]) fun _ _ _ _ _ _ us hl => match us, hl with | [_, _], _ => rfl
  have F21 := fun_mk (st := s21) l21 c21 k21
  have b21 := F21.binds (ps := ["book", "plan"]) fun _ _ _ _ _ _ us hl => match us, hl with | [_, _], _ => rfl
  have F22 := fun_mk (st := s22) l22 c22 k22
  have b22 := F22.binds (ps := ["script", "k"]) fun _ _ _ _ _ _ us hl => match us, hl with | [_, _], _ => rfl
  have F23 := fun_mk (st := s23) l23 c23 k23
  have b23 := F23.binds (ps := ["cell"]) fun _ _ _ _ _ _ us hl => match us, hl with | [_], _ => rfl
  have F24 := fun_mk (st := s24) l24 c24 k24
  have b24 := F24.binds (ps := ["cell", "many"]) fun _ _ _ _ _ _ us hl => match us, hl with | [_, _], _ => rfl
  have F25 := fun_mk (st := s25) l25 c25 k25
  have b25 := F25.binds (ps := ["names", "keys"]) fun _ _ _ _ _ _ us hl => match us, hl with | [_, _], _ => rfl
  have F26 := fun_mk (st := s26) l26 c26 k26
  have b26 := F26.binds (ps := ["state"]) fun _ _ _ _ _ _ us hl => match us, hl with | [_], _ => rfl
  have F27 := fun_mk (st := s27) l27 c27 k27
  have b27 := F27.binds (ps := ["state", "keys", "place", "cell", "left"]) fun _ _ _ _ _ _ us hl => match us, hl with | [_, _, _, _, _], _ => rfl
  have F28 := fun_mk (st := s28) l28 c28 k28
  have b28 := F28.binds (ps := ["state", "keys", "left"]) fun _ _ _ _ _ _ us hl => match us, hl with | [_, _, _], _ => rfl
  have F29 := fun_mk (st := s29) l29 c29 k29
  have b29 := F29.binds (ps := ["state", "keys", "left"]) fun _ _ _ _ _ _ us hl => match us, hl with | [_, _, _], _ => rfl
  have F30 := fun_mk (st := s30) l30 c30 k30
  have b30 := F30.binds (ps := ["plan", "way", "found"]) fun _ _ _ _ _ _ us hl => match us, hl with | [_, _, _], _ => rfl
  have F31 := fun_mk (st := s31) l31 c31 k31
  have b31 := F31.binds (ps := ["plan"]) fun _ _ _ _ _ _ us hl => match us, hl with | [_], _ => rfl
  have F32 := fun_mk (st := s32) l32 c32 k32
  have b32 := F32.binds (ps := ["plan", "way", "other"]) fun _ _ _ _ _ _ us hl => match us, hl with | [_, _, _], _ => rfl
  have F33 := fun_mk (st := s33) l33 c33 k33
  have b33 := F33.binds (ps := ["script"]) fun _ _ _ _ _ _ us hl => match us, hl with | [_], _ => rfl
  have xF_NoPlace := fun_mk (st := si_NoPlace) xl_NoPlace xc_NoPlace xk_NoPlace
  have xb_NoPlace := xF_NoPlace.binds (ps := ["self", "place"]) fun _ _ _ _ _ _ us hl => match us, hl with | [_, _], _ => rfl
  obtain ⟨xs1_NoPlace, xs2_NoPlace, xs3_NoPlace, xs4_NoPlace, _⟩ := oeB_ok xo_NoPlace
  exact ⟨{ a0 := f0, d0 := _, F0 := F0, b0 := b0, g0 := PySem.W.mg_of X G a0, a1 := f1, d1 := _, F1 := F1, b1 := b1, g1 := PySem.W.mg_of X G a1, a2 := f2, d2 := _, F2 := F2, b2 := b2, g2 := PySem.W.mg_of X G a2, a3 := f3, d3 := _, F3 := F3, b3 := b3, g3 := PySem.W.mg_of X G a3, a4 := f4, d4 := _, F4 := F4, b4 := b4, g4 := PySem.W.mg_of X G a4, a5 := f5, d5 := _, F5 := F5, b5 := b5, g5 := PySem.W.mg_of X G a5, a6 := f6, d6 := _, F6 := F6, b6 := b6, g6 := PySem.W.mg_of X G a6, a7 := f7, d7 := _, F7 := F7, b7 := b7, g7 := PySem.W.mg_of X G a7, a8 := f8, d8 := _, F8 := F8, b8 := b8, g8 := PySem.W.mg_of X G a8, a9 := f9, d9 := _, F9 := F9, b9 := b9, g9 := PySem.W.mg_of X G a9, a10 := f10, d10 := _, F10 := F10, b10 := b10, g10 := PySem.W.mg_of X G a10, a11 := f11, d11 := _, F11 := F11, b11 := b11, g11 := PySem.W.mg_of X G a11, a12 := f12, d12 := _, F12 := F12, b12 := b12, g12 := PySem.W.mg_of X G a12, a13 := f13, d13 := _, F13 := F13, b13 := b13, g13 := PySem.W.mg_of X G a13, a14 := f14, d14 := _, F14 := F14, b14 := b14, g14 := PySem.W.mg_of X G a14, a15 := f15, d15 := _, F15 := F15, b15 := b15, g15 := PySem.W.mg_of X G a15, a16 := f16, d16 := _, F16 := F16, b16 := b16, g16 := PySem.W.mg_of X G a16, a17 := f17, d17 := _, F17 := F17, b17 := b17, g17 := PySem.W.mg_of X G a17, a18 := f18, d18 := _, F18 := F18, b18 := b18, g18 := PySem.W.mg_of X G a18, a19 := f19, d19 := _, F19 := F19, b19 := b19, g19 := PySem.W.mg_of X G a19, a20 := f20, d20 := _, F20 := F20, b20 := b20, g20 := PySem.W.mg_of X G a20, a21 := f21, d21 := _, F21 := F21, b21 := b21, g21 := PySem.W.mg_of X G a21, a22 := f22, d22 := _, F22 := F22, b22 := b22, g22 := PySem.W.mg_of X G a22, a23 := f23, d23 := _, F23 := F23, b23 := b23, g23 := PySem.W.mg_of X G a23, a24 := f24, d24 := _, F24 := F24, b24 := b24, g24 := PySem.W.mg_of X G a24, a25 := f25, d25 := _, F25 := F25, b25 := b25, g25 := PySem.W.mg_of X G a25, a26 := f26, d26 := _, F26 := F26, b26 := b26, g26 := PySem.W.mg_of X G a26, a27 := f27, d27 := _, F27 := F27, b27 := b27, g27 := PySem.W.mg_of X G a27, a28 := f28, d28 := _, F28 := F28, b28 := b28, g28 := PySem.W.mg_of X G a28, a29 := f29, d29 := _, F29 := F29, b29 := b29, g29 := PySem.W.mg_of X G a29, a30 := f30, d30 := _, F30 := F30, b30 := b30, g30 := PySem.W.mg_of X G a30, a31 := f31, d31 := _, F31 := F31, b31 := b31, g31 := PySem.W.mg_of X G a31, a32 := f32, d32 := _, F32 := F32, b32 := b32, g32 := PySem.W.mg_of X G a32, a33 := f33, d33 := _, F33 := F33, b33 := b33, g33 := PySem.W.mg_of X G a33, m_dict := PySem.W.mg_none_of X G z_dict, m_tuple := PySem.W.mg_none_of X G z_tuple, m_len := PySem.W.mg_none_of X G z_len, m_range := PySem.W.mg_none_of X G z_range, m_enumerate := PySem.W.mg_none_of X G z_enumerate, m_isinstance := PySem.W.mg_none_of X G z_isinstance, m_int := PySem.W.mg_none_of X G z_int, m_bool := PySem.W.mg_none_of X G z_bool, m_str := PySem.W.mg_none_of X G z_str, m_max := PySem.W.mg_none_of X G z_max, m_min := PySem.W.mg_none_of X G z_min, m_sum := PySem.W.mg_none_of X G z_sum, xA_GraftError := fx_GraftError, xg_GraftError := PySem.W.mg_of X G xa_GraftError, xA_NoPlace := fx_NoPlace, xg_NoPlace := PySem.W.mg_of X G xa_NoPlace, gi := gi, xI_NoPlace := fi_NoPlace, xd_NoPlace := _, xF_NoPlace := xF_NoPlace, xb_NoPlace := xb_NoPlace, xo_NoPlace := xo_NoPlace, xv_NoPlace := xv_NoPlace, xT_NoPlace := ⟨⟨_, _, _, _, _, _, _, _, _, _, _, _, _, _, _, xe_NoPlace, xr_NoPlace⟩, xs1_NoPlace, xs2_NoPlace, xs3_NoPlace, xs4_NoPlace⟩ }, e', fun s v => .of_eq rfl⟩
end Wk70
open PySem PySem.W PyProof.Rows
set_option maxRecDepth 100000 in
set_option maxHeartbeats 0 in
theorem PySem.Challenge.cw_graftsay_k70_rounds_gone_holds : PySem.Challenge.rw_graftsay_k70_rounds_gone.Holds := by
  w_on; o_law; k_head; (case hw => w_witness2)
  k_fill
  refine L2.walk_of (l := PySem.Challenge.rw_graftsay_k70_rounds_gone) (n := 63) (k := 200) (x := "script") (CX := fun w => L2.CX PySem.Challenge.rw_graftsay_k70_rounds_gone.prog w) (sp := fun w => GS.spFv { fr := _, w := w } 1 (Wk70.fs 200 33)) rfl (by decide) rfl ⟨rfl, by decide, by decide⟩ (fun w h Y => PySem.W.kIn_of Y) ?F (fun _ _ a ns hl _ hS => (Wk70.law_true ns hl).elim fun outs e => GS.law_sp hS e) (fun _ _ _ _ _ h => by obtain ⟨_, _, _, _, _, _, _, _, _, _, _, _, z⟩ := h; exact z)
  case F =>
    intro w mg fa h KX G hmg
    refine' (Wk70.top_mk KX G hmg ?a0 ?l0 ?c0 ?k0 ?a1 ?l1 ?c1 ?k1 ?a2 ?l2 ?c2 ?k2 ?a3 ?l3 ?c3 ?k3 ?a4 ?l4 ?c4 ?k4 ?a5 ?l5 ?c5 ?k5 ?a6 ?l6 ?c6 ?k6 ?a7 ?l7 ?c7 ?k7 ?a8 ?l8 ?c8 ?k8 ?a9 ?l9 ?c9 ?k9 ?a10 ?l10 ?c10 ?k10 ?a11 ?l11 ?c11 ?k11 ?a12 ?l12 ?c12 ?k12 ?a13 ?l13 ?c13 ?k13 ?a14 ?l14 ?c14 ?k14 ?a15 ?l15 ?c15 ?k15 ?a16 ?l16 ?c16 ?k16 ?a17 ?l17 ?c17 ?k17 ?a18 ?l18 ?c18 ?k18 ?a19 ?l19 ?c19 ?k19 ?a20 ?l20 ?c20 ?k20 ?a21 ?l21 ?c21 ?k21 ?a22 ?l22 ?c22 ?k22 ?a23 ?l23 ?c23 ?k23 ?a24 ?l24 ?c24 ?k24 ?a25 ?l25 ?c25 ?k25 ?a26 ?l26 ?c26 ?k26 ?a27 ?l27 ?c27 ?k27 ?a28 ?l28 ?c28 ?k28 ?a29 ?l29 ?c29 ?k29 ?a30 ?l30 ?c30 ?k30 ?a31 ?l31 ?c31 ?k31 ?a32 ?l32 ?c32 ?k32 ?a33 ?l33 ?c33 ?k33 ?z_dict ?z_tuple ?z_len ?z_range ?z_enumerate ?z_isinstance ?z_int ?z_bool ?z_str ?z_max ?z_min ?z_sum ?xa_GraftError ?xa_NoPlace ?gi ?xi_NoPlace ?xl_NoPlace ?xc_NoPlace ?xk_NoPlace ?xe_NoPlace ?xr_NoPlace ?xo_NoPlace ?xv_NoPlace).elim fun T R => ?fin
    (case a0 => k_is)
    (case l0 => k_is)
    (case c0 => k_is)
    (case k0 => k_is)
    (case a1 => k_is)
    (case l1 => k_is)
    (case c1 => k_is)
    (case k1 => k_is)
    (case a2 => k_is)
    (case l2 => k_is)
    (case c2 => k_is)
    (case k2 => k_is)
    (case a3 => k_is)
    (case l3 => k_is)
    (case c3 => k_is)
    (case k3 => k_is)
    (case a4 => k_is)
    (case l4 => k_is)
    (case c4 => k_is)
    (case k4 => k_is)
    (case a5 => k_is)
    (case l5 => k_is)
    (case c5 => k_is)
    (case k5 => k_is)
    (case a6 => k_is)
    (case l6 => k_is)
    (case c6 => k_is)
    (case k6 => k_is)
    (case a7 => k_is)
    (case l7 => k_is)
    (case c7 => k_is)
    (case k7 => k_is)
    (case a8 => k_is)
    (case l8 => k_is)
    (case c8 => k_is)
    (case k8 => k_is)
    (case a9 => k_is)
    (case l9 => k_is)
    (case c9 => k_is)
    (case k9 => k_is)
    (case a10 => k_is)
    (case l10 => k_is)
    (case c10 => k_is)
    (case k10 => k_is)
    (case a11 => k_is)
    (case l11 => k_is)
    (case c11 => k_is)
    (case k11 => k_is)
    (case a12 => k_is)
    (case l12 => k_is)
    (case c12 => k_is)
    (case k12 => k_is)
    (case a13 => k_is)
    (case l13 => k_is)
    (case c13 => k_is)
    (case k13 => k_is)
    (case a14 => k_is)
    (case l14 => k_is)
    (case c14 => k_is)
    (case k14 => k_is)
    (case a15 => k_is)
    (case l15 => k_is)
    (case c15 => k_is)
    (case k15 => k_is)
    (case a16 => k_is)
    (case l16 => k_is)
    (case c16 => k_is)
    (case k16 => k_is)
    (case a17 => k_is)
    (case l17 => k_is)
    (case c17 => k_is)
    (case k17 => k_is)
    (case a18 => k_is)
    (case l18 => k_is)
    (case c18 => k_is)
    (case k18 => k_is)
    (case a19 => k_is)
    (case l19 => k_is)
    (case c19 => k_is)
    (case k19 => k_is)
    (case a20 => k_is)
    (case l20 => k_is)
    (case c20 => k_is)
    (case k20 => k_is)
    (case a21 => k_is)
    (case l21 => k_is)
    (case c21 => k_is)
    (case k21 => k_is)
    (case a22 => k_is)
    (case l22 => k_is)
    (case c22 => k_is)
    (case k22 => k_is)
    (case a23 => k_is)
    (case l23 => k_is)
    (case c23 => k_is)
    (case k23 => k_is)
    (case a24 => k_is)
    (case l24 => k_is)
    (case c24 => k_is)
    (case k24 => k_is)
    (case a25 => k_is)
    (case l25 => k_is)
    (case c25 => k_is)
    (case k25 => k_is)
    (case a26 => k_is)
    (case l26 => k_is)
    (case c26 => k_is)
    (case k26 => k_is)
    (case a27 => k_is)
    (case l27 => k_is)
    (case c27 => k_is)
    (case k27 => k_is)
    (case a28 => k_is)
    (case l28 => k_is)
    (case c28 => k_is)
    (case k28 => k_is)
    (case a29 => k_is)
    (case l29 => k_is)
    (case c29 => k_is)
    (case k29 => k_is)
    (case a30 => k_is)
    (case l30 => k_is)
    (case c30 => k_is)
    (case k30 => k_is)
    (case a31 => k_is)
    (case l31 => k_is)
    (case c31 => k_is)
    (case k31 => k_is)
    (case a32 => k_is)
    (case l32 => k_is)
    (case c32 => k_is)
    (case k32 => k_is)
    (case a33 => k_is)
    (case l33 => k_is)
    (case c33 => k_is)
    (case k33 => k_is)
    (case z_dict => k_is)
    (case z_tuple => k_is)
    (case z_len => k_is)
    (case z_range => k_is)
    (case z_enumerate => k_is)
    (case z_isinstance => k_is)
    (case z_int => k_is)
    (case z_bool => k_is)
    (case z_str => k_is)
    (case z_max => k_is)
    (case z_min => k_is)
    (case z_sum => k_is)
    (case xa_GraftError => k_is)
    (case xa_NoPlace => k_is)
    (case gi => kernel_rfl)
    (case xi_NoPlace => k_is)
    (case xl_NoPlace => k_is)
    (case xc_NoPlace => k_is)
    (case xk_NoPlace => k_is)
    (case xe_NoPlace => k_is)
    (case xr_NoPlace => kernel_rfl)
    (case xo_NoPlace => kernel_rfl)
    (case xv_NoPlace => kernel_rfl)
    case fin =>
      obtain ⟨e, hb⟩ := R
      subst e
      exact ⟨T.d33, hb, fun base _ _ => (Wk70.lv (P := PySem.Challenge.rw_graftsay_k70_rounds_gone.prog) (K := { fr := _, w := w }) (base := base) rfl T 200).h33⟩
