import PyProof.Rows.All
import Wide.All
import OpenK.AllK
import Wide.FinOn
import HandS.ForMost
import HandS.TupAny
import HandS.TupMul
import HandS.Lambda
import KE.KeyNested
import KE.KDictKeyed
import KE.KNest
import HandS.Flow
import HandS.NoneIn
import PyProof.ReprLen
import PyProof.StrLawsRepr
import HandS.Conv
import HandS.IsInst
import HandS.Zip0
import HandS.Zip
import HandS.Style
import HandS.SortInts
import HandS.RaiseMore
import HandS.Dict
import HandS.More
import KE.SortData
import KE.KItemsList
import HandS.ListItems
import HandS.SortRule
import HandS.DictTup
import KE.KDictPairs
import HandS.CallLocal
import HandS.StrMore
import HandS.Wide
import HandS.WideMore
import PyProof.StrOps2
import KE.GoesMore
import KE.GoesEnum
import HandS.Iter
import KE.GoesZip
import HandS.SetKeys
import KE.GoesEnumKw
import KE.DataEq
import HandS.SetFor
import HandS.TupSets
import PyProof.TupleOfSeq
import HandS.Text
import KE.SortKeyHeap
import HandS.SortKw
import KE.DataMinMax
import PyProof.ListMulAny
import HandS.Finally
import KE.KTupSum
import KE.DataFind
import HandS.MapObj
import KE.KDictZip
import KE.KTurns
import PyProof.AutoSeq1
import KE.KIndexOf
import HandS.DictComp
import PyProof.Rows.IntBool
import PyProof.ListRange
import HandS.Defaults
import HandS.Exc
import PySem.Challenge.RW_wishlane_k26_first_situations
set_option Elab.async false
set_option linter.all false
set_option maxHeartbeats 4000000
set_option maxRecDepth 100000
namespace TL
open PySem PySem.Spec PyProof.Rows L2
def PTu (o : Obj) : Prop := o.cls = .type "tuple" ∧ o.dict = none
abbrev newT (H : Hp) (p : Addr) (o : Obj) (xs : List V) : Hp := upd H p (.frz o (.tup xs))
section
variable {X : Cx} {pins : List (Addr × Obj)} {σ : L2.St} {H : Hp} {s : Shared}
theorem Inv.laidT {h' : Heap} {p : Addr} {t' : Nat} {xs : List V} {us : List Value} (I : L2.Inv X pins σ H s) (k : ∀ b u, s.heap.get? b = some u → h'.get? b = some u) (hp : s.heap.objs.size ≤ p) (hz : xs.length ≤ sizeLine) (r : Vals xs us)
    (e : h'.get? p = some { cls := .type "tuple", data := .seq us.toArray }) : ∃ o, PTu o ∧ L2.Inv X pins σ (newT H p o xs) { s with heap := h', toks := t' } :=
  ⟨_, ⟨rfl, rfl⟩, I.laid (t' := t') k hp (show ObjOk X.prog X.w _ _ _ (.frz _ (.tup xs)) from ⟨e, hz, us, r, _, e, rfl, _, rfl⟩)⟩
def tTupT (t : TA) : TE := fun σ H Q => t σ H fun xs H1 => xs.length ≤ sizeLine ∧ ∀ p o, H1 p = none → PTu o → Q (.ref p) (newT H1 p o xs)
theorem pe_tupT {es : List Expr} {t : TA} {x1 : Nat} {pos : Pos} (ha : PA X es t) : PE X (.Tuple es x1 pos) (tTupT t) := by
  refine ⟨fun pins s σ H Q I hq => ?_⟩
  refine wpAny_Tuple_spliced (thn (ha.run pos pins s σ H _ I hq) fun us s1 ⟨vs, H1, I1, rv, hz, k⟩ => ⟨by have := rv.length; omega, ?_⟩)
  obtain ⟨o, po, J⟩ := Inv.laidT (t' := s1.toks) I1 (h' := s1.heap.push _) (fun b u e => Heap.get?_push_of_some _ e) (Nat.le_refl _) hz rv (Heap.get?_push_size _ rfl)
  exact ⟨.ref s1.heap.objs.size, _, J, rfl, k _ o (I1.hok.fresh (Nat.le_refl _)) po⟩
theorem call_tupleN : CallR X (.type "tuple") (fun xs H Q => ∃ p ys, xs = [.ref p] ∧ ((SqL X.K H p ys ∧ ∀ l o, H l = none → PTu o → Q (.ref l) (newT H l o ys)) ∨ (SqT X.K H p ys ∧ Q (.ref p) H))) := by
  intro pins s σ H xs us Q I r h
  obtain ⟨p, ys, rfl, h⟩ := h
  obtain ⟨u, rfl, rx⟩ := vals1 r
  cases rx
  rcases h with ⟨hq, q⟩ | ⟨hq, q⟩
  · obtain ⟨its, rv, pl, hz⟩ := I.list hq
    refine call_tuple_list pl.isList (fun h' kp => ?_) (by have := rv.length; simp only [List.size_toArray]; omega)
    have I1 : L2.Inv X pins σ H { s with heap := h' } := I.kept (t' := s.toks) kp
    obtain ⟨o, po, J⟩ := Inv.laidT (t' := s.toks) I1 (h' := h'.push _) (fun b u e => Heap.get?_push_of_some _ e) (Nat.le_refl _) hz rv (Heap.get?_push_size _ rfl)
    exact ⟨.ref h'.objs.size, _, J, rfl, q _ o (I1.hok.fresh (Nat.le_refl _)) po⟩
  · obtain ⟨its, _, pl, _⟩ := I.tuple hq
    exact call_tuple_same pl ⟨.ref p, H, I, rfl, q⟩
def rCatN (K : PySem.W.Frag) : R2 := fun x y H Q => ∃ a b xs ys, x = .ref a ∧ y = .ref b ∧ SqT K H a xs ∧ SqT K H b ys ∧ xs.length + ys.length ≤ sizeLine ∧
  (xs = [] → Q (.ref b) H) ∧ (xs ≠ [] → ys = [] → Q (.ref a) H) ∧ (xs ≠ [] → ys ≠ [] → ∀ p o, H p = none → PTu o → Q (.ref p) (newT H p o (xs ++ ys)))
theorem op_catN : OpR X (binaryOp .Add) (rCatN X.K) := by
  intro pins s σ H x y v u Q I rx ry h
  obtain ⟨a, b, xs, ys, rfl, rfl, ha, hb, hz, q0, q1, q2⟩ := h
  cases rx
  cases ry
  obtain ⟨us, r1, p1, _⟩ := I.tuple ha
  obtain ⟨ws, r2, p2, _⟩ := I.tuple hb
  by_cases hx : xs = []
  · subst hx
    cases r1
    exact cat_tup0 p1 p2 ⟨.ref b, H, I, rfl, q0 rfl⟩
  · refine HT.cat_tup p1 p2 (fun z => hx (r1.nil_iff.mp z)) (fun z => ⟨.ref a, H, I, rfl, q1 hx (r2.nil_iff.mp z)⟩) (fun z => ?_) (by have := r1.length; have := r2.length; omega)
    obtain ⟨o, po, J⟩ := Inv.laidT (t' := s.toks) I (h' := s.heap.push _) (xs := xs ++ ys) (fun b u e => Heap.get?_push_of_some _ e) (Nat.le_refl _) (by rw [List.length_append]; exact hz) (r1.append r2) (Heap.get?_push_size _ rfl)
    exact ⟨.ref s.heap.objs.size, _, J, rfl, q2 hx (fun w => z (r2.nil_iff.mpr w)) _ o (I.hok.fresh (Nat.le_refl _)) po⟩
def rSlN (K : PySem.W.Frag) : V → Option Int → Option Int → Hp → VK → Prop := fun x lo hi H Q => ∃ a xs, x = .ref a ∧ SqT K H a xs ∧
  (HT.sIx xs.length 0 lo = 0 ∧ HT.sIx xs.length xs.length hi = xs.length → Q (.ref a) H) ∧ (¬ (HT.sIx xs.length 0 lo = 0 ∧ HT.sIx xs.length xs.length hi = xs.length) → ∀ p o, H p = none → PTu o → Q (.ref p) (newT H p o (cutV xs lo hi)))
theorem sl_tupN : SlR X (rSlN X.K) := by
  intro pins s σ H x v vl vu lo hi sl Q I rx hs pl pu h
  obtain ⟨a, xs, rfl, hx, q1, q2⟩ := h
  cases rx
  obtain ⟨us, r, ht, hz⟩ := I.tuple hx
  have hlen : us.toArray.size = xs.length := by have := r.length; simp only [List.size_toArray]; omega
  refine ⟨"tuple", _, PyProof.Rows.slot_tuple_getitem.lookup, ht.typeIs, ?_⟩
  by_cases hw : HT.sIx xs.length 0 lo = 0 ∧ HT.sIx xs.length xs.length hi = xs.length
  · exact getItem_tuple_whole ht hs pl pu (by rw [hlen]; exact hw) ⟨.ref a, H, I, rfl, q1 hw⟩
  · refine HT.getItem_tuple_cut ht hs pl pu (by rw [hlen]; exact hw) ?_ (by rw [hlen]; exact hz)
    rw [hlen]
    have hc := (r.drop (HT.sIx xs.length 0 lo)).take (HT.sIx xs.length xs.length hi - HT.sIx xs.length 0 lo)
    obtain ⟨o, po, J⟩ := Inv.laidT (t' := s.toks) I (h' := s.heap.push _) (xs := cutV xs lo hi) (fun b u e => Heap.get?_push_of_some _ e) (Nat.le_refl _) (Nat.le_trans (cutV_length xs lo hi) hz) hc (Heap.get?_push_size _ rfl)
    exact ⟨.ref s.heap.objs.size, _, J, rfl, q2 hw _ o (I.hok.fresh (Nat.le_refl _)) po⟩
theorem call_divmodN : CallR X (.builtin "divmod") (fun xs H Q => ∃ i j, xs = [.int i, .int j] ∧ CDiv i j ∧ ∀ p o, H p = none → PTu o → Q (.ref p) (newT H p o [.int (i / j), .int (i % j)])) := by
  intro pins s σ H xs us Q I r h
  obtain ⟨i, j, rfl, ⟨h1, h2⟩, q⟩ := h
  obtain ⟨u, w', rfl, ⟨t, rfl⟩, ⟨t', rfl⟩⟩ := vals2 r
  refine divmod_int (by omega) ?_ (.inl (PyProof.noPylong_small (by omega)))
  rw [Int.fdiv_eq_ediv_of_nonneg i (by omega), Int.fmod_eq_emod_of_nonneg i (by omega)]
  have rv : Vals [V.int (i / j), V.int (i % j)] [Value.int (i / j) s.toks, Value.int (i % j) (s.toks + 1)] := .cons ⟨_, rfl⟩ (.cons ⟨_, rfl⟩ .nil)
  have hz : [V.int (i / j), V.int (i % j)].length ≤ sizeLine := by simp only [List.length_cons, List.length_nil]; rw [sizeLine_eq]; decide
  refine ⟨.ref s.heap.objs.size, newT H s.heap.objs.size { cls := .type "tuple", data := .seq ([Value.int (i / j) s.toks, Value.int (i % j) (s.toks + 1)] : List Value).toArray } [.int (i / j), .int (i % j)], ?_, rfl, q _ _ (I.hok.fresh (Nat.le_refl _)) ⟨rfl, rfl⟩⟩
  exact I.laid (fun b u e => Heap.get?_push_of_some _ e) (Nat.le_refl _) ⟨Heap.get?_push_size _ rfl, hz, _, rv, _, Heap.get?_push_size _ rfl, rfl, _, rfl⟩
end
end TL
namespace TL
open PySem PySem.Spec PyProof.Rows L2
inductive D where
  | non | bl (b : Bool) | int (i : Int) | str (s : Str)
  | lst (xs : List D) | tup (xs : List D) | dic (ks vs : List D)
  | fn (x : Str)
  | lse (xs : List D)
  | own (a : Addr) (xs : List D)
  | box (d : D)
  | ldc (ks vs : List D)
  | al (a : Addr)
  | ins (C : Str) (ns : List Str) (vs : List D)
  | dkt (ks vs : List D)
  deriving Inhabited
def cl1 : D → D
  | .own _ xs => .lst xs
  | d => d
def opnD : D → D
  | .tup ds => .tup (ds.map cl1)
  | .lst ds => .lst (ds.map cl1)
  | .dic ks ds => .dic ks (ds.map cl1)
  | .ins C ns ds => .ins C ns (ds.map cl1)
  | d => d
structure Val where
  own : Bool
  d : D
abbrev fz (d : D) : Val := ⟨false, d⟩
abbrev EnvD := List (Option Val)
def keyD : Key → D
  | .inl i => .int i
  | .inr s => .str s
abbrev Pr := Addr → Prop
def keyOk : Key → Prop
  | .inl _ => True
  | .inr s => PyData.strOk s = true
structure KsOf (kvs : List (Key × V)) (ks : List D) : Prop where
  eq : ks = (kvs.map fun p => keyD p.1)
  ok : ∀ p ∈ kvs, keyOk p.1
mutual
def nk : D → Option NestedKey
  | .non => some .none
  | .bl b => some (.num (if b then 1 else 0))
  | .int i => some (.num i)
  | .str s => some (.text s)
  | .tup ds => (nks ds).map .tup
  | _ => none
def nks : List D → Option (List NestedKey)
  | [] => some []
  | d :: ds => match nk d, nks ds with
    | some k, some r => some (k :: r)
    | _, _ => none
end
mutual
def ntx : NestedKey → Bool
  | .text _ => false
  | .tup ks => ntxs ks
  | _ => true
def ntxs : List NestedKey → Bool
  | [] => true
  | k :: ks => ntx k && ntxs ks
end
def KdO (w : World) (a : Addr) (xs : List (NestedKey × Addr × Value)) : HO := .ext fun h => ∃ o es ep, h.get? a = some o ∧ o.ExactDict ∧ o.data = .dict es ep ∧ es.toList = xs.map fun x => (⟨x.1.hash w, .ref x.2.1, x.2.2⟩ : DictEntry)
structure KdOk (a : Addr) (xs : List (NestedKey × Addr × Value)) (ks : List D) : Prop where
  eq : ks.map nk = xs.map fun x => some x.1
  tup : ∀ d ∈ ks, ∃ ds, d = .tup ds
  dp : ∀ x ∈ xs, x.1.depth ≤ 8 ∧ ntx x.1 = true
  nd : (xs.map (·.1)).Nodup
  sm : (a == sysModules) = false
  len : xs.length ≤ sizeLine
structure InOk (mg : Str → Option Value) (C : Str) (Ca : Addr) (ns : List Str) (fs : List (Str × V)) : Prop where
  cl : mg C = some (.ref Ca)
  eq : fs.map (·.1) = ns
  nd : ns.Nodup
def KLs (K : PySem.W.Frag) (a : Addr) (xs : List V) : Prop :=
  ∃ (o : Obj) (its : Array Value) (n : Nat), K.lookup a = some o ∧ o.cls = .type "list" ∧ o.dict = none ∧ o.data = .seq its n ∧ its.size ≤ sizeLine ∧ Vals xs its.toList
def KTp (K : PySem.W.Frag) (a : Addr) (xs : List V) : Prop :=
  ∃ (o : Obj) (its : Array Value) (n : Nat), K.lookup a = some o ∧ o.cls = .type "tuple" ∧ o.dict = none ∧ o.data = .seq its n ∧ its.size ≤ sizeLine ∧ Vals xs its.toList
def LsF (K : PySem.W.Frag) (hot : Pr) (H : Hp) (a : Addr) (xs : List V) : Prop := (¬ hot a ∧ Rd H a (.lst xs)) ∨ KLs K a xs
def FzT (H : Hp) (a : Addr) (xs : List V) : Prop := ∃ o, PTu o ∧ H a = some (.frz o (.tup xs))
theorem FzT.rd {H a xs} (h : FzT H a xs) : Rd H a (.tup xs) := let ⟨o, _, e⟩ := h; .inr ⟨o, e⟩
def TpF (K : PySem.W.Frag) (hot : Pr) (H : Hp) (a : Addr) (xs : List V) : Prop := (¬ hot a ∧ FzT H a xs) ∨ KTp K a xs
theorem KTp.sq {K H a xs} (h : KTp K a xs) : SqT K H a xs := let ⟨o, its, n, h1, h2, _, h4, h5, h6⟩ := h; .inr ⟨o, its, n, h1, h2, h4, h5, h6⟩
theorem LsF.sq {K hot H a xs} (h : LsF K hot H a xs) : SqL K H a xs := h.elim (fun q => .inl q.2) .inr
theorem TpF.sq {K hot H a xs} (h : TpF K hot H a xs) : SqT K H a xs := h.elim (fun q => .inl q.2.rd) KTp.sq
mutual
inductive Rep (K : PySem.W.Frag) (mg : Str → Option Value) (hot : Pr) (H : Hp) : V → D → Prop
  | non : Rep K mg hot H .non .non
  | bl (b : Bool) : Rep K mg hot H (.bl b) (.bl b)
  | int (i : Int) : Rep K mg hot H (.int i) (.int i)
  | str (x : Str) : PyData.strOk x = true → Rep K mg hot H (.str x) (.str x)
  | lst {a : Addr} {xs : List V} {ds : List D} : LsF K hot H a xs → Reps K mg hot H xs ds → Rep K mg hot H (.ref a) (.lst ds)
  | tup {a : Addr} {xs : List V} {ds : List D} : TpF K hot H a xs → Reps K mg hot H xs ds → Rep K mg hot H (.ref a) (.tup ds)
  | dicK {a : Addr} {kvs : List (Key × V)} {ks ds : List D} : ¬ hot a → H a = some (.dK kvs) → KsOf kvs ks → Reps K mg hot H (kvs.map (·.2)) ds → Rep K mg hot H (.ref a) (.dic ks ds)
  | ldc {a : Addr} {kvs : List (Key × V)} {ks ds : List D} {o : Obj} : ¬ hot a → H a = some (.frz o (.dK kvs)) → KsOf kvs ks → Reps K mg hot H (kvs.map (·.2)) ds → Rep K mg hot H (.ref a) (.ldc ks ds)
  | lse {a : Addr} {xs : List V} {ds : List D} : ¬ hot a → Rd H a (.tup xs) → Reps K mg hot H xs ds → Rep K mg hot H (.ref a) (.lse ds)
  | fn {x : Str} {a : Addr} : mg x = some (.ref a) → Rep K mg hot H (.ref a) (.fn x)
  | al {a : Addr} : Rep K mg hot H (.ref a) (.al a)
  | ins {a Ca dx : Addr} {C : Str} {ns : List Str} {fs : List (Str × V)} {ds : List D} : ¬ hot a → H a = some (.ins Ca dx fs) → InOk mg C Ca ns fs → Reps K mg hot H (fs.map (·.2)) ds → Rep K mg hot H (.ref a) (.ins C ns ds)
  | dkt {a : Addr} {w : World} {xs : List (NestedKey × Addr × Value)} {vs : List V} {ks ds : List D} : ¬ hot a → H a = some (KdO w a xs) → KdOk a xs ks → Vals vs (xs.map (·.2.2)) → Reps K mg hot H (xs.map fun x => V.ref x.2.1) ks → Reps K mg hot H vs ds → Rep K mg hot H (.ref a) (.dkt ks ds)
  | box {a : Addr} {d : D} : Rep K mg hot H (.ref a) (opnD d) → Rep K mg hot H (.ref a) (.box d)
inductive Reps (K : PySem.W.Frag) (mg : Str → Option Value) (hot : Pr) (H : Hp) : List V → List D → Prop
  | nil : Reps K mg hot H [] []
  | cons {v : V} {vs : List V} {d : D} {ds : List D} : Rep K mg hot H v d → Reps K mg hot H vs ds → Reps K mg hot H (v :: vs) (d :: ds)
end
def NT : HO → Prop
  | .tbl _ => False
  | _ => True
def NW : HO → Prop
  | .tbl _ => False
  | .ext φ => ∃ w a xs, HO.ext φ = KdO w a xs
  | _ => True
theorem NW.nt : ∀ {o : HO}, NW o → NT o
  | .lst _, _ | .tup _, _ | .dK _, _ | .dT _, _ | .set _ _, _ | .ins _ _ _, _ | .own _, _ | .xd _, _ | .met _ _, _ | .rng _ _, _ | .frz _ _, _ => trivial
  | .tbl _, h => h
  | .ext _, _ => trivial
theorem nw_kd {w : World} {a : Addr} {xs : List (NestedKey × Addr × Value)} : NW (KdO w a xs) := ⟨w, a, xs, rfl⟩
theorem kd_heap {φ : Heap → Prop} (h : NW (.ext φ)) (c : Addr) : ∃ h : Heap, φ h ∧ ∀ o, h.get? c = some o → ∃ es ep, o.data = .dict es ep := by
  obtain ⟨w, a, xs, e⟩ := h
  have e2 : φ = fun h : Heap => ∃ o es ep, h.get? a = some o ∧ o.ExactDict ∧ o.data = .dict es ep ∧ es.toList = xs.map fun x => (⟨x.1.hash w, .ref x.2.1, x.2.2⟩ : DictEntry) := HO.ext.inj e
  have g : ∀ b : Addr, b < a + 1 → (⟨Array.replicate (a + 1) ⟨.type "dict", none, .dict (xs.map fun x => (⟨x.1.hash w, .ref x.2.1, x.2.2⟩ : DictEntry)).toArray 0, #[]⟩, {}⟩ : Heap).get? b = some ⟨.type "dict", none, .dict (xs.map fun x => (⟨x.1.hash w, .ref x.2.1, x.2.2⟩ : DictEntry)).toArray 0, #[]⟩ := fun b hb => by
    unfold Heap.get?
    simp [Array.getElem?_replicate, hb]
  have g2 : ∀ b : Addr, ¬ b < a + 1 → (⟨Array.replicate (a + 1) ⟨.type "dict", none, .dict (xs.map fun x => (⟨x.1.hash w, .ref x.2.1, x.2.2⟩ : DictEntry)).toArray 0, #[]⟩, {}⟩ : Heap).get? b = none := fun b hb => by
    unfold Heap.get?
    simp [Array.getElem?_replicate, hb]
  refine ⟨_, by rw [e2]; exact ⟨_, _, _, g a (Nat.lt_succ_self a), ⟨rfl, rfl, rfl⟩, rfl, by simp⟩, fun o ho => ?_⟩
  by_cases hb : c < a + 1
  · rw [g c hb] at ho
    cases ho
    exact ⟨_, _, rfl⟩
  · rw [g2 c hb] at ho
    cases ho
theorem nw_code {c : Addr} {q : Str} (h : NW (LamX.CodeO c q)) : False := by
  obtain ⟨h0, ⟨oc, vs, t, h1, h2, _⟩, h3⟩ := kd_heap h c
  obtain ⟨es, ep, e⟩ := h3 oc h1
  rw [e] at h2
  cases h2
def lamNames : List Str := ["bundled", "answers_by", "_law_due", "_law_right", "_law_joined_right", "_law_answers"]
def tabsOf (K : PySem.W.Frag) : List (Addr × Str) := lamNames.filterMap fun x => (PySem.W.tabIn K x).map fun p => (p.2, x ++ ".<locals>." ++ "<lambda>")
structure Hh (K : PySem.W.Frag) (hot : Pr) (H : Hp) : Prop where
  tr : ∀ a, hot a → H a ≠ none
  tb : LamX.Tabs (tabsOf K) H
structure Keeps (hot hot' : Pr) (H H' : Hp) : Prop where
  keep : ∀ a o, H a = some o → ¬ hot a → (nt : NT o := by trivial) → H' a = some o
  cool : ∀ a o, H a = some o → ¬ hot a → ¬ hot' a
section
variable {K : PySem.W.Frag} {mg : Str → Option Value} {hot hot' : Pr} {H H' : Hp}
theorem Keeps.rd (k : Keeps hot hot' H H') {a : Addr} {u : HO} (n : ¬ hot a) (r : Rd H a u) (nt : NT u := by trivial) : ¬ hot' a ∧ Rd H' a u := by
  rcases r with r | ⟨o, r⟩
  · exact ⟨k.cool a _ r n, .inl (k.keep a _ r n nt)⟩
  · exact ⟨k.cool a _ r n, .inr ⟨o, k.keep a _ r n⟩⟩
theorem Keeps.ls (k : Keeps hot hot' H H') {a : Addr} {xs : List V} (h : LsF K hot H a xs) : LsF K hot' H' a xs := h.elim (fun q => .inl (k.rd q.1 q.2)) .inr
theorem Keeps.tp (k : Keeps hot hot' H H') {a : Addr} {xs : List V} (h : TpF K hot H a xs) : TpF K hot' H' a xs := h.elim (fun q => let ⟨o, po, e⟩ := q.2; .inl ⟨k.cool a _ e q.1, o, po, k.keep a _ e q.1⟩) .inr
mutual
theorem Rep.mono (k : Keeps hot hot' H H') : ∀ {v : V} {d : D}, Rep K mg hot H v d → Rep K mg hot' H' v d
  | _, _, .non => .non
  | _, _, .bl b => .bl b
  | _, _, .int i => .int i
  | _, _, .str x h => .str x h
  | _, _, .lst h r => .lst (k.ls h) (Reps.mono k r)
  | _, _, .tup h r => .tup (k.tp h) (Reps.mono k r)
  | _, _, .dicK n h e r => .dicK (k.cool _ _ h n) (k.keep _ _ h n) e (Reps.mono k r)
  | _, _, .ldc n h e r => .ldc (k.cool _ _ h n) (k.keep _ _ h n) e (Reps.mono k r)
  | _, _, .lse n h r => .lse (k.rd n h).1 (k.rd n h).2 (Reps.mono k r)
  | _, _, .fn h => .fn h
  | _, _, .al => .al
  | _, _, .ins n h e r => .ins (k.cool _ _ h n) (k.keep _ _ h n) e (Reps.mono k r)
  | _, _, .dkt n h e v r t => .dkt (k.cool _ _ h n) (k.keep _ _ h n) e v (Reps.mono k r) (Reps.mono k t)
  | _, _, .box r => .box (Rep.mono k r)
theorem Reps.mono (k : Keeps hot hot' H H') : ∀ {vs : List V} {ds : List D}, Reps K mg hot H vs ds → Reps K mg hot' H' vs ds
  | _, _, .nil => .nil
  | _, _, .cons h t => .cons (Rep.mono k h) (Reps.mono k t)
end
theorem Reps.length : ∀ {vs : List V} {ds : List D}, Reps K mg hot H vs ds → vs.length = ds.length
  | _, _, .nil => rfl
  | _, _, .cons _ t => by rw [List.length_cons, List.length_cons, Reps.length t]
theorem Reps.append : ∀ {vs ws : List V} {ds es : List D}, Reps K mg hot H vs ds → Reps K mg hot H ws es → Reps K mg hot H (vs ++ ws) (ds ++ es)
  | _, _, _, _, .nil, r => r
  | _, _, _, _, .cons h t, r => .cons h (Reps.append t r)
theorem Reps.get : ∀ {vs : List V} {ds : List D} {i : Nat} {d : D}, Reps K mg hot H vs ds → ds[i]? = some d → ∃ v, vs[i]? = some v ∧ Rep K mg hot H v d
  | _, _, _, _, .nil, e => by simp at e
  | _, _, 0, _, .cons h _, e => by simp at e; subst e; exact ⟨_, rfl, h⟩
  | _, _, i + 1, _, .cons _ t, e => by
    obtain ⟨v, e1, r⟩ := Reps.get (i := i) t (by simpa using e)
    exact ⟨v, by simpa using e1, r⟩
theorem Reps.getV : ∀ {vs : List V} {ds : List D} {i : Nat} {v : V}, Reps K mg hot H vs ds → vs[i]? = some v → ∃ d, ds[i]? = some d ∧ Rep K mg hot H v d
  | _, _, _, _, .nil, e => by simp at e
  | _, _, 0, _, .cons h _, e => by simp at e; subst e; exact ⟨_, rfl, h⟩
  | _, _, i + 1, _, .cons _ t, e => by
    obtain ⟨v, e1, r⟩ := Reps.getV (i := i) t (by simpa using e)
    exact ⟨v, by simpa using e1, r⟩
theorem Reps.take : ∀ {vs : List V} {ds : List D} (n : Nat), Reps K mg hot H vs ds → Reps K mg hot H (vs.take n) (ds.take n)
  | _, _, 0, _ => .nil
  | _, _, _ + 1, .nil => .nil
  | _, _, n + 1, .cons h t => .cons h (Reps.take n t)
theorem Reps.drop : ∀ {vs : List V} {ds : List D} (n : Nat), Reps K mg hot H vs ds → Reps K mg hot H (vs.drop n) (ds.drop n)
  | _, _, 0, h => h
  | _, _, _ + 1, .nil => .nil
  | _, _, n + 1, .cons _ t => Reps.drop n t
theorem Reps.set {v : V} {d : D} (r : Rep K mg hot H v d) : ∀ {vs : List V} {ds : List D} (i : Nat), Reps K mg hot H vs ds → Reps K mg hot H (vs.set i v) (ds.set i d)
  | _, _, _, .nil => .nil
  | _, _, 0, .cons _ t => .cons r t
  | _, _, i + 1, .cons h t => .cons h (Reps.set r i t)
theorem Reps.reverse : ∀ {vs : List V} {ds : List D}, Reps K mg hot H vs ds → Reps K mg hot H vs.reverse ds.reverse
  | _, _, .nil => .nil
  | _, _, .cons h t => by
    rw [List.reverse_cons, List.reverse_cons]
    exact Reps.append (Reps.reverse t) (.cons h .nil)
inductive RepB (K : PySem.W.Frag) (mg : Str → Option Value) (hot : Pr) (H : Hp) : V → D → Prop
  | fro {v : V} {d : D} : Rep K mg hot H v d → RepB K mg hot H v d
  | own {a : Addr} {vs : List V} {ds : List D} : hot a → H a = some (.lst vs) → Reps K mg hot H vs ds → RepB K mg hot H (.ref a) (.own a ds)
inductive RepBs (K : PySem.W.Frag) (mg : Str → Option Value) (hot : Pr) (H : Hp) : List V → List D → Prop
  | nil : RepBs K mg hot H [] []
  | cons {v : V} {vs : List V} {d : D} {ds : List D} : RepB K mg hot H v d → RepBs K mg hot H vs ds → RepBs K mg hot H (v :: vs) (d :: ds)
def own1 : D → List Addr
  | .own a _ => [a]
  | _ => []
def bx : D → List Addr
  | .box (.tup ds) => ds.flatMap own1
  | .box (.lst ds) => ds.flatMap own1
  | .box (.dic _ ds) => ds.flatMap own1
  | .box (.ins _ _ ds) => ds.flatMap own1
  | _ => []
theorem Rep.own1 {v : V} {d : D} (r : Rep K mg hot H v d) : own1 d = [] := by cases r <;> rfl
theorem RepB.mono (k : Keeps hot hot' H H') {v : V} {d : D} (r : RepB K mg hot H v d) (o : ∀ b ∈ TL.own1 d, hot' b ∧ H' b = H b) : RepB K mg hot' H' v d := by
  cases r with
  | fro r => exact .fro (r.mono k)
  | own h1 h2 r => obtain ⟨q1, q2⟩ := o _ List.mem_cons_self; exact .own q1 (q2.trans h2) (r.mono k)
theorem RepBs.mono (k : Keeps hot hot' H H') : ∀ {vs : List V} {ds : List D}, RepBs K mg hot H vs ds → (∀ b ∈ ds.flatMap TL.own1, hot' b ∧ H' b = H b) → RepBs K mg hot' H' vs ds
  | _, _, .nil, _ => .nil
  | _, _, .cons r t, o => .cons (r.mono k fun b hb => o b (by rw [List.flatMap_cons]; exact List.mem_append_left _ hb)) (RepBs.mono k t fun b hb => o b (by rw [List.flatMap_cons]; exact List.mem_append_right _ hb))
theorem RepB.isHot {v : V} {d : D} (r : RepB K mg hot H v d) : ∀ b ∈ TL.own1 d, hot b ∧ H b ≠ none := by
  cases r with
  | fro r => rw [r.own1]; exact fun _ z => nomatch z
  | own h1 h2 r => intro b hb; rw [List.mem_singleton.mp hb]; exact ⟨h1, by rw [h2]; simp⟩
theorem RepBs.isHot : ∀ {vs : List V} {ds : List D}, RepBs K mg hot H vs ds → ∀ b ∈ ds.flatMap TL.own1, hot b ∧ H b ≠ none
  | _, _, .nil, _, h => nomatch h
  | _, _, .cons r t, b, h => by
    rw [List.flatMap_cons] at h
    exact (List.mem_append.mp h).elim (r.isHot b) (RepBs.isHot t b)
theorem Rep.cl_eq {v : V} {d : D} (r : Rep K mg hot H v d) : cl1 d = d := by cases r <;> rfl
theorem RepBs.cool (k : Keeps hot hot' H H) : ∀ {vs : List V} {ds : List D}, RepBs K mg hot H vs ds → (∀ b ∈ ds.flatMap TL.own1, ¬ hot' b) → Reps K mg hot' H vs (ds.map cl1)
  | _, _, .nil, _ => .nil
  | _, _, .cons r t, o => by
    refine .cons ?_ (RepBs.cool k t fun b hb => o b (by rw [List.flatMap_cons]; exact List.mem_append_right _ hb))
    cases r with
    | fro r => exact (r.cl_eq).symm ▸ r.mono k
    | own h1 h2 r => exact .lst (.inl ⟨o _ (by rw [List.flatMap_cons]; exact List.mem_append_left _ List.mem_cons_self), .inl h2⟩) (r.mono k)
theorem RepBs.length : ∀ {vs : List V} {ds : List D}, RepBs K mg hot H vs ds → vs.length = ds.length
  | _, _, .nil => rfl
  | _, _, .cons _ t => by rw [List.length_cons, List.length_cons, RepBs.length t]
inductive VR (K : PySem.W.Frag) (mg : Str → Option Value) (hot : Pr) (H : Hp) : V → Val → Prop
  | fro {v : V} {d : D} : Rep K mg hot H v d → VR K mg hot H v ⟨false, d⟩
  | lst {a : Addr} {vs : List V} {ds : List D} : hot a → H a = some (.lst vs) → Reps K mg hot H vs ds → VR K mg hot H (.ref a) ⟨true, .lst ds⟩
  | dicK {a : Addr} {kvs : List (Key × V)} {ks ds : List D} : hot a → H a = some (.dK kvs) → KsOf kvs ks → Reps K mg hot H (kvs.map (·.2)) ds → VR K mg hot H (.ref a) ⟨true, .dic ks ds⟩
  | ins {a Ca dx : Addr} {C : Str} {ns : List Str} {fs : List (Str × V)} {ds : List D} : hot a → H a = some (.ins Ca dx fs) → InOk mg C Ca ns fs → Reps K mg hot H (fs.map (·.2)) ds → VR K mg hot H (.ref a) ⟨true, .ins C ns ds⟩
  | dkt {a : Addr} {w : World} {xs : List (NestedKey × Addr × Value)} {vs : List V} {ks ds : List D} : hot a → H a = some (KdO w a xs) → KdOk a xs ks → Vals vs (xs.map (·.2.2)) → Reps K mg hot H (xs.map fun x => V.ref x.2.1) ks → Reps K mg hot H vs ds → VR K mg hot H (.ref a) ⟨true, .dkt ks ds⟩
  | boxI {a Ca dx : Addr} {C : Str} {ns : List Str} {fs : List (Str × V)} {ds : List D} : hot a → H a = some (.ins Ca dx fs) → InOk mg C Ca ns fs → RepBs K mg hot H (fs.map (·.2)) ds → VR K mg hot H (.ref a) ⟨true, .box (.ins C ns ds)⟩
  | boxT {a : Addr} {vs : List V} {ds : List D} : hot a → FzT H a vs → RepBs K mg hot H vs ds → VR K mg hot H (.ref a) ⟨true, .box (.tup ds)⟩
  | boxL {a : Addr} {vs : List V} {ds : List D} : hot a → H a = some (.lst vs) → RepBs K mg hot H vs ds → VR K mg hot H (.ref a) ⟨true, .box (.lst ds)⟩
  | boxD {a : Addr} {kvs : List (Key × V)} {ks ds : List D} : hot a → H a = some (.dK kvs) → KsOf kvs ks → RepBs K mg hot H (kvs.map (·.2)) ds → VR K mg hot H (.ref a) ⟨true, .box (.dic ks ds)⟩
end
abbrev Cell := Option V × Option Val
abbrev Lay := List Cell
def rootP : Cell → List Addr
  | (some (.ref a), some ⟨true, d⟩) => a :: bx d
  | _ => []
def roots (L : Lay) : List Addr := L.flatMap rootP
def hotL (oh : Pr) (L : Lay) : Pr := fun a => oh a ∨ a ∈ roots L
def SlotOk (K : PySem.W.Frag) (mg : Str → Option Value) (hot : Pr) (H : Hp) (p : Cell) : Prop := ∀ x, p.2 = some x → ∃ v, p.1 = some v ∧ VR K mg hot H v x
structure StR (K : PySem.W.Frag) (mg : Str → Option Value) (oh : Pr) (H : Hp) (L : Lay) : Prop where
  all : ∀ p ∈ L, SlotOk K mg (hotL oh L) H p
  nd : (roots L).Nodup
  dj : ∀ a ∈ roots L, ¬ oh a
  tr : Hh K oh H
structure Step (L : Lay) (H : Hp) (L' : Lay) (H' : Hp) : Prop where
  keep : ∀ a o, H a = some o → a ∉ roots L → (nt : NT o := by trivial) → H' a = some o
  sub : ∀ a ∈ roots L', a ∈ roots L ∨ H a = none
  dom : ∀ a, H a ≠ none → H' a ≠ none
section
variable {K : PySem.W.Frag} {mg : Str → Option Value} {oh : Pr} {H H' H'' : Hp} {L L' A A' B : Lay}
theorem roots_append : roots (A ++ B) = roots A ++ roots B := List.flatMap_append
theorem roots_cons {p : Cell} : roots (p :: A) = rootP p ++ roots A := List.flatMap_cons
theorem mem_roots {a : Addr} : a ∈ roots L ↔ ∃ p ∈ L, a ∈ rootP p := List.mem_flatMap
theorem rootP_some {p : Cell} {a : Addr} (h : a ∈ rootP p) : ∃ b d, p = (some (.ref b), some ⟨true, d⟩) := by
  obtain ⟨so, eo⟩ := p
  cases so with
  | none => cases h
  | some v =>
    cases eo with
    | none => cases v <;> cases h
    | some x =>
      obtain ⟨o, d⟩ := x
      cases v with
      | ref b =>
        cases o with
        | true => exact ⟨b, d, rfl⟩
        | false => cases h
      | _ => cases o <;> cases h
theorem rootP_none {so : Option V} : rootP (so, none) = [] := by
  cases so with
  | none => rfl
  | some v => cases v <;> rfl
theorem rootP_fro {so : Option V} {d : D} : rootP (so, some ⟨false, d⟩) = [] := by
  cases so with
  | none => rfl
  | some v => cases v <;> rfl
theorem roots_fro {so : Option V} {d : D} : roots ((so, some ⟨false, d⟩) :: L) = roots L := by rw [roots_cons, rootP_fro]; rfl
theorem roots_none {so : Option V} : roots ((so, none) :: L) = roots L := by rw [roots_cons, rootP_none]; rfl
theorem roots_ownG {a : Addr} {d : D} : roots ((some (.ref a), some ⟨true, d⟩) :: L) = a :: (bx d ++ roots L) := by rw [roots_cons]; rfl
theorem roots_own {a : Addr} {ds : List D} : roots ((some (.ref a), some ⟨true, .lst ds⟩) :: L) = a :: roots L := by rw [roots_cons]; rfl
theorem roots_ownD {a : Addr} {ks ds : List D} : roots ((some (.ref a), some ⟨true, .dic ks ds⟩) :: L) = a :: roots L := by rw [roots_cons]; rfl
theorem VR.own_all {hot : Pr} {v : V} {d : D} (h : VR K mg hot H v ⟨true, d⟩) : ∃ a, v = .ref a ∧ ∀ b ∈ a :: bx d, hot b ∧ H b ≠ none := by
  have one : ∀ (a : Addr) (o : HO), hot a → H a = some o → ∀ b ∈ [a], hot b ∧ H b ≠ none := fun a o h1 h2 b hb => by
    rw [List.mem_singleton.mp hb]; exact ⟨h1, by rw [h2]; simp⟩
  have more : ∀ (a : Addr) (o : HO) (l : List Addr), hot a → H a = some o → (∀ b ∈ l, hot b ∧ H b ≠ none) → ∀ b ∈ a :: l, hot b ∧ H b ≠ none := fun a o l h1 h2 h3 b hb =>
    (List.mem_cons.mp hb).elim (fun e => by rw [e]; exact ⟨h1, by rw [h2]; simp⟩) (h3 b)
  cases h with
  | lst h1 h2 _ => exact ⟨_, rfl, one _ _ h1 h2⟩
  | dicK h1 h2 _ _ => exact ⟨_, rfl, one _ _ h1 h2⟩
  | ins h1 h2 _ _ => exact ⟨_, rfl, one _ _ h1 h2⟩
  | dkt h1 h2 _ _ _ _ => exact ⟨_, rfl, one _ _ h1 h2⟩
  | boxI h1 h2 _ r => exact ⟨_, rfl, more _ _ _ h1 h2 r.isHot⟩
  | boxT h1 h2 r => obtain ⟨o, _, h2⟩ := h2; exact ⟨_, rfl, more _ _ _ h1 h2 r.isHot⟩
  | boxL h1 h2 r => exact ⟨_, rfl, more _ _ _ h1 h2 r.isHot⟩
  | boxD h1 h2 _ r => exact ⟨_, rfl, more _ _ _ h1 h2 r.isHot⟩
theorem VR.own_root {hot : Pr} {v : V} {d : D} (h : VR K mg hot H v ⟨true, d⟩) : ∃ a, v = .ref a ∧ hot a ∧ H a ≠ none :=
  let ⟨a, e, q⟩ := h.own_all
  ⟨a, e, q a List.mem_cons_self⟩
theorem VR.mono {hot hot' : Pr} (k : Keeps hot hot' H H') {v : V} {x : Val} (h : VR K mg hot H v x) (own : ∀ b ∈ rootP (some v, some x), hot' b ∧ H' b = H b) : VR K mg hot' H' v x := by
  cases h with
  | fro r => exact .fro (r.mono k)
  | lst h1 h2 r => obtain ⟨q1, q2⟩ := own _ List.mem_cons_self; exact .lst q1 (q2.trans h2) (r.mono k)
  | dicK h1 h2 e r => obtain ⟨q1, q2⟩ := own _ List.mem_cons_self; exact .dicK q1 (q2.trans h2) e (r.mono k)
  | ins h1 h2 e r => obtain ⟨q1, q2⟩ := own _ List.mem_cons_self; exact .ins q1 (q2.trans h2) e (r.mono k)
  | dkt h1 h2 e v r t => obtain ⟨q1, q2⟩ := own _ List.mem_cons_self; exact .dkt q1 (q2.trans h2) e v (r.mono k) (t.mono k)
  | boxI h1 h2 e r => obtain ⟨q1, q2⟩ := own _ List.mem_cons_self; exact .boxI q1 (q2.trans h2) e (r.mono k fun b hb => own b (List.mem_cons_of_mem _ hb))
  | boxT h1 h2 r => obtain ⟨q1, q2⟩ := own _ List.mem_cons_self; obtain ⟨o, po, h2⟩ := h2; exact .boxT q1 ⟨o, po, q2.trans h2⟩ (r.mono k fun b hb => own b (List.mem_cons_of_mem _ hb))
  | boxL h1 h2 r => obtain ⟨q1, q2⟩ := own _ List.mem_cons_self; exact .boxL q1 (q2.trans h2) (r.mono k fun b hb => own b (List.mem_cons_of_mem _ hb))
  | boxD h1 h2 e r => obtain ⟨q1, q2⟩ := own _ List.mem_cons_self; exact .boxD q1 (q2.trans h2) e (r.mono k fun b hb => own b (List.mem_cons_of_mem _ hb))
theorem VR.own_nw {hot : Pr} {v : V} {d : D} (h : VR K mg hot H v ⟨true, d⟩) : ∀ b ∈ rootP (some v, some ⟨true, d⟩), ∃ o : HO, H b = some o ∧ NW o := by
  have rb : ∀ {vs : List V} {ds : List D}, RepBs K mg hot H vs ds → ∀ b ∈ ds.flatMap TL.own1, ∃ o : HO, H b = some o ∧ NW o := by
    intro vs ds r
    induction r with
    | nil => exact fun _ z => nomatch z
    | cons r _ ih =>
      intro b hb
      rw [List.flatMap_cons] at hb
      rcases List.mem_append.mp hb with hb | hb
      · cases r with
        | fro r => rw [r.own1] at hb; cases hb
        | own h1 h2 r => rw [List.mem_singleton.mp hb]; exact ⟨_, h2, trivial⟩
      · exact ih b hb
  cases h with
  | lst h1 h2 _ => intro b hb; rw [List.mem_singleton.mp hb]; exact ⟨_, h2, trivial⟩
  | dicK h1 h2 _ _ => intro b hb; rw [List.mem_singleton.mp hb]; exact ⟨_, h2, trivial⟩
  | ins h1 h2 _ _ => intro b hb; rw [List.mem_singleton.mp hb]; exact ⟨_, h2, trivial⟩
  | dkt h1 h2 _ _ _ _ => intro b hb; rw [List.mem_singleton.mp hb]; exact ⟨_, h2, nw_kd⟩
  | boxI h1 h2 _ r => exact fun b hb => (List.mem_cons.mp hb).elim (fun e => by rw [e]; exact ⟨_, h2, trivial⟩) (rb r b)
  | boxT h1 h2 r => obtain ⟨o, _, h2⟩ := h2; exact fun b hb => (List.mem_cons.mp hb).elim (fun e => by rw [e]; exact ⟨_, h2, trivial⟩) (rb r b)
  | boxL h1 h2 r => exact fun b hb => (List.mem_cons.mp hb).elim (fun e => by rw [e]; exact ⟨_, h2, trivial⟩) (rb r b)
  | boxD h1 h2 _ r => exact fun b hb => (List.mem_cons.mp hb).elim (fun e => by rw [e]; exact ⟨_, h2, trivial⟩) (rb r b)
theorem StR.root_nw (S : StR K mg oh H L) {a : Addr} (h : a ∈ roots L) : ∃ o : HO, H a = some o ∧ NW o := by
  obtain ⟨p, hp, e⟩ := mem_roots.mp h
  obtain ⟨b, d, rfl⟩ := rootP_some e
  obtain ⟨v, e2, r⟩ := S.all _ hp _ rfl
  cases e2
  exact r.own_nw a e
theorem StR.root_there (S : StR K mg oh H L) {a : Addr} (h : a ∈ roots L) : H a ≠ none := by
  obtain ⟨p, hp, e⟩ := mem_roots.mp h
  obtain ⟨b, d, rfl⟩ := rootP_some e
  obtain ⟨v, e2, r⟩ := S.all _ hp _ rfl
  cases e2
  obtain ⟨c, e3, q⟩ := r.own_all
  cases e3
  exact (q a e).2
theorem StR.hot_there (S : StR K mg oh H L) {a : Addr} (h : hotL oh L a) : H a ≠ none := h.elim (S.tr.tr a) S.root_there
theorem StR.hots (S : StR K mg oh H L) : Hh K (hotL oh L) H := ⟨fun _ h => S.hot_there h, S.tr.tb⟩
theorem cell_eq {p : Cell} {x : Val} {v : V} (hx : p.2 = some x) (e : p.1 = some v) : p = (some v, some x) := by
  obtain ⟨so, eo⟩ := p
  simp only at hx e
  subst hx e
  rfl
theorem StR.less (S : StR K mg oh H L) (h : ∀ p ∈ L', p.2 = none ∨ p ∈ L) (nd : (roots L').Nodup) : StR K mg oh H L' := by
  have sub : ∀ a ∈ roots L', a ∈ roots L := fun a ha => by
    obtain ⟨p, hp, e⟩ := mem_roots.mp ha
    rcases h p hp with z | z
    · obtain ⟨b, d, rfl⟩ := rootP_some e
      cases z
    · exact mem_roots.mpr ⟨p, z, e⟩
  refine ⟨fun p hp x hx => ?_, nd, fun a ha => S.dj a (sub a ha), S.tr⟩
  rcases h p hp with z | z
  · rw [z] at hx; cases hx
  · obtain ⟨v, e, r⟩ := S.all p z x hx
    exact ⟨v, e, r.mono ⟨fun _ _ q _ _ => q, fun a o _ n q => n (q.elim .inl fun q => .inr (sub a q))⟩ fun b hb => ⟨.inr (mem_roots.mpr ⟨p, hp, by rw [cell_eq hx e]; exact hb⟩), rfl⟩⟩
theorem StR.perm (S : StR K mg oh H L) (h : L.Perm L') : StR K mg oh H L' :=
  S.less (fun p hp => .inr (h.mem_iff.mpr hp)) ((List.Perm.flatMap_right rootP h).nodup_iff.mp S.nd)
theorem StR.tail {p : Cell} (S : StR K mg oh H (p :: L)) : StR K mg oh H L :=
  S.less (fun _ hp => .inr (List.mem_cons_of_mem _ hp)) (by have := S.nd; rw [roots_cons] at this; exact (List.nodup_append.mp this).2.1)
theorem StR.right (S : StR K mg oh H (A ++ B)) : StR K mg oh H B :=
  S.less (fun _ hp => .inr (List.mem_append_right _ hp)) (by have := S.nd; rw [roots_append] at this; exact (List.nodup_append.mp this).2.1)
theorem StR.left (S : StR K mg oh H (A ++ B)) : StR K mg oh H A :=
  S.less (fun _ hp => .inr (List.mem_append_left _ hp)) (by have := S.nd; rw [roots_append] at this; exact (List.nodup_append.mp this).1)
theorem hotL_append : hotL oh (A ++ B) = hotL (fun a => oh a ∨ a ∈ roots B) A := by
  funext a
  apply propext
  unfold hotL
  rw [roots_append, List.mem_append]
  constructor
  · rintro (h | h | h)
    · exact .inl (.inl h)
    · exact .inr h
    · exact .inl (.inr h)
  · rintro ((h | h) | h)
    · exact .inl h
    · exact .inr (.inr h)
    · exact .inr (.inl h)
theorem StR.split (S : StR K mg oh H (A ++ B)) : StR K mg (hotL oh B) H A := by
  have nd := S.nd
  rw [roots_append] at nd
  obtain ⟨n1, n2, n3⟩ := List.nodup_append.mp nd
  refine ⟨fun p hp => ?_, n1, fun a ha => ?_, fun a ha => ?_, S.tr.tb⟩
  · have := S.all p (List.mem_append_left _ hp)
    rw [hotL_append] at this
    exact this
  · rintro (z | z)
    · exact S.dj a (by rw [roots_append]; exact List.mem_append_left _ ha) z
    · exact n3 a ha a z rfl
  · rcases ha with z | z
    · exact S.tr.tr a z
    · exact S.right.root_there z
theorem Step.refl : Step L H L H := ⟨fun _ _ h _ _ => h, fun _ h => .inl h, fun _ h => h⟩
theorem Step.trans (s : Step L H L' H') (t : Step L' H' A H'') : Step L H A H'' := by
  have up : ∀ a, H' a = none → H a = none := fun a h => by
    cases e : H a with
    | none => rfl
    | some o => exact absurd h (s.dom a (by rw [e]; simp))
  refine ⟨fun a o e n nt => ?_, fun a ha => ?_, fun a h => t.dom a (s.dom a h)⟩
  · refine t.keep a o (s.keep a o e n nt) (fun z => ?_) nt
    rcases s.sub a z with q | q
    · exact n q
    · rw [e] at q; cases q
  · rcases t.sub a ha with q | q
    · exact s.sub a q
    · exact .inr (up a q)
theorem Step.frame (s : Step A H A' H') : Step (A ++ B) H (A' ++ B) H' := by
  refine ⟨fun a o e n nt => s.keep a o e (fun z => n (by rw [roots_append]; exact List.mem_append_left _ z)) nt, fun a ha => ?_, s.dom⟩
  rw [roots_append] at ha ⊢
  rcases List.mem_append.mp ha with z | z
  · exact (s.sub a z).imp (List.mem_append_left _) id
  · exact .inl (List.mem_append_right _ z)
theorem Step.keeps {oh : Pr} (s : Step A H A' H') : Keeps (hotL oh (A ++ B)) (hotL oh (A' ++ B)) H H' := by
  refine ⟨fun a o e n nt => s.keep a o e (fun z => n (.inr (by rw [roots_append]; exact List.mem_append_left _ z))) nt, fun a o e n q => ?_⟩
  rcases q with q | q
  · exact n (.inl q)
  · rw [roots_append] at q
    rcases List.mem_append.mp q with z | z
    · rcases s.sub a z with y | y
      · exact n (.inr (by rw [roots_append]; exact List.mem_append_left _ y))
      · rw [e] at y; cases y
    · exact n (.inr (by rw [roots_append]; exact List.mem_append_right _ z))
theorem StR.frame (S : StR K mg oh H (A ++ B)) (T : StR K mg (hotL oh B) H' A') (s : Step A H A' H') : StR K mg oh H' (A' ++ B) := by
  have nd := S.nd
  rw [roots_append] at nd
  obtain ⟨n1, n2, n3⟩ := List.nodup_append.mp nd
  have kp := s.keeps (oh := oh) (B := B)
  refine ⟨fun p hp => ?_, ?_, fun a ha => ?_, fun a ha => s.dom a (S.tr.tr a ha), T.tr.tb⟩
  · rcases List.mem_append.mp hp with hp | hp
    · rw [hotL_append]; exact T.all p hp
    · intro x hx
      obtain ⟨v, e, r⟩ := S.all p (List.mem_append_right _ hp) x hx
      refine ⟨v, e, r.mono kp fun a hb => ?_⟩
      have ha : a ∈ roots B := mem_roots.mpr ⟨p, hp, by rw [cell_eq hx e]; exact hb⟩
      refine ⟨.inr (by rw [roots_append]; exact List.mem_append_right _ ha), ?_⟩
      obtain ⟨o, q, nw⟩ := S.right.root_nw ha
      rw [q]
      exact s.keep a o q (fun z => n3 a z a ha rfl) nw.nt
  · rw [roots_append]
    exact List.nodup_append.mpr ⟨T.nd, n2, fun a ha b hb e => T.dj a ha (.inr (e ▸ hb))⟩
  · rw [roots_append] at ha
    rcases List.mem_append.mp ha with z | z
    · exact fun q => T.dj a z (.inl q)
    · exact fun q => S.dj a (by rw [roots_append]; exact List.mem_append_right _ z) q
theorem StR.nil {hot : Pr} (h : Hh K hot H) : StR K mg hot H [] := ⟨fun _ z => (nomatch z), List.nodup_nil, fun _ z => (nomatch z), h⟩
theorem StR.push {c : Cell} (S : StR K mg oh H L) (T : StR K mg (hotL oh L) H' [c]) (s : Step [] H [c] H') : StR K mg oh H' (c :: L) :=
  StR.frame (A := []) (B := L) (A' := [c]) S T s
theorem Step.push {c : Cell} (s : Step [] H [c] H') : Step L H (c :: L) H' := Step.frame (A := []) (B := L) (A' := [c]) s
theorem StR.one_fro {hot : Pr} (h : Hh K hot H) {v : V} {d : D} (r : Rep K mg hot H v d) : StR K mg hot H [(some v, some ⟨false, d⟩)] := by
  refine ⟨fun p hp x hx => ?_, ?_, fun a ha => ?_, h⟩
  · obtain rfl := List.mem_singleton.mp hp
    cases hx
    refine ⟨v, rfl, .fro (r.mono ⟨fun _ _ e _ _ => e, fun a o e n => ?_⟩)⟩
    rintro (q | q)
    · exact n q
    · rw [roots_fro] at q; cases q
  · rw [roots_fro]; exact List.nodup_nil
  · rw [roots_fro] at ha; cases ha
theorem Step.one_fro {v : V} {d : D} : Step [] H [(some v, some ⟨false, d⟩)] H :=
  ⟨fun _ _ e _ _ => e, fun a ha => (by rw [roots_fro] at ha; cases ha), fun _ e => e⟩
def Pl (H : Hp) (p : Addr) : Prop := ∀ o, H p = some o → NW o
theorem Pl.new {p : Addr} (n : H p = none) : Pl H p := fun o e => by rw [n] at e; cases e
theorem Pl.at {p : Addr} {o : HO} (e : H p = some o) (h : NW o := by trivial) : Pl H p := fun u q => by rw [e] at q; cases q; exact h
theorem StR.root_pl (S : StR K mg oh H L) {a : Addr} (h : a ∈ roots L) : Pl H a := let ⟨_, e, nw⟩ := S.root_nw h; .at e nw
theorem Tabs_upd {T : List (Addr × Str)} {p : Addr} {o : HO} (h : LamX.Tabs T H) (n : Pl H p) : LamX.Tabs T (upd H p o) := by
  intro x hx
  obtain ⟨ps, h1, h2, h3⟩ := h x hx
  have ne : ∀ {b : Addr} {u : HO}, H b = some u → ¬ NW u → b ≠ p := fun e no z => no (n _ (z ▸ e))
  refine ⟨ps, by rw [upd_ne (ne h1 id)]; exact h1, h2, fun pos cv hc => ?_⟩
  obtain ⟨c, e1, e2⟩ := h3 pos cv hc
  exact ⟨c, e1, by rw [upd_ne (ne e2 nw_code)]; exact e2⟩
theorem hot_upd {hot : Pr} (h : Hh K hot H) {p : Addr} {o : HO} (n : Pl H p) : Hh K hot (upd H p o) := ⟨fun a ha => by
  by_cases e : a = p
  · subst e; rw [upd_same]; simp
  · rw [upd_ne e]; exact h.tr a ha, Tabs_upd h.tb n⟩
theorem keeps_new {hot : Pr} {p : Addr} {o : HO} (n : H p = none) : Keeps hot hot H (upd H p o) :=
  ⟨fun a u e _ _ => by rw [upd_ne (ne_of_none e n)]; exact e, fun _ _ _ n => n⟩
theorem keeps_newH {hot hot' : Pr} {p : Addr} {o : HO} (n : H p = none) (hh : ∀ a, hot' a → hot a ∨ a = p) : Keeps hot hot' H (upd H p o) :=
  ⟨fun a u e _ _ => by rw [upd_ne (ne_of_none e n)]; exact e, fun a u e m q => (hh a q).elim m fun z => by subst z; rw [n] at e; cases e⟩
theorem step_new {p : Addr} {o : HO} {c : Cell} (n : H p = none) (hr : ∀ a ∈ roots [c], a = p) : Step [] H [c] (upd H p o) :=
  ⟨fun a u e _ _ => by rw [upd_ne (ne_of_none e n)]; exact e, fun a ha => .inr (by rw [hr a ha]; exact n), fun a e => by
    by_cases q : a = p
    · subst q; rw [upd_same]; simp
    · rw [upd_ne q]; exact e⟩
theorem StR.new_lst {hot : Pr} (h : Hh K hot H) {p : Addr} (n : H p = none) {vs : List V} {ds : List D} (r : Reps K mg hot H vs ds) :
    StR K mg hot (upd H p (.lst vs)) [(some (.ref p), some ⟨true, .lst ds⟩)] := by
  refine ⟨fun q hq x hx => ?_, ?_, fun a ha => ?_, hot_upd h (.new n)⟩
  · obtain rfl := List.mem_singleton.mp hq
    cases hx
    refine ⟨_, rfl, .lst (.inr (by rw [roots_own]; exact List.mem_cons_self)) upd_same (r.mono (keeps_newH n fun a q => ?_))⟩
    rcases q with q | q
    · exact .inl q
    · rw [roots_own] at q; exact .inr (by simpa [roots] using q)
  · rw [roots_own]; exact List.nodup_cons.mpr ⟨by simp [roots], List.nodup_nil⟩
  · rw [roots_own] at ha
    have e : a = p := by simpa [roots] using ha
    subst e
    exact fun q => h.tr a q n
theorem roots_one {a : Addr} {d : D} (hb : bx d = []) : roots [((some (.ref a), some ⟨true, d⟩) : Cell)] = [a] := by rw [roots_ownG, hb]; rfl
theorem Step.new_lst {p : Addr} (n : H p = none) {o : HO} {d : D} (hb : bx d = [] := by rfl) : Step [] H [(some (.ref p), some ⟨true, d⟩)] (upd H p o) :=
  step_new n fun a ha => by rw [roots_one hb] at ha; simpa using ha
theorem rep_new_tup {hot : Pr} (h : Hh K hot H) {p : Addr} (n : H p = none) {o : Obj} (po : PTu o) {vs : List V} {ds : List D} (r : Reps K mg hot H vs ds) :
    Rep K mg hot (newT H p o vs) (.ref p) (.tup ds) :=
  .tup (.inl ⟨fun q => h.tr p q n, o, po, upd_same⟩) (r.mono (keeps_new n))
theorem StR.new_tup {hot : Pr} (h : Hh K hot H) {p : Addr} (n : H p = none) {o : Obj} (po : PTu o) {vs : List V} {ds : List D} (r : Reps K mg hot H vs ds) :
    StR K mg hot (newT H p o vs) [(some (.ref p), some ⟨false, .tup ds⟩)] :=
  StR.one_fro (hot_upd h (.new n)) (rep_new_tup h n po r)
theorem StR.new_lse {hot : Pr} (h : Hh K hot H) {p : Addr} (n : H p = none) {vs : List V} {ds : List D} (r : Reps K mg hot H vs ds) :
    StR K mg hot (upd H p (.tup vs)) [(some (.ref p), some ⟨false, .lse ds⟩)] :=
  StR.one_fro (hot_upd h (.new n)) (.lse (fun q => h.tr p q n) (.inl upd_same) (r.mono (keeps_new n)))
theorem Step.new_fro {p : Addr} (n : H p = none) {o : HO} {v : V} {d : D} : Step [] H [(some v, some ⟨false, d⟩)] (upd H p o) :=
  step_new n fun a ha => by rw [roots_fro] at ha; cases ha
theorem StR.freeze {v : V} {x : Val} (S : StR K mg oh H ((some v, some x) :: L)) : StR K mg oh H ((some v, some ⟨false, x.d⟩) :: L) := by
  obtain ⟨o, d⟩ := x
  cases o with
  | false => exact S
  | true =>
    obtain ⟨v', e, r⟩ := S.all _ List.mem_cons_self _ rfl
    cases e
    obtain ⟨a, rfl, ha, _⟩ := r.own_root
    have nd := S.nd
    rw [roots_ownG] at nd
    obtain ⟨n1, n3⟩ := List.nodup_cons.mp nd
    have n2 := (List.nodup_append.mp n3).2.1
    have na : ¬ oh a := S.dj a (by rw [roots_ownG]; exact List.mem_cons_self)
    have coolA : ∀ b ∈ a :: bx d, ¬ hotL oh ((some (V.ref a), some ⟨false, d⟩) :: L) b := by
      rintro b hb (q | q)
      · exact S.dj b (by rw [roots_ownG]; exact (List.mem_cons.mp hb).elim (fun e => by rw [e]; exact List.mem_cons_self) fun z => List.mem_cons_of_mem _ (List.mem_append_left _ z)) q
      · rw [roots_fro] at q
        rcases List.mem_cons.mp hb with e | z
        · rw [e] at q; exact n1 (List.mem_append_right _ q)
        · exact (List.nodup_append.mp n3).2.2 b z b q rfl
    have cool := coolA a List.mem_cons_self
    have kp : Keeps (hotL oh ((some (V.ref a), some ⟨true, d⟩) :: L)) (hotL oh ((some (V.ref a), some ⟨false, d⟩) :: L)) H H :=
      ⟨fun _ _ e _ _ => e, fun b o _ n q => n (q.elim .inl fun q => .inr (by rw [roots_fro] at q; rw [roots_ownG]; exact List.mem_cons_of_mem _ (List.mem_append_right _ q)))⟩
    refine ⟨fun p hp x hx => ?_, by rw [roots_fro]; exact n2, fun b hb => S.dj b (by rw [roots_fro] at hb; rw [roots_ownG]; exact List.mem_cons_of_mem _ (List.mem_append_right _ hb)), S.tr⟩
    rcases List.mem_cons.mp hp with rfl | hp
    · cases hx
      refine ⟨_, rfl, .fro ?_⟩
      cases r with
      | lst _ h2 r => exact .lst (.inl ⟨cool, .inl h2⟩) (r.mono kp)
      | dicK _ h2 e r => exact .dicK cool h2 e (r.mono kp)
      | ins _ h2 e r => exact .ins cool h2 e (r.mono kp)
      | dkt _ h2 e v r t => exact .dkt cool h2 e v (r.mono kp) (t.mono kp)
      | boxI _ h2 e rs => exact .box (.ins cool h2 ⟨e.cl, e.eq, e.nd⟩ (rs.cool kp fun b hb => coolA b (List.mem_cons_of_mem _ hb)))
      | boxT _ h2 rs => obtain ⟨o, po, h2⟩ := h2; exact .box (.tup (.inl ⟨cool, o, po, h2⟩) (rs.cool kp fun b hb => coolA b (List.mem_cons_of_mem _ hb)))
      | boxL _ h2 rs => exact .box (.lst (.inl ⟨cool, .inl h2⟩) (rs.cool kp fun b hb => coolA b (List.mem_cons_of_mem _ hb)))
      | boxD _ h2 e rs => exact .box (.dicK cool h2 e (rs.cool kp fun b hb => coolA b (List.mem_cons_of_mem _ hb)))
    · obtain ⟨w, e, q⟩ := S.all p (List.mem_cons_of_mem _ hp) x hx
      exact ⟨w, e, q.mono kp fun b hb => ⟨.inr (by rw [roots_fro]; exact mem_roots.mpr ⟨p, hp, by rw [cell_eq hx e]; exact hb⟩), rfl⟩⟩
theorem Step.freeze {v : V} {x : Val} (s : Step A H ((some v, some x) :: L) H') : Step A H ((some v, some ⟨false, x.d⟩) :: L) H' :=
  ⟨fun a o e n nt => s.keep a o e n nt, fun a ha => s.sub a (by rw [roots_fro] at ha; rw [roots_cons]; exact List.mem_append_right _ ha), s.dom⟩
theorem StR.head {v : V} {x : Val} (S : StR K mg oh H ((some v, some x) :: L)) : VR K mg (hotL oh ((some v, some x) :: L)) H v x := by
  obtain ⟨w, e, r⟩ := S.all _ List.mem_cons_self _ rfl
  cases e
  exact r
theorem StR.head_fro {v : V} {d : D} (S : StR K mg oh H ((some v, some ⟨false, d⟩) :: L)) : Rep K mg (hotL oh L) H v d := by
  have r := S.head
  have e : hotL oh ((some v, some ⟨false, d⟩) :: L) = hotL oh L := by unfold hotL; rw [roots_fro]
  rw [e] at r
  cases r with
  | fro r => exact r
theorem StR.put_lst {a : Addr} {ds es : List D} {ws : List V} (S : StR K mg oh H ((some (.ref a), some ⟨true, .lst ds⟩) :: L)) (r : Reps K mg (hotL oh ((some (.ref a), some ⟨true, .lst ds⟩) :: L)) H ws es) :
    StR K mg oh (upd H a (.lst ws)) ((some (.ref a), some ⟨true, .lst es⟩) :: L) ∧ Step ((some (.ref a), some ⟨true, .lst ds⟩) :: L) H ((some (.ref a), some ⟨true, .lst es⟩) :: L) (upd H a (.lst ws)) := by
  have T : StR K mg (hotL oh L) H [(some (.ref a), some ⟨true, .lst ds⟩)] := StR.split (A := [_]) S
  have ne : ∀ b o, H b = some o → b ∉ roots [((some (.ref a), some ⟨true, .lst ds⟩) : Cell)] → b ≠ a := fun b o _ n z => n (by subst z; rw [roots_own]; exact List.mem_cons_self)
  have st : Step [((some (.ref a), some ⟨true, .lst ds⟩) : Cell)] H [(some (.ref a), some ⟨true, .lst es⟩)] (upd H a (.lst ws)) :=
    ⟨fun b o e n _ => by rw [upd_ne (ne b o e n)]; exact e, fun b hb => .inl (by rw [roots_own] at hb ⊢; exact hb), fun b e => by
      by_cases q : b = a
      · subst q; rw [upd_same]; simp
      · rw [upd_ne q]; exact e⟩
  refine ⟨StR.frame (A := [_]) (A' := [_]) S ?_ st, Step.frame (A := [_]) (A' := [_]) st⟩
  have aPl : Pl H a := by
    obtain ⟨o, e, nw⟩ := T.root_nw (a := a) (by rw [roots_own]; exact List.mem_cons_self)
    exact .at e nw
  refine ⟨fun p hp x hx => ?_, by rw [roots_own]; exact List.nodup_cons.mpr ⟨by simp [roots], List.nodup_nil⟩, fun b hb => T.dj b (by rw [roots_own] at hb ⊢; exact hb), hot_upd T.tr aPl⟩
  obtain rfl := List.mem_singleton.mp hp
  cases hx
  refine ⟨_, rfl, .lst (.inr (by rw [roots_own]; exact List.mem_cons_self)) upd_same (r.mono ⟨fun b o e n _ => ?_, fun b o _ n q => n ?_⟩)⟩
  · rw [upd_ne fun z => n (.inr (by subst z; rw [roots_own]; exact List.mem_cons_self))]
    exact e
  · rcases q with (q | q) | q
    · exact .inl q
    · exact .inr (by rw [roots_own]; exact List.mem_cons_of_mem _ q)
    · rw [roots_own] at q
      exact .inr (by rw [roots_own]; simp [roots] at q; subst q; exact List.mem_cons_self)
end
end TL
namespace TL
open PySem PySem.Spec PyProof.Rows L2
abbrev WE := EnvD → (Val → EnvD → Prop) → Prop
inductive Opd where
  | sl (i : Nat) | tm (d : D)
def Opd.cell (v : V) : Opd → Cell
  | .sl _ => (some v, none)
  | .tm d => (some v, some (fz d))
def Opd.At (σ : L2.St) (v : V) : Opd → Prop
  | .sl i => σ[i]? = some (some v)
  | .tm _ => True
def Opd.res (env : EnvD) : Opd → Option D
  | .sl i => match env[i]? with
    | some (some x) => some x.d
    | _ => none
  | .tm d => some d
def resAll (env : EnvD) : List Opd → Option (List D)
  | [] => some []
  | o :: os => match o.res env, resAll env os with
    | some d, some ds => some (d :: ds)
    | _, _ => none
abbrev WX := EnvD → (Opd → EnvD → Prop) → Prop
abbrev WXs := EnvD → (List Opd → EnvD → Prop) → Prop
abbrev WT := EnvD → (Bool → EnvD → Prop) → Prop
def cells : List V → List Opd → Lay
  | v :: vs, o :: os => o.cell v :: cells vs os
  | _, _ => []
inductive OpdsAt (σ : L2.St) : List V → List Opd → Prop
  | nil : OpdsAt σ [] []
  | cons {v vs o os} : o.At σ v → OpdsAt σ vs os → OpdsAt σ (v :: vs) (o :: os)
section
variable (K : PySem.W.Frag) (mg : Str → Option Value)
def liftE (t : WE) : TE := fun σ H Q => ∃ (oh : Pr) (τ : Lay) (env : EnvD) (P : Val → EnvD → Prop), σ.length = env.length ∧ StR K mg oh H (τ ++ σ.zip env) ∧ t env P ∧
  ∀ v val env' H', σ.length = env'.length → StR K mg oh H' ((some v, some val) :: (τ ++ σ.zip env')) → Step (τ ++ σ.zip env) H ((some v, some val) :: (τ ++ σ.zip env')) H' → P val env' → Q v H'
def liftX (t : WX) : TE := fun σ H Q => ∃ (oh : Pr) (τ : Lay) (env : EnvD) (P : Opd → EnvD → Prop), σ.length = env.length ∧ StR K mg oh H (τ ++ σ.zip env) ∧ t env P ∧
  ∀ v o env' H', σ.length = env'.length → o.At σ v → StR K mg oh H' (o.cell v :: (τ ++ σ.zip env')) → Step (τ ++ σ.zip env) H (o.cell v :: (τ ++ σ.zip env')) H' → P o env' → Q v H'
def liftXs (t : WXs) : TA := fun σ H Q => ∃ (oh : Pr) (τ : Lay) (env : EnvD) (P : List Opd → EnvD → Prop), σ.length = env.length ∧ StR K mg oh H (τ ++ σ.zip env) ∧ t env P ∧
  ∀ vs os env' H', σ.length = env'.length → OpdsAt σ vs os → StR K mg oh H' (cells vs os ++ (τ ++ σ.zip env')) → Step (τ ++ σ.zip env) H (cells vs os ++ (τ ++ σ.zip env')) H' → P os env' → Q vs H'
def liftT (t : WT) : TT := fun σ H Q => ∃ (oh : Pr) (τ : Lay) (env : EnvD) (P : Bool → EnvD → Prop), σ.length = env.length ∧ StR K mg oh H (τ ++ σ.zip env) ∧ t env P ∧
  ∀ b env' H', σ.length = env'.length → StR K mg oh H' (τ ++ σ.zip env') → Step (τ ++ σ.zip env) H (τ ++ σ.zip env') H' → P b env' → Q b H'
end
theorem PEimp {X : Cx} {e : Expr} {t t' : TE} (h : PE X e t) (q : ∀ σ H Q, t' σ H Q → t σ H Q) : PE X e t' := ⟨fun pins s σ H Q I w => h.run pins s σ H Q I (q σ H Q w)⟩
theorem PTimp {X : Cx} {e : Expr} {t t' : TT} (h : PT X e t) (q : ∀ σ H Q, t' σ H Q → t σ H Q) : PT X e t' := ⟨fun pins s σ H Q I w => h.run pins s σ H Q I (q σ H Q w)⟩
theorem PWimp {X : Cx} {e : Expr} {t t' : TT} (h : PW X e t) (q : ∀ σ H Q, t' σ H Q → t σ H Q) : PW X e t' := ⟨fun wh pins s σ H Q I w => h.run wh pins s σ H Q I (q σ H Q w)⟩
theorem PAimp {X : Cx} {es : List Expr} {t t' : TA} (h : PA X es t) (q : ∀ σ H Q, t' σ H Q → t σ H Q) : PA X es t' := ⟨fun p pins s σ H Q I w => h.run p pins s σ H Q I (q σ H Q w)⟩
theorem PSimp {X : Cx} {e : Stmt} {t t' : TS} (h : PS X e t) (q : ∀ D σ H, t' D σ H → t D σ H) : PS X e t' := ⟨fun pins s σ H D I w => h.run pins s σ H D I (q D σ H w)⟩
theorem PSsimp {X : Cx} {e : List Stmt} {t t' : TS} (h : PSs X e t) (q : ∀ D σ H, t' D σ H → t D σ H) : PSs X e t' := ⟨fun pins s σ H D I w => h.run pins s σ H D I (q D σ H w)⟩
theorem zip_split {σ : L2.St} {env : EnvD} (hl : σ.length = env.length) : ∀ {i : Nat} {so : Option V} {eo : Option Val}, σ[i]? = some so → env[i]? = some eo →
    ∃ A B : Lay, σ.zip env = A ++ (so, eo) :: B ∧ ∀ so' eo', (σ.set i so').zip (env.set i eo') = A ++ (so', eo') :: B := by
  induction σ generalizing env with
  | nil => intro i so eo h; simp at h
  | cons s0 σ ih =>
    intro i so eo h1 h2
    cases env with
    | nil => simp at h2
    | cons e0 env =>
      cases i with
      | zero =>
        simp at h1 h2
        subst h1 h2
        exact ⟨[], σ.zip env, rfl, fun _ _ => rfl⟩
      | succ i =>
        obtain ⟨A, B, e, f⟩ := ih (env := env) (by simpa using hl) (i := i) (by simpa using h1) (by simpa using h2)
        exact ⟨(s0, e0) :: A, B, by rw [List.zip_cons_cons, e]; rfl, fun so' eo' => by rw [List.set_cons_succ, List.set_cons_succ, List.zip_cons_cons, f]; rfl⟩
theorem get_slot {K mg oh H τ} {σ : L2.St} {env : EnvD} (hl : σ.length = env.length) (S : StR K mg oh H (τ ++ σ.zip env)) {i : Nat} {x : Val} (h : env[i]? = some (some x)) :
    ∃ v, σ[i]? = some (some v) ∧ VR K mg (hotL oh (τ ++ σ.zip env)) H v x := by
  obtain ⟨hi, _⟩ := List.getElem?_eq_some_iff.mp h
  have hs : σ[i]? = some σ[i] := List.getElem?_eq_getElem (by omega)
  obtain ⟨A, B, e, _⟩ := zip_split hl hs h
  obtain ⟨v, e1, r⟩ := S.all (σ[i], some x) (by rw [e]; simp) x rfl
  exact ⟨v, by rw [hs]; exact congrArg some e1, r⟩
theorem perm_mid {A B τ : Lay} {c : Cell} : (τ ++ (A ++ c :: B)).Perm (c :: (τ ++ (A ++ B))) := by
  rw [← List.append_assoc, ← List.append_assoc]
  exact List.perm_middle
theorem roots_perm (h : L.Perm L') {a : Addr} : a ∈ roots L ↔ a ∈ roots L' := (List.Perm.flatMap_right rootP h).mem_iff
theorem Step.permR {L L1 L2 : Lay} {H H' : Hp} (s : Step L H L1 H') (h : L1.Perm L2) : Step L H L2 H' := ⟨fun a o e n nt => s.keep a o e n nt, fun a ha => s.sub a ((roots_perm h).mpr ha), s.dom⟩
theorem Step.permL {L L1 L2 : Lay} {H H' : Hp} (s : Step L H L1 H') (h : L.Perm L2) : Step L2 H L1 H' := ⟨fun a o e n nt => s.keep a o e (fun z => n ((roots_perm h).mp z)) nt, fun a ha => (s.sub a ha).imp (roots_perm h).mp id, s.dom⟩
theorem Step.lessR {L L1 L2 : Lay} {H H' : Hp} (s : Step L H L1 H') (h : ∀ a ∈ roots L2, a ∈ roots L1) : Step L H L2 H' := ⟨fun a o e n nt => s.keep a o e n nt, fun a ha => s.sub a (h a ha), s.dom⟩
theorem roots_sublist {A B : Lay} (h : A.Sublist B) : (roots A).Sublist (roots B) := by
  induction h with
  | slnil => exact List.Sublist.refl _
  | cons a _ ih => rw [roots_cons]; exact ih.trans (List.sublist_append_right _ _)
  | cons_cons a _ ih => rw [roots_cons, roots_cons]; exact List.Sublist.append_left ih _
theorem roots_app_sub {A B : Lay} : ∀ a ∈ roots B, a ∈ roots (A ++ B) := fun a h => by rw [roots_append]; exact List.mem_append_right _ h
theorem roots_cons_sub {c : Cell} {B : Lay} : ∀ a ∈ roots B, a ∈ roots (c :: B) := fun a h => by rw [roots_cons]; exact List.mem_append_right _ h
theorem rootP_cell {v : V} {o : Opd} : rootP (o.cell v) = [] := by
  cases o with
  | sl i => exact rootP_none
  | tm d => exact rootP_fro
theorem roots_cell {v : V} {o : Opd} {L : Lay} : roots (o.cell v :: L) = roots L := by rw [roots_cons, rootP_cell]; rfl
theorem roots_cells {L : Lay} : ∀ {vs : List V} {os : List Opd}, roots (cells vs os ++ L) = roots L
  | [], _ => by simp [cells]
  | _ :: _, [] => by simp [cells]
  | v :: vs, o :: os => by
    show roots (o.cell v :: (cells vs os ++ L)) = _
    rw [roots_cell, roots_cells]
theorem hot_cell {oh : Pr} {v : V} {o : Opd} {L : Lay} : hotL oh (o.cell v :: L) = hotL oh L := by unfold hotL; rw [roots_cell]
theorem hot_cells {oh : Pr} {vs : List V} {os : List Opd} {L : Lay} : hotL oh (cells vs os ++ L) = hotL oh L := by unfold hotL; rw [roots_cells]
def VRo (K : PySem.W.Frag) (mg : Str → Option Value) (hot : Pr) (H : Hp) (v : V) (d : D) : Prop := ∃ o, VR K mg hot H v ⟨o, d⟩
inductive VRos (K : PySem.W.Frag) (mg : Str → Option Value) (hot : Pr) (H : Hp) : List V → List D → Prop
  | nil : VRos K mg hot H [] []
  | cons {v vs d ds} : VRo K mg hot H v d → VRos K mg hot H vs ds → VRos K mg hot H (v :: vs) (d :: ds)
theorem opd_reads {K mg oh H τ} {σ : L2.St} {env : EnvD} (hl : σ.length = env.length) {A : Lay} (hA : ∀ {L : Lay}, hotL oh (A ++ L) = hotL oh L) (S : StR K mg oh H (A ++ (τ ++ σ.zip env))) {v : V} {o : Opd} {d : D}
    (ha : o.At σ v) (hc : o.cell v ∈ A) (hr : o.res env = some d) : VRo K mg (hotL oh (τ ++ σ.zip env)) H v d := by
  cases o with
  | sl i =>
    simp only [Opd.res] at hr
    split at hr
    · rename_i x he
      cases hr
      obtain ⟨w, e1, r⟩ := get_slot hl S.right he
      have e2 : σ[i]? = some (some v) := ha
      rw [e2] at e1
      cases e1
      exact ⟨x.own, r⟩
    · cases hr
  | tm d' =>
    cases hr
    obtain ⟨w, e1, r⟩ := S.all _ (List.mem_append_left _ hc) _ rfl
    cases e1
    rw [hA] at r
    exact ⟨false, r⟩
theorem mem_cells_head {v vs o os} : o.cell v ∈ cells (v :: vs) (o :: os) := List.mem_cons_self
theorem opds_read {K mg oh H τ} {σ : L2.St} {env : EnvD} (hl : σ.length = env.length) {A : Lay} (hA : ∀ {L : Lay}, hotL oh (A ++ L) = hotL oh L) (S : StR K mg oh H (A ++ (τ ++ σ.zip env))) :
    ∀ {vs : List V} {os : List Opd} {ds : List D}, OpdsAt σ vs os → (∀ c ∈ cells vs os, c ∈ A) → resAll env os = some ds → VRos K mg (hotL oh (τ ++ σ.zip env)) H vs ds
  | [], [], ds, _, _, hr => by cases hr; exact .nil
  | v :: vs, o :: os, ds, ha, hc, hr => by
    cases ha with
    | cons a1 a2 =>
      unfold resAll at hr
      split at hr
      · rename_i d ds' e1 e2
        cases hr
        exact .cons (opd_reads hl hA S a1 (hc _ mem_cells_head) e1) (opds_read hl hA S a2 (fun c hm => hc c (List.mem_cons_of_mem _ hm)) e2)
      · cases hr
abbrev PostF (K : PySem.W.Frag) (mg : Str → Option Value) (hot : Pr) (H : Hp) (P : Val → Prop) (Q : VK) : Prop :=
  ∀ v val H', StR K mg hot H' [(some v, some val)] → Step [] H [(some v, some val)] H' → P val → Q v H'
def BinL (K : PySem.W.Frag) (mg : Str → Option Value) (r : R2) (s : D → D → (Val → Prop) → Prop) : Prop :=
  ∀ (hot : Pr) (H : Hp) (x y : V) (dx dy : D) (P : Val → Prop) (Q : VK), (Hh K hot H) → VRo K mg hot H x dx → VRo K mg hot H y dy → s dx dy P → PostF K mg hot H P Q → r x y H Q
def UnL (K : PySem.W.Frag) (mg : Str → Option Value) (r : V → Hp → VK → Prop) (s : D → (Val → Prop) → Prop) : Prop :=
  ∀ (hot : Pr) (H : Hp) (x : V) (dx : D) (P : Val → Prop) (Q : VK), (Hh K hot H) → VRo K mg hot H x dx → s dx P → PostF K mg hot H P Q → r x H Q
def CallL (K : PySem.W.Frag) (mg : Str → Option Value) (r : List V → Hp → VK → Prop) (s : List D → (Val → Prop) → Prop) : Prop :=
  ∀ (hot : Pr) (H : Hp) (xs : List V) (ds : List D) (P : Val → Prop) (Q : VK), (Hh K hot H) → VRos K mg hot H xs ds → s ds P → PostF K mg hot H P Q → r xs H Q
section
variable {K : PySem.W.Frag} {mg : Str → Option Value} {oh : Pr} {H H' : Hp} {L : Lay} {Q : VK}
theorem over_cells {L0 : Lay} {H0 : Hp} {A : Lay} {v : V} {val : Val} (hA : ∀ {L : Lay}, roots (A ++ L) = roots L) (S : StR K mg oh H (A ++ L)) (s0 : Step L0 H0 (A ++ L) H)
    (T : StR K mg (hotL oh L) H' [(some v, some val)]) (s : Step [] H [(some v, some val)] H') : StR K mg oh H' ((some v, some val) :: L) ∧ Step L0 H0 ((some v, some val) :: L) H' := by
  have S' : StR K mg oh H L := S.right
  refine ⟨S'.push T s, ?_⟩
  have s1 : Step L0 H0 L H := s0.lessR fun a ha => by rw [hA]; exact ha
  exact s1.trans s.push
def wBin (s : D → D → (Val → Prop) → Prop) (ta tb : WX) : WE := fun env P => ta env fun oa env1 => tb env1 fun ob env2 => ∃ x y, oa.res env2 = some x ∧ ob.res env2 = some y ∧ s x y fun val => P val env2
theorem bin_lift {r : R2} {s : D → D → (Val → Prop) → Prop} (hl : BinL K mg r s) {ta tb : WX} {σ : L2.St} (h : liftE K mg (wBin s ta tb) σ H Q) :
    liftX K mg ta σ H fun x H1 => liftX K mg tb σ H1 fun y H2 => r x y H2 Q := by
  obtain ⟨oh, τ, env, P, e0, S, t, k⟩ := h
  refine ⟨oh, τ, env, _, e0, S, t, fun va oa env1 H1 e1 a1 S1 s1 t1 => ?_⟩
  refine ⟨oh, oa.cell va :: τ, env1, _, e1, S1, t1, fun vb ob env2 H2 e2 a2 S2 s2 ⟨x, y, rx, ry, q⟩ => ?_⟩
  have hA : ∀ {L : Lay}, roots ([ob.cell vb, oa.cell va] ++ L) = roots L := by
    intro L
    show roots (ob.cell vb :: oa.cell va :: L) = _
    rw [roots_cell, roots_cell]
  have hA2 : ∀ {L : Lay}, hotL oh ([ob.cell vb, oa.cell va] ++ L) = hotL oh L := by intro L; unfold hotL; rw [hA]
  have S2' : StR K mg oh H2 ([ob.cell vb, oa.cell va] ++ (τ ++ σ.zip env2)) := S2
  have h1 := opd_reads e2 hA2 S2' a1 (by simp) rx
  have h2 := opd_reads e2 hA2 S2' a2 (by simp) ry
  refine hl _ H2 va vb x y _ Q S2'.right.hots h1 h2 q fun v val H3 T st p => ?_
  obtain ⟨S3, s3⟩ := over_cells hA S2' (s1.trans s2) T st
  exact k v val env2 H3 e2 S3 s3 p
def wUn (s : D → (Val → Prop) → Prop) (ta : WX) : WE := fun env P => ta env fun oa env1 => ∃ x, oa.res env1 = some x ∧ s x fun val => P val env1
theorem un_lift {r : V → Hp → VK → Prop} {s : D → (Val → Prop) → Prop} (hl : UnL K mg r s) {ta : WX} {σ : L2.St} (h : liftE K mg (wUn s ta) σ H Q) : liftX K mg ta σ H fun x H1 => r x H1 Q := by
  obtain ⟨oh, τ, env, P, e0, S, t, k⟩ := h
  refine ⟨oh, τ, env, _, e0, S, t, fun va oa env1 H1 e1 a1 S1 s1 ⟨x, rx, q⟩ => ?_⟩
  have hA : ∀ {L : Lay}, roots ([oa.cell va] ++ L) = roots L := by intro L; exact roots_cell
  have hA2 : ∀ {L : Lay}, hotL oh ([oa.cell va] ++ L) = hotL oh L := by intro L; unfold hotL; rw [hA]
  have S1' : StR K mg oh H1 ([oa.cell va] ++ (τ ++ σ.zip env1)) := S1
  refine hl _ H1 va x _ Q S1'.right.hots (opd_reads e1 hA2 S1' a1 (by simp) rx) q fun v val H3 T st p => ?_
  obtain ⟨S3, s3⟩ := over_cells hA S1' s1 T st
  exact k v val env1 H3 e1 S3 s3 p
def wCall (s : List D → (Val → Prop) → Prop) (ts : WXs) : WE := fun env P => ts env fun os env1 => ∃ ds, resAll env1 os = some ds ∧ s ds fun val => P val env1
theorem call_lift {r : List V → Hp → VK → Prop} {s : List D → (Val → Prop) → Prop} (hl : CallL K mg r s) {ts : WXs} {σ : L2.St} (h : liftE K mg (wCall s ts) σ H Q) : liftXs K mg ts σ H fun xs H1 => r xs H1 Q := by
  obtain ⟨oh, τ, env, P, e0, S, t, k⟩ := h
  refine ⟨oh, τ, env, _, e0, S, t, fun vs os env1 H1 e1 a1 S1 s1 ⟨ds, rx, q⟩ => ?_⟩
  have hA : ∀ {L : Lay}, roots (cells vs os ++ L) = roots L := roots_cells
  refine hl _ H1 vs ds _ Q S1.right.hots (opds_read e1 hot_cells S1 a1 (fun _ h => h) rx) q fun v val H3 T st p => ?_
  obtain ⟨S3, s3⟩ := over_cells hA S1 s1 T st
  exact k v val env1 H3 e1 S3 s3 p
end
section
variable {X : Cx} {e : Expr} {es : List Expr} {pos : Pos} {i : Nat} {x : Str}
def wVarX (i : Nat) : WX := fun env P => (∃ x, env[i]? = some (some x)) ∧ P (.sl i) env
theorem px_var {K mg} (h : PE X (.Name x pos) (tVar i)) : PE X (.Name x pos) (liftX K mg (wVarX i)) := by
  refine PEimp h fun σ H Q w => ?_
  obtain ⟨oh, τ, env, P, e0, S, ⟨⟨x, hx⟩, p⟩, k⟩ := w
  obtain ⟨v, hv, _⟩ := get_slot e0 S hx
  refine ⟨v, hv, k v (.sl i) env H e0 hv ?_ ?_ p⟩
  · exact S.less (fun c hc => (List.mem_cons.mp hc).imp (fun e => by rw [e]; rfl) id) (by rw [roots_cell]; exact S.nd)
  · exact Step.refl.lessR fun a ha => by rw [roots_cell] at ha; exact ha
def wTm (t : WE) : WX := fun env P => t env fun val env1 => P (.tm val.d) env1
theorem px_tm {K mg} {t : WE} (h : PE X e (liftE K mg t)) : PE X e (liftX K mg (wTm t)) := by
  refine PEimp h fun σ H Q w => ?_
  obtain ⟨oh, τ, env, P, e0, S, t1, k⟩ := w
  exact ⟨oh, τ, env, _, e0, S, t1, fun v val env' H' e1 S1 s1 p => k v (.tm val.d) env' H' e1 trivial S1.freeze s1.freeze p⟩
def wVar (i : Nat) : WE := fun env P => ∃ x, env[i]? = some (some x) ∧ P (fz x.d) (env.set i (some (fz x.d)))
theorem pe_varD {K mg} (h : PE X (.Name x pos) (tVar i)) : PE X (.Name x pos) (liftE K mg (wVar i)) := by
  refine PEimp h fun σ H Q w => ?_
  obtain ⟨oh, τ, env, P, e0, S, ⟨x, hx, p⟩, k⟩ := w
  obtain ⟨v, hv, _⟩ := get_slot e0 S hx
  have hset : σ.set i (some v) = σ := by
    obtain ⟨hi, he⟩ := List.getElem?_eq_some_iff.mp hv
    rw [← he]; exact List.set_getElem_self hi
  obtain ⟨A, B, e1, e2⟩ := zip_split e0 hv hx
  have e3 : σ.zip (env.set i (some (fz x.d))) = A ++ (some v, some (fz x.d)) :: B := by
    have := e2 (some v) (some (fz x.d))
    rw [hset] at this
    exact this
  have S1 : StR K mg oh H ((some v, some x) :: (τ ++ (A ++ B))) := by rw [e1] at S; exact S.perm perm_mid
  have S2 : StR K mg oh H ((some v, some (fz x.d)) :: (τ ++ (A ++ B))) := S1.freeze
  have r := S2.head_fro
  have S3 : StR K mg oh H ((some v, some (fz x.d)) :: (τ ++ σ.zip (env.set i (some (fz x.d))))) := by
    have hp : (τ ++ σ.zip (env.set i (some (fz x.d)))).Perm ((some v, some (fz x.d)) :: (τ ++ (A ++ B))) := by rw [e3]; exact perm_mid
    have S2' := S2.perm hp.symm
    refine S2'.push (StR.one_fro S2'.hots ?_) Step.one_fro
    have e : hotL oh (τ ++ σ.zip (env.set i (some (fz x.d)))) = hotL oh (τ ++ (A ++ B)) := by
      funext a
      apply propext
      unfold hotL
      rw [roots_perm hp, roots_fro]
    rw [e]
    exact r
  refine ⟨v, hv, k v (fz x.d) _ H (by rw [List.length_set]; exact e0) S3 ?_ p⟩
  refine Step.refl.lessR fun a ha => ?_
  rw [roots_fro, e3] at ha
  rw [e1]
  have h1 := (roots_perm perm_mid).mp ha
  rw [roots_fro] at h1
  exact (roots_perm perm_mid).mpr (roots_cons_sub a h1)
def wXnil : WXs := fun env P => P [] env
def wXcons (t : WX) (ts : WXs) : WXs := fun env P => t env fun o env1 => ts env1 fun os env2 => P (o :: os) env2
theorem pa_nilD {K mg} : PA X [] (liftXs K mg wXnil) := PAimp pa_nil fun σ H Q w => by
  obtain ⟨oh, τ, env, P, e0, S, t, k⟩ := w
  exact k [] [] env H e0 .nil S Step.refl t
def noStar : Expr → Bool
  | .Starred _ _ => false
  | _ => true
theorem star_of {e : Expr} {es : List Expr} {env : Env} (h : noStar e = true) : starEach (e :: es) env = (false, eval e env) :: starEach es env := by
  cases e <;> first | rfl | cases h
theorem pa_consD {K mg} {t : WX} {ts : WXs} (h : PE X e (liftX K mg t)) (hs : PA X es (liftXs K mg ts)) (hn : noStar e = true) : PA X (e :: es) (liftXs K mg (wXcons t ts)) := by
  refine PAimp (pa_cons h hs (star_of hn)) fun σ H Q w => ?_
  obtain ⟨oh, τ, env, P, e0, S, t, k⟩ := w
  refine ⟨oh, τ, env, _, e0, S, t, fun v o env1 H1 e1 a1 S1 s1 t1 => ?_⟩
  refine ⟨oh, o.cell v :: τ, env1, _, e1, S1, t1, fun vs os env2 H2 e2 a2 S2 s2 p => ?_⟩
  have hp : (cells vs os ++ (o.cell v :: τ ++ σ.zip env2)).Perm (cells (v :: vs) (o :: os) ++ (τ ++ σ.zip env2)) := by
    show (cells vs os ++ o.cell v :: (τ ++ σ.zip env2)).Perm (o.cell v :: (cells vs os ++ (τ ++ σ.zip env2)))
    exact List.perm_middle
  exact k (v :: vs) (o :: os) env2 H2 e2 (.cons a1 a2) (S2.perm hp) ((s1.trans s2).permR hp) p
end
end TL
namespace TL
open PySem PySem.Spec PyProof.Rows L2
abbrev S2 := D → D → (Val → Prop) → Prop
abbrev S1 := D → (Val → Prop) → Prop
abbrev SN := List D → (Val → Prop) → Prop
def sAdd : S2
  | .int i, .int j, P => P (fz (.int (i + j)))
  | .str s, .str t, P => s.length + t.length ≤ 16777216 ∧ P (fz (.str (s ++ t)))
  | .lst xs, .lst ys, P => xs.length + ys.length ≤ 16777216 ∧ P ⟨true, .lst (xs ++ ys)⟩
  | .tup xs, .tup ys, P => xs.length + ys.length ≤ 16777216 ∧ P (fz (.tup (xs ++ ys)))
  | _, _, _ => False
def sMod : S2
  | .int i, .int j, P => 0 < j ∧ P (fz (.int (i % j)))
  | _, _, _ => False
def sPow : S2
  | .int i, .int j, P => (0 ≤ j ∧ j ≤ 1000000 ∧ i.natAbs < 2 ^ 64) ∧ P (fz (.int (i ^ j.toNat)))
  | _, _, _ => False
def sLt : S2
  | .int i, .int j, P => P (fz (.bl (decide (i < j))))
  | .str s, .str t, P => P (fz (.bl (decide (s.cps.toList < t.cps.toList))))
  | _, _, _ => False
def sGt : S2
  | .int i, .int j, P => P (fz (.bl (decide (j < i))))
  | _, _, _ => False
def sGe : S2
  | .int i, .int j, P => P (fz (.bl (decide (j ≤ i))))
  | _, _, _ => False
mutual
def toPy : D → Option PyData
  | .non => some .none
  | .bl b => some (.bool b)
  | .int i => some (.int i)
  | .str s => some (.str s)
  | .lst xs => (toPys xs).map .list
  | .tup xs => (toPys xs).map .tuple
  | .dic _ _ => none
  | .fn _ => none
  | .lse _ => none
  | .own _ _ => none
  | .ldc _ _ => none
  | .box _ => none
  | .al _ => none
  | .ins _ _ _ => none
  | .dkt _ _ => none
def toPys : List D → Option (List PyData)
  | [] => some []
  | x :: xs => match toPy x, toPys xs with
    | some y, some ys => some (y :: ys)
    | _, _ => none
end
def isNonD : D → Bool
  | .non => true
  | _ => false
mutual
def eqD : D → D → Bool
  | .non, .non => true
  | .bl a, .bl b => a == b
  | .bl a, .int j => (if a then 1 else 0) == j
  | .int i, .bl b => i == (if b then 1 else 0)
  | .int i, .int j => i == j
  | .str s, .str t => s == t
  | .lst xs, .lst ys => eqDs xs ys
  | .tup xs, .tup ys => eqDs xs ys
  | _, _ => false
def eqDs : List D → List D → Bool
  | [], [] => true
  | x :: xs, y :: ys => eqD x y && eqDs xs ys
  | _, _ => false
end
mutual
def pure' : D → Bool
  | .lst xs => pures xs
  | .tup xs => pures xs
  | .dic _ _ => false
  | .fn _ => false
  | .lse _ => false
  | .own _ _ => false
  | .ldc _ _ => false
  | .box _ => false
  | .al _ => false
  | .ins _ _ _ => false
  | .dkt _ _ => false
  | _ => true
def pures : List D → Bool
  | [] => true
  | x :: xs => pure' x && pures xs
end
mutual
def depthD : D → Nat
  | .lst xs => depthDs xs + 1
  | .tup xs => depthDs xs + 1
  | _ => 0
def depthDs : List D → Nat
  | [] => 0
  | x :: xs => max (depthD x) (depthDs xs)
end
def sEq (neg : Bool) : S2 := fun x y P => pure' x = true ∧ pure' y = true ∧ (depthD x ≤ 64 ∨ depthD y ≤ 64) ∧ P (fz (.bl (if neg then !eqD x y else eqD x y)))
mutual
theorem toPy_pure : ∀ d : D, pure' d = true → ∃ p, toPy d = some p
  | .non, _ => ⟨_, rfl⟩
  | .bl _, _ => ⟨_, rfl⟩
  | .int _, _ => ⟨_, rfl⟩
  | .str _, _ => ⟨_, rfl⟩
  | .lst xs, h => by
    obtain ⟨ps, e⟩ := toPys_pure xs (by simpa [pure'] using h)
    exact ⟨.list ps, by simp [toPy, e]⟩
  | .tup xs, h => by
    obtain ⟨ps, e⟩ := toPys_pure xs (by simpa [pure'] using h)
    exact ⟨.tuple ps, by simp [toPy, e]⟩
  | .dic _ _, h => by simp [pure'] at h
  | .fn _, h => by simp [pure'] at h
  | .lse _, h => by simp [pure'] at h
  | .own _ _, h => by simp [pure'] at h
  | .ldc _ _, h => by simp [pure'] at h
  | .box _, h => by simp [pure'] at h
  | .al _, h => by simp [pure'] at h
  | .ins _ _ _, h => by simp [pure'] at h
  | .dkt _ _, h => by simp [pure'] at h
theorem toPys_pure : ∀ ds : List D, pures ds = true → ∃ ps, toPys ds = some ps
  | [], _ => ⟨[], by simp [toPys]⟩
  | d :: ds, h => by
    simp only [pures, Bool.and_eq_true] at h
    obtain ⟨p, e1⟩ := toPy_pure d h.1
    obtain ⟨ps, e2⟩ := toPys_pure ds h.2
    exact ⟨p :: ps, by simp [toPys, e1, e2]⟩
end
theorem toPys_cons {x : D} {xs : List D} {ps : List PyData} (h : toPys (x :: xs) = some ps) : ∃ q qs, toPy x = some q ∧ toPys xs = some qs ∧ ps = q :: qs := by
  simp only [toPys] at h
  split at h
  · rename_i q qs h1 h2
    cases h
    exact ⟨_, _, h1, h2, rfl⟩
  · cases h
theorem toPy_lst {xs : List D} {p : PyData} (h : toPy (.lst xs) = some p) : ∃ ps, toPys xs = some ps ∧ p = .list ps := by
  simp only [toPy, Option.map_eq_some_iff] at h
  obtain ⟨ps, h1, rfl⟩ := h
  exact ⟨ps, h1, rfl⟩
theorem toPy_tup {xs : List D} {p : PyData} (h : toPy (.tup xs) = some p) : ∃ ps, toPys xs = some ps ∧ p = .tuple ps := by
  simp only [toPy, Option.map_eq_some_iff] at h
  obtain ⟨ps, h1, rfl⟩ := h
  exact ⟨ps, h1, rfl⟩
mutual
theorem eqv_toPy : ∀ (x y : D) (p q : PyData), toPy x = some p → toPy y = some q → PyData.eqv p q = eqD x y
  | .non, y, p, q, h, k => by
    cases h
    cases y with
    | lst _ => obtain ⟨_, _, rfl⟩ := toPy_lst k; simp [PyData.eqv, eqD]
    | tup _ => obtain ⟨_, _, rfl⟩ := toPy_tup k; simp [PyData.eqv, eqD]
    | dic _ _ => simp [toPy] at k
    | fn _ => simp [toPy] at k
    | lse _ => simp [toPy] at k
    | own _ _ => simp [toPy] at k
    | ldc _ _ => simp [toPy] at k
    | box _ => simp [toPy] at k
    | al => simp [toPy] at k
    | ins => simp [toPy] at k
    | dkt => simp [toPy] at k
    | _ => cases k; simp [PyData.eqv, eqD]
  | .bl a, y, p, q, h, k => by
    cases h
    cases y with
    | lst _ => obtain ⟨_, _, rfl⟩ := toPy_lst k; simp [PyData.eqv, eqD]
    | tup _ => obtain ⟨_, _, rfl⟩ := toPy_tup k; simp [PyData.eqv, eqD]
    | dic _ _ => simp [toPy] at k
    | fn _ => simp [toPy] at k
    | lse _ => simp [toPy] at k
    | own _ _ => simp [toPy] at k
    | ldc _ _ => simp [toPy] at k
    | box _ => simp [toPy] at k
    | al => simp [toPy] at k
    | ins => simp [toPy] at k
    | dkt => simp [toPy] at k
    | _ => cases k; simp [PyData.eqv, eqD]
  | .int a, y, p, q, h, k => by
    cases h
    cases y with
    | lst _ => obtain ⟨_, _, rfl⟩ := toPy_lst k; simp [PyData.eqv, eqD]
    | tup _ => obtain ⟨_, _, rfl⟩ := toPy_tup k; simp [PyData.eqv, eqD]
    | dic _ _ => simp [toPy] at k
    | fn _ => simp [toPy] at k
    | lse _ => simp [toPy] at k
    | own _ _ => simp [toPy] at k
    | ldc _ _ => simp [toPy] at k
    | box _ => simp [toPy] at k
    | al => simp [toPy] at k
    | ins => simp [toPy] at k
    | dkt => simp [toPy] at k
    | _ => cases k; simp [PyData.eqv, eqD]
  | .str a, y, p, q, h, k => by
    cases h
    cases y with
    | lst _ => obtain ⟨_, _, rfl⟩ := toPy_lst k; simp [PyData.eqv, eqD]
    | tup _ => obtain ⟨_, _, rfl⟩ := toPy_tup k; simp [PyData.eqv, eqD]
    | dic _ _ => simp [toPy] at k
    | fn _ => simp [toPy] at k
    | lse _ => simp [toPy] at k
    | own _ _ => simp [toPy] at k
    | ldc _ _ => simp [toPy] at k
    | box _ => simp [toPy] at k
    | al => simp [toPy] at k
    | ins => simp [toPy] at k
    | dkt => simp [toPy] at k
    | _ => cases k; simp [PyData.eqv, eqD]
  | .lst xs, y, p, q, h, k => by
    obtain ⟨ps, h1, rfl⟩ := toPy_lst h
    cases y with
    | lst ys =>
      obtain ⟨qs, k1, rfl⟩ := toPy_lst k
      simp only [PyData.eqv, eqD]
      exact eqv_toPys xs ys ps qs h1 k1
    | tup _ => obtain ⟨_, _, rfl⟩ := toPy_tup k; simp [PyData.eqv, eqD]
    | dic _ _ => simp [toPy] at k
    | fn _ => simp [toPy] at k
    | lse _ => simp [toPy] at k
    | own _ _ => simp [toPy] at k
    | ldc _ _ => simp [toPy] at k
    | box _ => simp [toPy] at k
    | al => simp [toPy] at k
    | ins => simp [toPy] at k
    | dkt => simp [toPy] at k
    | _ => cases k; simp [PyData.eqv, eqD]
  | .tup xs, y, p, q, h, k => by
    obtain ⟨ps, h1, rfl⟩ := toPy_tup h
    cases y with
    | tup ys =>
      obtain ⟨qs, k1, rfl⟩ := toPy_tup k
      simp only [PyData.eqv, eqD]
      exact eqv_toPys xs ys ps qs h1 k1
    | lst _ => obtain ⟨_, _, rfl⟩ := toPy_lst k; simp [PyData.eqv, eqD]
    | dic _ _ => simp [toPy] at k
    | fn _ => simp [toPy] at k
    | lse _ => simp [toPy] at k
    | own _ _ => simp [toPy] at k
    | ldc _ _ => simp [toPy] at k
    | box _ => simp [toPy] at k
    | al => simp [toPy] at k
    | ins => simp [toPy] at k
    | dkt => simp [toPy] at k
    | _ => cases k; simp [PyData.eqv, eqD]
  | .dic _ _, _, _, _, h, _ => by simp [toPy] at h
  | .fn _, _, _, _, h, _ => by simp [toPy] at h
  | .lse _, _, _, _, h, _ => by simp [toPy] at h
  | .own _ _, _, _, _, h, _ => by simp [toPy] at h
  | .ldc _ _, _, _, _, h, _ => by simp [toPy] at h
  | .box _, _, _, _, h, _ => by simp [toPy] at h
  | .al _, _, _, _, h, _ => by simp [toPy] at h
  | .ins _ _ _, _, _, _, h, _ => by simp [toPy] at h
  | .dkt _ _, _, _, _, h, _ => by simp [toPy] at h
theorem eqv_toPys : ∀ (xs ys : List D) (ps qs : List PyData), toPys xs = some ps → toPys ys = some qs → PyData.eqvAll ps qs = eqDs xs ys
  | [], [], ps, qs, h, k => by
    simp only [toPys, Option.some.injEq] at h k
    subst h k
    simp [PyData.eqvAll, eqDs]
  | [], y :: ys, ps, qs, h, k => by
    simp only [toPys, Option.some.injEq] at h
    subst h
    obtain ⟨_, _, _, _, rfl⟩ := toPys_cons k
    simp [PyData.eqvAll, eqDs]
  | x :: xs, [], ps, qs, h, k => by
    simp only [toPys, Option.some.injEq] at k
    subst k
    obtain ⟨_, _, _, _, rfl⟩ := toPys_cons h
    simp [PyData.eqvAll, eqDs]
  | x :: xs, y :: ys, ps, qs, h, k => by
    obtain ⟨p, ps', h1, h2, rfl⟩ := toPys_cons h
    obtain ⟨q, qs', k1, k2, rfl⟩ := toPys_cons k
    simp only [PyData.eqvAll, eqDs]
    rw [eqv_toPy x y p q h1 k1, eqv_toPys xs ys ps' qs' h2 k2]
end
mutual
theorem depth_toPy : ∀ (x : D) (p : PyData), toPy x = some p → p.depth = depthD x
  | .non, _, h => by cases h; simp [PyData.depth, depthD]
  | .bl _, _, h => by cases h; simp [PyData.depth, depthD]
  | .int _, _, h => by cases h; simp [PyData.depth, depthD]
  | .str _, _, h => by cases h; simp [PyData.depth, depthD]
  | .lst xs, _, h => by
    obtain ⟨ps, h1, rfl⟩ := toPy_lst h
    simp only [PyData.depth, depthD, depth_toPys xs ps h1]
  | .tup xs, _, h => by
    obtain ⟨ps, h1, rfl⟩ := toPy_tup h
    simp only [PyData.depth, depthD, depth_toPys xs ps h1]
  | .dic _ _, _, h => by simp [toPy] at h
  | .fn _, _, h => by simp [toPy] at h
  | .lse _, _, h => by simp [toPy] at h
  | .own _ _, _, h => by simp [toPy] at h
  | .ldc _ _, _, h => by simp [toPy] at h
  | .box _, _, h => by simp [toPy] at h
  | .al _, _, h => by simp [toPy] at h
  | .ins _ _ _, _, h => by simp [toPy] at h
  | .dkt _ _, _, h => by simp [toPy] at h
theorem depth_toPys : ∀ (xs : List D) (ps : List PyData), toPys xs = some ps → PyData.depthAll ps = depthDs xs
  | [], _, h => by
    simp only [toPys, Option.some.injEq] at h
    subst h
    simp [PyData.depthAll, depthDs]
  | x :: xs, _, h => by
    obtain ⟨p, ps', h1, h2, rfl⟩ := toPys_cons h
    simp only [PyData.depthAll, depthDs, depth_toPy x p h1, depth_toPys xs ps' h2]
end
section
variable {K : PySem.W.Frag} {mg : Str → Option Value} {hot : Pr} {H : Hp}
mutual
theorem Rep.dp : ∀ (d : D) (v : V) (p : PyData), Rep K mg hot H v d → toPy d = some p → Dp K H v p ∧ p.canLay0 = true
  | .non, _, _, r, h => by cases h; cases r; exact ⟨.non, by simp [PyData.canLay0]⟩
  | .bl _, _, _, r, h => by cases h; cases r; exact ⟨.bl _, by simp [PyData.canLay0]⟩
  | .int _, _, _, r, h => by cases h; cases r; exact ⟨.int _, by simp [PyData.canLay0]⟩
  | .str _, _, _, r, h => by
    cases h
    cases r with
    | str _ hs => exact ⟨.str _, by simpa [PyData.canLay0] using hs⟩
  | .lst xs, _, _, r, h => by
    obtain ⟨ps, h1, rfl⟩ := toPy_lst h
    cases r with
    | lst hl rs =>
      obtain ⟨a, b⟩ := Reps.dps xs _ ps rs h1
      exact ⟨.lst hl.sq a, by simpa [PyData.canLay0] using b⟩
  | .tup xs, _, _, r, h => by
    obtain ⟨ps, h1, rfl⟩ := toPy_tup h
    cases r with
    | tup hl rs =>
      obtain ⟨a, b⟩ := Reps.dps xs _ ps rs h1
      exact ⟨.tup hl.sq a, by simpa [PyData.canLay0] using b⟩
  | .dic _ _, _, _, _, h => by simp [toPy] at h
  | .fn _, _, _, _, h => by simp [toPy] at h
  | .lse _, _, _, _, h => by simp [toPy] at h
  | .own _ _, _, _, _, h => by simp [toPy] at h
  | .ldc _ _, _, _, _, h => by simp [toPy] at h
  | .box _, _, _, _, h => by simp [toPy] at h
  | .al _, _, _, _, h => by simp [toPy] at h
  | .ins _ _ _, _, _, _, h => by simp [toPy] at h
  | .dkt _ _, _, _, _, h => by simp [toPy] at h
theorem Reps.dps : ∀ (ds : List D) (vs : List V) (ps : List PyData), Reps K mg hot H vs ds → toPys ds = some ps → DpAll K H vs ps ∧ PyData.canLayAll0 ps = true
  | [], _, _, r, h => by
    cases r
    simp only [toPys, Option.some.injEq] at h
    subst h
    exact ⟨.nil, by simp [PyData.canLayAll0]⟩
  | d :: ds, _, _, r, h => by
    obtain ⟨p, ps', h1, h2, rfl⟩ := toPys_cons h
    cases r with
    | cons r1 r2 =>
      obtain ⟨a1, b1⟩ := Rep.dp d _ p r1 h1
      obtain ⟨a2, b2⟩ := Reps.dps ds _ ps' r2 h2
      exact ⟨.cons a1 a2, by simp [PyData.canLayAll0, b1, b2]⟩
end
theorem VRo.dp {d : D} {v : V} {p : PyData} (r : VRo K mg hot H v d) (h : toPy d = some p) : Dp K H v p ∧ p.canLay0 = true := by
  obtain ⟨o, r⟩ := r
  cases r with
  | fro r => exact r.dp _ _ _ h
  | lst _ h2 rs =>
    obtain ⟨ps, h1, rfl⟩ := toPy_lst h
    obtain ⟨a, b⟩ := Reps.dps _ _ ps rs h1
    exact ⟨.lst (.inl (.inl h2)) a, by simpa [PyData.canLay0] using b⟩
  | dicK _ _ _ _ => simp [toPy] at h
  | boxT _ _ _ => simp [toPy] at h
  | boxL _ _ _ => simp [toPy] at h
  | boxD _ _ _ _ => simp [toPy] at h
  | ins _ _ _ _ => simp [toPy] at h
  | dkt _ _ _ _ _ _ => simp [toPy] at h
  | boxI _ _ _ _ => simp [toPy] at h
theorem VRo.lst {xs : List D} {v : V} (r : VRo K mg hot H v (.lst xs)) : ∃ a vs, v = .ref a ∧ SqL K H a vs ∧ Reps K mg hot H vs xs := by
  obtain ⟨o, r⟩ := r
  cases r with
  | fro r =>
    cases r with
    | lst hl rs => exact ⟨_, _, rfl, hl.sq, rs⟩
  | lst _ h2 rs => exact ⟨_, _, rfl, .inl (.inl h2), rs⟩
theorem VRo.tup {xs : List D} {v : V} (r : VRo K mg hot H v (.tup xs)) : ∃ a vs, v = .ref a ∧ SqT K H a vs ∧ Reps K mg hot H vs xs := by
  obtain ⟨o, r⟩ := r
  cases r with
  | fro r =>
    cases r with
    | tup hl rs => exact ⟨_, _, rfl, hl.sq, rs⟩
theorem VRo.int {i : Int} {v : V} (r : VRo K mg hot H v (.int i)) : v = .int i := by
  obtain ⟨o, r⟩ := r
  cases r with
  | fro r => cases r; rfl
theorem VRo.str {s : Str} {v : V} (r : VRo K mg hot H v (.str s)) : v = .str s ∧ PyData.strOk s = true := by
  obtain ⟨o, r⟩ := r
  cases r with
  | fro r => cases r; exact ⟨rfl, by assumption⟩
theorem VRo.bl {b : Bool} {v : V} (r : VRo K mg hot H v (.bl b)) : v = .bl b := by
  obtain ⟨o, r⟩ := r
  cases r with
  | fro r => cases r; rfl
theorem VRo.non {v : V} (r : VRo K mg hot H v .non) : v = .non := by
  obtain ⟨o, r⟩ := r
  cases r with
  | fro r => cases r; rfl
theorem VRo.of {v : V} {d : D} (r : Rep K mg hot H v d) : VRo K mg hot H v d := ⟨false, .fro r⟩
theorem VRo.not_non {v : V} {d : D} (r : VRo K mg hot H v d) : decide (v = .non) = isNonD d := by
  obtain ⟨o, r⟩ := r
  cases r with
  | fro r => cases r <;> rfl
  | lst _ _ _ => rfl
  | dicK _ _ _ _ => rfl
  | boxT _ _ _ => rfl
  | boxL _ _ _ => rfl
  | boxD _ _ _ _ => rfl
  | ins _ _ _ _ => rfl
  | dkt _ _ _ _ _ _ => rfl
  | boxI _ _ _ _ => rfl
variable {P : Val → Prop} {Q : VK}
theorem post_fz (hh : Hh K hot H) (k : PostF K mg hot H P Q) {v : V} {d : D} (r : Rep K mg hot H v d) (p : P (fz d)) : Q v H := k v (fz d) H (StR.one_fro hh r) Step.one_fro p
theorem post_lst (hh : Hh K hot H) (k : PostF K mg hot H P Q) {p : Addr} (n : H p = none) {vs : List V} {ds : List D} (r : Reps K mg hot H vs ds) (q : P ⟨true, .lst ds⟩) : Q (.ref p) (upd H p (.lst vs)) :=
  k _ ⟨true, .lst ds⟩ _ (StR.new_lst hh n r) (Step.new_lst n) q
theorem post_tup (hh : Hh K hot H) (k : PostF K mg hot H P Q) {p : Addr} (n : H p = none) {o : Obj} (po : PTu o) {vs : List V} {ds : List D} (r : Reps K mg hot H vs ds) (q : P (fz (.tup ds))) : Q (.ref p) (newT H p o vs) :=
  k _ (fz (.tup ds)) _ (StR.new_tup hh n po r) (Step.new_fro n) q
end
theorem slen : (sizeLine : Nat) = 16777216 := sizeLine_eq
section
variable {X : Cx}
def rCatL (K : PySem.W.Frag) : R2 := fun x y H Q => ∃ l b xs ys, x = .ref l ∧ y = .ref b ∧ SqL K H l xs ∧ SqL K H b ys ∧ xs.length + ys.length ≤ sizeLine ∧ ∀ p, H p = none → Q (.ref p) (upd H p (.lst (xs ++ ys)))
theorem op_catL : OpR X (binaryOp .Add) (rCatL X.K) := by
  intro pins s σ H x y v u Q I rx ry h
  obtain ⟨l, b, xs, ys, rfl, rfl, hl, hb, hz, q⟩ := h
  cases rx
  cases ry
  obtain ⟨its, r1, ⟨o1, n1, e1, c1, _, d1⟩, _⟩ := I.list hl
  obtain ⟨its2, r2, ⟨o2, n2, e2, c2, _, d2⟩, _⟩ := I.list hb
  obtain ⟨cls1, dd1, dat1, sl1⟩ := o1
  obtain ⟨cls2, dd2, dat2, sl2⟩ := o2
  simp only at c1 d1 c2 d2
  subst c1 d1 c2 d2
  have ez : its.toArray ++ its2.toArray = (its ++ its2).toArray := by simp
  have l1 := r1.length
  have l2 := r2.length
  refine concat_meets (S := _) ⟨_, e1, rfl⟩ ⟨_, e2, rfl⟩ noFill_list_add seq_list_add PySem.F.slot_list_add PySem.F.entry_list_add (PySem.F.args_list_add_2 _ _)
    (list_addW l b its.toArray its2.toArray n1 n2 dd1 dd2 sl1 sl2 (by simp only [List.size_toArray]; omega)) ⟨e1, e2, ?_⟩
  rw [ez]
  exact ⟨.ref _, _, I.lnew (t' := s.toks) (r1.append r2) (by rw [List.length_append]; omega), rfl, q _ I.fresh⟩
end
end TL
namespace TL
open PySem PySem.Spec PyProof.Rows L2
section
variable {K : PySem.W.Frag} {mg : Str → Option Value} {X : Cx}
theorem BinL.or {r r' : R2} {s s' : S2} (h : BinL K mg r s) (h' : BinL K mg r' s') : BinL K mg (fun x y H Q => r x y H Q ∨ r' x y H Q) (fun x y P => s x y P ∨ s' x y P) :=
  fun hot H x y dx dy P Q hh rx ry q k => q.elim (fun q => .inl (h hot H x y dx dy P Q hh rx ry q k)) fun q => .inr (h' hot H x y dx dy P Q hh rx ry q k)
def rAddAll (K : PySem.W.Frag) : R2 := fun x y H Q => rI0 (fun i j => .int (i + j)) x y H Q ∨ (∃ i j, x = .str i ∧ y = .str j ∧ i.length + j.length ≤ sizeLine ∧ Q (.str (i ++ j)) H) ∨ rCatL K x y H Q ∨ rCatN K x y H Q
theorem or_add : OpR X (binaryOp .Add) (rAddAll X.K) := OpR.or op_add (OpR.or op_add_str (OpR.or op_catL op_catN))
theorem strOk_app {s t : Str} (h : PyData.strOk s = true) (k : PyData.strOk t = true) : PyData.strOk (s ++ t) = true := by
  show (Str.cps (s ++ t)).all _ = true
  have e : Str.cps (s ++ t) = s.cps ++ t.cps := rfl
  rw [e, Array.all_append, Bool.and_eq_true]
  exact ⟨h, k⟩
theorem bl_add : BinL K mg (rAddAll K) sAdd := by
  intro hot H x y dx dy P Q hh rx ry q k
  cases dx <;> cases dy <;> simp only [sAdd] at q <;> try exact q.elim
  · exact .inl ⟨_, _, rx.int, ry.int, post_fz hh k (.int _) q⟩
  · obtain ⟨rfl, o1⟩ := rx.str
    obtain ⟨rfl, o2⟩ := ry.str
    exact .inr (.inl ⟨_, _, rfl, rfl, by rw [slen]; exact q.1, post_fz hh k (.str _ (strOk_app o1 o2)) q.2⟩)
  · obtain ⟨a, vs, rfl, h1, r1⟩ := rx.lst
    obtain ⟨b, ws, rfl, h2, r2⟩ := ry.lst
    exact .inr (.inr (.inl ⟨a, b, vs, ws, rfl, rfl, h1, h2, by rw [slen, r1.length, r2.length]; exact q.1, fun p n => post_lst hh k n (r1.append r2) q.2⟩))
  · rename_i xs ys
    obtain ⟨o1, R1⟩ := id rx
    obtain ⟨o2, R2⟩ := id ry
    obtain ⟨a, vs, rfl, h1, r1⟩ := rx.tup
    obtain ⟨b, ws, rfl, h2, r2⟩ := ry.tup
    have f1 : Rep K mg hot H (.ref a) (.tup xs) := by cases R1 with | fro r => exact r
    have f2 : Rep K mg hot H (.ref b) (.tup ys) := by cases R2 with | fro r => exact r
    refine .inr (.inr (.inr ⟨a, b, vs, ws, rfl, rfl, h1, h2, by rw [slen, r1.length, r2.length]; exact q.1, fun z => ?_, fun _ z => ?_, fun _ _ p o n po => post_tup hh k n po (r1.append r2) q.2⟩))
    · subst z
      have z := r1.length
      have e : ∀ {l : List D}, ([] : List V).length = l.length → l = [] := fun h => List.length_eq_zero_iff.mp h.symm
      rw [e z] at q
      exact post_fz hh k f2 (by simpa using q.2)
    · subst z
      have z := r2.length
      have e : ∀ {l : List D}, ([] : List V).length = l.length → l = [] := fun h => List.length_eq_zero_iff.mp h.symm
      rw [e z] at q
      exact post_fz hh k f1 (by simpa using q.2)
theorem bl_mod : BinL K mg (rI (fun _ j => 0 < j) fun i j => .int (i % j)) sMod := by
  intro hot H x y dx dy P Q hh rx ry q k
  cases dx <;> cases dy <;> simp only [sMod] at q <;> try exact q.elim
  exact ⟨_, _, rx.int, ry.int, q.1, post_fz hh k (.int _) q.2⟩
theorem bl_pow : BinL K mg (rI CPow fun i j => .int (i ^ j.toNat)) sPow := by
  intro hot H x y dx dy P Q hh rx ry q k
  cases dx <;> cases dy <;> simp only [sPow] at q <;> try exact q.elim
  exact ⟨_, _, rx.int, ry.int, q.1, post_fz hh k (.int _) q.2⟩
def rLtAll : R2 := fun x y H Q => rI0 (fun i j => .bl (decide (i < j))) x y H Q ∨ ∃ i j, x = .str i ∧ y = .str j ∧ Q (.bl (decide (i.cps.toList < j.cps.toList))) H
theorem or_lt : OpR X (compareOp .Lt) rLtAll := OpR.or op_lt op_lt_str
theorem bl_lt : BinL K mg rLtAll sLt := by
  intro hot H x y dx dy P Q hh rx ry q k
  cases dx <;> cases dy <;> simp only [sLt] at q <;> try exact q.elim
  · exact .inl ⟨_, _, rx.int, ry.int, post_fz hh k (.bl _) q⟩
  · exact .inr ⟨_, _, rx.str.1, ry.str.1, post_fz hh k (.bl _) q⟩
theorem bl_gt : BinL K mg (rI0 fun i j => .bl (decide (j < i))) sGt := by
  intro hot H x y dx dy P Q hh rx ry q k
  cases dx <;> cases dy <;> simp only [sGt] at q <;> try exact q.elim
  exact ⟨_, _, rx.int, ry.int, post_fz hh k (.bl _) q⟩
theorem bl_ge : BinL K mg (rI0 fun i j => .bl (decide (j ≤ i))) sGe := by
  intro hot H x y dx dy P Q hh rx ry q k
  cases dx <;> cases dy <;> simp only [sGe] at q <;> try exact q.elim
  exact ⟨_, _, rx.int, ry.int, post_fz hh k (.bl _) q⟩
def rEqX (K : PySem.W.Frag) (neg : Bool) : R2 := fun x y H Q => ∃ d e, Dp K H x d ∧ Dp K H y e ∧ d.canLay0 = true ∧ e.canLay0 = true ∧ min d.depth e.depth ≤ 64 ∧ Q (.bl (if neg then !PyData.eqv d e else PyData.eqv d e)) H
theorem or_eq (hu : X.A.units + 64 < cLine) : OpR X (compareOp .Eq) (rEqX X.K false) := by
  intro pins s σ H x y v u Q I rx ry h
  obtain ⟨d, e, hd, he, sd, se, hm, q⟩ := h
  obtain ⟨as, r1⟩ := Dp.reads I d x v hd rx
  obtain ⟨bs, r2⟩ := Dp.reads I e y u he ry
  exact SeqAt.compareEq_reads r1 r2 sd se (by omega) ⟨.bl _, H, I, rfl, q⟩
theorem or_ne (hu : X.A.units + 64 < cLine) : OpR X (compareOp .NotEq) (rEqX X.K true) := by
  intro pins s σ H x y v u Q I rx ry h
  obtain ⟨d, e, hd, he, sd, se, hm, q⟩ := h
  obtain ⟨as, r1⟩ := Dp.reads I d x v hd rx
  obtain ⟨bs, r2⟩ := Dp.reads I e y u he ry
  exact SeqAt.compareNe_reads r1 r2 sd se (by omega) ⟨.bl _, H, I, rfl, q⟩
theorem bl_eq (neg : Bool) : BinL K mg (rEqX K neg) (sEq neg) := by
  intro hot H x y dx dy P Q hh rx ry q k
  obtain ⟨p1, p2, dp, p⟩ := q
  obtain ⟨d, e1⟩ := toPy_pure dx p1
  obtain ⟨e, e2⟩ := toPy_pure dy p2
  obtain ⟨h1, c1⟩ := rx.dp e1
  obtain ⟨h2, c2⟩ := ry.dp e2
  refine ⟨d, e, h1, h2, c1, c2, ?_, ?_⟩
  · rw [depth_toPy _ _ e1, depth_toPy _ _ e2]; omega
  · rw [eqv_toPy _ _ _ _ e1 e2]
    exact post_fz hh k (.bl _) p
theorem or_is : OpR X (compareOp .Is) (fun x y H Q => y = .non ∧ Q (.bl (decide (x = .non))) H) := op_isN
theorem or_isnot : OpR X (compareOp .IsNot) (fun x y H Q => y = .non ∧ Q (.bl (!decide (x = .non))) H) := op_notN
def sIs (neg : Bool) : S2
  | x, .non, P => P (fz (.bl (if neg then !isNonD x else isNonD x)))
  | _, _, _ => False
theorem bl_is : BinL K mg (fun x y H Q => y = .non ∧ Q (.bl (decide (x = .non))) H) (sIs false) := by
  intro hot H x y dx dy P Q hh rx ry q k
  cases dy <;> simp only [sIs] at q <;> try exact q.elim
  refine ⟨ry.non, ?_⟩
  rw [rx.not_non]
  exact post_fz hh k (.bl _) q
theorem bl_isnot : BinL K mg (fun x y H Q => y = .non ∧ Q (.bl (!decide (x = .non))) H) (sIs true) := by
  intro hot H x y dx dy P Q hh rx ry q k
  cases dy <;> simp only [sIs] at q <;> try exact q.elim
  refine ⟨ry.non, ?_⟩
  rw [rx.not_non]
  exact post_fz hh k (.bl _) q
def flatD : D → Bool
  | .non | .bl _ | .int _ | .str _ => true
  | _ => false
def inD (x : D) (xs : List D) : Bool := xs.any fun y => eqD y x
def sIn (neg : Bool) : S2
  | x, .lst xs, P => flatD x = true ∧ xs.all flatD = true ∧ P (fz (.bl (if neg then !inD x xs else inD x xs)))
  | x, .tup xs, P => flatD x = true ∧ xs.all flatD = true ∧ P (fz (.bl (if neg then !inD x xs else inD x xs)))
  | .str s, .str t, P => P (fz (.bl (if neg then !!(Builtin.Str.occurrences t s 0 t.length 1).isEmpty else !(Builtin.Str.occurrences t s 0 t.length 1).isEmpty)))
  | _, _, _ => False
theorem rep_flat {hot : Pr} {H : Hp} {v : V} {d : D} (r : VRo K mg hot H v d) (f : flatD d = true) : (∀ w e, VRo K mg hot H w e → flatD e = true → eqV w v = eqD e d) ∧ flatV v = true := by
  cases d with
  | non =>
    obtain rfl := r.non
    refine ⟨fun w e q g => ?_, rfl⟩
    cases e with
    | non => obtain rfl := q.non; rfl
    | bl b => obtain rfl := q.bl; rfl
    | int i => obtain rfl := q.int; rfl
    | str s => obtain ⟨rfl, _⟩ := q.str; rfl
    | _ => cases g
  | bl b =>
    obtain rfl := r.bl
    refine ⟨fun w e q g => ?_, rfl⟩
    cases e with
    | non => obtain rfl := q.non; rfl
    | bl b => obtain rfl := q.bl; simp [eqV, eqD]
    | int i => obtain rfl := q.int; simp [eqV, eqD]
    | str s => obtain ⟨rfl, _⟩ := q.str; rfl
    | _ => cases g
  | int i =>
    obtain rfl := r.int
    refine ⟨fun w e q g => ?_, rfl⟩
    cases e with
    | non => obtain rfl := q.non; rfl
    | bl b => obtain rfl := q.bl; simp [eqV, eqD]
    | int i => obtain rfl := q.int; simp [eqV, eqD]
    | str s => obtain ⟨rfl, _⟩ := q.str; rfl
    | _ => cases g
  | str s =>
    obtain ⟨rfl, _⟩ := r.str
    refine ⟨fun w e q g => ?_, rfl⟩
    cases e with
    | non => obtain rfl := q.non; rfl
    | bl b => obtain rfl := q.bl; rfl
    | int i => obtain rfl := q.int; rfl
    | str s => obtain ⟨rfl, _⟩ := q.str; simp [eqV, eqD]
    | _ => cases g
  | _ => cases f
theorem inV_inD {hot : Pr} {H : Hp} {v : V} {d : D} (r : VRo K mg hot H v d) (f : flatD d = true) : ∀ {vs : List V} {ds : List D}, Reps K mg hot H vs ds → ds.all flatD = true → inV v vs = inD d ds ∧ vs.all flatV = true
  | _, _, .nil, _ => ⟨rfl, rfl⟩
  | _, _, .cons h t, g => by
    rw [List.all_cons, Bool.and_eq_true] at g
    obtain ⟨e1, e2⟩ := inV_inD r f t g.2
    have h1 := (rep_flat r f).1 _ _ (.of h) g.1
    refine ⟨?_, ?_⟩
    · unfold inV inD at e1 ⊢
      rw [List.any_cons, List.any_cons, h1, e1]
    · rw [List.all_cons, e2, (rep_flat (.of h) g.1).2]; rfl
def rInAll (K : PySem.W.Frag) (neg : Bool) : R2 := fun x y H Q => rIn K neg x y H Q ∨ ∃ i j, x = .str i ∧ y = .str j ∧ Q (.bl (if neg then !!(Builtin.Str.occurrences j i 0 j.length 1).isEmpty else !(Builtin.Str.occurrences j i 0 j.length 1).isEmpty)) H
theorem or_in : OpR X (compareOp .In) (rInAll X.K false) := OpR.or op_in_seq op_in_str
theorem or_notin : OpR X (compareOp .NotIn) (rInAll X.K true) := OpR.or op_notIn_seq op_notin_str
theorem bl_in (neg : Bool) : BinL K mg (rInAll K neg) (sIn neg) := by
  intro hot H x y dx dy P Q hh rx ry q k
  cases dy with
  | lst xs =>
    obtain ⟨q1, q2, q⟩ : flatD dx = true ∧ xs.all flatD = true ∧ P (fz (.bl (if neg then !inD dx xs else inD dx xs))) := by cases dx <;> exact q
    obtain ⟨a, vs, rfl, h1, r1⟩ := ry.lst
    obtain ⟨e1, e2⟩ := inV_inD rx q1 r1 q2
    exact .inl ⟨a, vs, rfl, .inl h1, (rep_flat rx q1).2, e2, by rw [e1]; exact post_fz hh k (.bl _) q⟩
  | tup xs =>
    obtain ⟨q1, q2, q⟩ : flatD dx = true ∧ xs.all flatD = true ∧ P (fz (.bl (if neg then !inD dx xs else inD dx xs))) := by cases dx <;> exact q
    obtain ⟨a, vs, rfl, h1, r1⟩ := ry.tup
    obtain ⟨e1, e2⟩ := inV_inD rx q1 r1 q2
    exact .inl ⟨a, vs, rfl, .inr h1, (rep_flat rx q1).2, e2, by rw [e1]; exact post_fz hh k (.bl _) q⟩
  | str t =>
    cases dx <;> simp only [sIn] at q <;> try exact q.elim
    exact .inr ⟨_, _, rx.str.1, ry.str.1, post_fz hh k (.bl _) q⟩
  | _ => cases dx <;> exact q.elim
def sIx : S2
  | .lst xs, .int i, P => ∃ d, atI xs i = some d ∧ P (fz d)
  | .tup xs, .int i, P => ∃ d, atI xs i = some d ∧ P (fz d)
  | .str z, .int i, P => z.length ≤ 16777216 ∧ ∃ c, atI z.cps.toList i = some c ∧ P (fz (.str ⟨#[c]⟩))
  | _, _, _ => False
theorem atI_rep {hot : Pr} {H : Hp} {vs : List V} {ds : List D} {i : Int} {d : D} (r : Reps K mg hot H vs ds) (h : atI ds i = some d) : ∃ v, atI vs i = some v ∧ Rep K mg hot H v d := by
  unfold atI at h ⊢
  rw [r.length]
  cases e : ixN ds.length i with
  | none => rw [e] at h; cases h
  | some j =>
    rw [e] at h
    exact r.get h
theorem bl_ix : BinL K mg (rIx K) sIx := by
  intro hot H x y dx dy P Q hh rx ry q k
  cases dx <;> cases dy <;> simp only [sIx] at q <;> try exact q.elim
  · obtain ⟨h1, c, h2, q⟩ := q
    obtain ⟨rfl, o1⟩ := rx.str
    refine .inr (.inr ⟨_, _, c, rfl, ry.int, by rw [slen]; exact h1, h2, post_fz hh k (.str _ ?_) q⟩)
    show (#[c] : Array Nat).all _ = true
    have hc : c ∈ Str.cps ‹_› := by
      unfold atI at h2
      obtain ⟨j, _, e⟩ := Option.bind_eq_some_iff.mp h2
      exact Array.mem_toList_iff.mp (List.mem_of_getElem? e)
    have := Array.all_eq_true_iff_forall_mem.mp o1 c hc
    simpa using this
  · obtain ⟨d, h1, q⟩ := q
    obtain ⟨a, vs, rfl, h2, r1⟩ := rx.lst
    obtain ⟨v, e, r⟩ := atI_rep r1 h1
    exact .inl ⟨a, vs, _, v, rfl, ry.int, h2, e, post_fz hh k r q⟩
  · obtain ⟨d, h1, q⟩ := q
    obtain ⟨a, vs, rfl, h2, r1⟩ := rx.tup
    obtain ⟨v, e, r⟩ := atI_rep r1 h1
    exact .inr (.inl ⟨a, vs, _, v, rfl, ry.int, h2, e, post_fz hh k r q⟩)
end
end TL
namespace TL
open PySem PySem.Spec PyProof.Rows L2
def reprD (d : D) : Str := match toPy d with
  | some p => p.shown
  | none => Str.empty
mutual
def costD : D → Nat
  | .non => 4
  | .bl _ => 5
  | .int i => if i.natAbs < 10 ^ 30 then 31 else if i.natAbs < 10 ^ 39 then 40 else 1000000000
  | .str s => 10 * s.length + 2
  | .lst xs => costDs xs + 3
  | .tup xs => costDs xs + 3
  | .dic _ _ => 1000000000
  | .fn _ => 1000000000
  | .lse _ => 1000000000
  | .own _ _ => 1000000000
  | .ldc _ _ => 1000000000
  | .box _ => 1000000000
  | .al _ => 1000000000
  | .ins _ _ _ => 1000000000
  | .dkt _ _ => 1000000000
def costDs : List D → Nat
  | [] => 0
  | x :: xs => costD x + 2 + costDs xs
end
mutual
theorem cost_pure : ∀ d : D, costD d ≤ 16777216 → pure' d = true
  | .non, _ => rfl
  | .bl _, _ => rfl
  | .int _, _ => rfl
  | .str _, _ => rfl
  | .lst xs, h => by
    simp only [costD] at h
    simp only [pure']
    exact costs_pure xs (by omega)
  | .tup xs, h => by
    simp only [costD] at h
    simp only [pure']
    exact costs_pure xs (by omega)
  | .dic _ _, h => by simp [costD] at h
  | .fn _, h => by simp [costD] at h
  | .lse _, h => by simp [costD] at h
  | .own _ _, h => by simp [costD] at h
  | .ldc _ _, h => by simp [costD] at h
  | .box _, h => by simp [costD] at h
  | .al _, h => by simp [costD] at h
  | .ins _ _ _, h => by simp [costD] at h
  | .dkt _ _, h => by simp [costD] at h
theorem costs_pure : ∀ ds : List D, costDs ds ≤ 16777216 → pures ds = true
  | [], _ => rfl
  | d :: ds, h => by
    simp only [costDs] at h
    simp only [pures, Bool.and_eq_true]
    exact ⟨cost_pure d (by omega), costs_pure ds (by omega)⟩
end
theorem len_ofString (s : String) : (Str.ofString s).length = s.length := PySem.ofString_length s
theorem log_small {n : Nat} (h : n < 10 ^ 39) : n.log2 < 1920 := by
  by_cases h0 : n = 0
  · subst h0; decide
  · exact (Nat.log2_lt h0).mpr (Nat.lt_trans h (by decide +kernel))
mutual
theorem shown_len : ∀ (d : D) (p : PyData), toPy d = some p → p.canLay0 = true → costD d ≤ 16777216 → p.shown.length ≤ costD d ∧ p.showable = true
  | .non, _, h, _, _ => by cases h; exact ⟨by simp only [PyData.shown, costD]; decide +kernel, rfl⟩
  | .bl b, _, h, _, _ => by cases h; cases b <;> exact ⟨by simp only [PyData.shown, costD]; decide +kernel, rfl⟩
  | .int i, _, h, _, c => by
    cases h
    simp only [costD] at c ⊢
    split at c
    · rename_i hi
      rw [if_pos hi]
      refine ⟨?_, by simp only [PyData.showable]; exact decide_eq_true (log_small (Nat.lt_trans hi (by decide)))⟩
      have := int_text_length_le10 (k := 30) (by decide) hi
      simp only [PyData.shown]
      show (Str.ofString (toString i)).length ≤ 31
      rw [len_ofString]
      omega
    · rename_i hi0
      rw [if_neg hi0]
      split at c
      · rename_i hi
        rw [if_pos hi]
        refine ⟨?_, by simp only [PyData.showable]; exact decide_eq_true (log_small hi)⟩
        have := int_text_length_le10 (k := 39) (by decide) hi
        simp only [PyData.shown]
        show (Str.ofString (toString i)).length ≤ 40
        rw [len_ofString]
        omega
      · omega
  | .str s, _, h, k, c => by
    cases h
    refine ⟨?_, rfl⟩
    simp only [costD, PyData.shown]
    refine StrLaws.reprText_len s fun z hz => ?_
    have k' : PyData.strOk s = true := by simpa [PyData.canLay0] using k
    have := Array.all_eq_true_iff_forall_mem.mp k' z (Array.mem_toList_iff.mp hz)
    have e : z < 1114112 := by simpa using this
    omega
  | .lst xs, _, h, k, c => by
    obtain ⟨ps, h1, rfl⟩ := toPy_lst h
    simp only [costD] at c ⊢
    obtain ⟨q1, q2⟩ := shown_lens xs ps h1 (by simpa [PyData.canLay0] using k) (by omega)
    refine ⟨?_, by simpa [PyData.showable] using q2⟩
    have := listText_len_le (PyData.shownAll ps)
    simp only [PyData.shown]
    omega
  | .tup xs, _, h, k, c => by
    obtain ⟨ps, h1, rfl⟩ := toPy_tup h
    simp only [costD] at c ⊢
    obtain ⟨q1, q2⟩ := shown_lens xs ps h1 (by simpa [PyData.canLay0] using k) (by omega)
    refine ⟨?_, by simpa [PyData.showable] using q2⟩
    have := tupleText_len_le (PyData.shownAll ps)
    simp only [PyData.shown]
    omega
  | .dic _ _, _, h, _, _ => by simp [toPy] at h
  | .fn _, _, h, _, _ => by simp [toPy] at h
  | .lse _, _, h, _, _ => by simp [toPy] at h
  | .own _ _, _, h, _, _ => by simp [toPy] at h
  | .ldc _ _, _, h, _, _ => by simp [toPy] at h
  | .box _, _, h, _, _ => by simp [toPy] at h
  | .al _, _, h, _, _ => by simp [toPy] at h
  | .ins _ _ _, _, h, _, _ => by simp [toPy] at h
  | .dkt _ _, _, h, _, _ => by simp [toPy] at h
theorem shown_lens : ∀ (xs : List D) (ps : List PyData), toPys xs = some ps → PyData.canLayAll0 ps = true → costDs xs ≤ 16777216 →
    ((PyData.shownAll ps).map (·.length)).sum + 2 * (PyData.shownAll ps).length ≤ costDs xs ∧ PyData.showableAll ps = true
  | [], _, h, _, _ => by
    simp only [toPys, Option.some.injEq] at h
    subst h
    simp [PyData.shownAll, costDs, PyData.showableAll]
  | x :: xs, _, h, k, c => by
    obtain ⟨p, ps', h1, h2, rfl⟩ := toPys_cons h
    simp only [costDs] at c ⊢
    simp only [PyData.canLayAll0, Bool.and_eq_true] at k
    obtain ⟨a1, a2⟩ := shown_len x p h1 k.1 (by omega)
    obtain ⟨b1, b2⟩ := shown_lens xs ps' h2 k.2 (by omega)
    refine ⟨?_, by simp [PyData.showableAll, a2, b2]⟩
    simp only [PyData.shownAll, List.map_cons, List.sum_cons, List.length_cons]
    omega
end
theorem ok_ofString (s : String) : PyData.strOk (Str.ofString s) = true := by
  rw [Str.ofString_eq_toList]
  show ((s.toList.map Char.toNat).toArray).all _ = true
  rw [List.all_toArray, List.all_map, List.all_eq_true]
  intro c _
  have h : c.toNat < 1114112 := by
    have hv := c.valid
    have e : c.toNat = c.val.toNat := rfl
    rw [e]
    rcases hv with h | h
    · have : c.val.toNat < 55296 := h
      omega
    · exact h.2
  show decide (c.toNat < 1114112) = true
  exact decide_eq_true h
theorem ok_mem {s : Str} (h : PyData.strOk s = true) : ∀ c ∈ s.cps.toList, c < 1114112 := fun c hc => by
  have := Array.all_eq_true_iff_forall_mem.mp h c (Array.mem_toList_iff.mp hc)
  simpa using this
theorem ok_of_mem {s : Str} (h : ∀ c ∈ s.cps.toList, c < 1114112) : PyData.strOk s = true :=
  Array.all_eq_true_iff_forall_mem.mpr fun c hc => decide_eq_true (h c (Array.mem_toList_iff.mpr hc))
theorem hex_small (w c : Nat) : ∀ x ∈ List.replicate (w - ((Nat.toDigits 16 c).map Char.toNat).length) 48 ++ (Nat.toDigits 16 c).map Char.toNat, x < 1114112 := by
  intro x hx
  rcases List.mem_append.mp hx with h | h
  · rw [(List.mem_replicate.mp h).2]; decide
  · obtain ⟨d, _, rfl⟩ := List.mem_map.mp h
    have hv := d.valid
    have e : d.toNat = d.val.toNat := rfl
    rw [e]
    rcases hv with h | h
    · have : d.val.toNat < 55296 := h
      omega
    · exact h.2
theorem reprChar_small {q c : Nat} (hc : c < 1114112) : ∀ x ∈ Builtin.Str.reprChar q c, x < 1114112 := by
  intro x hx
  unfold Builtin.Str.reprChar at hx
  simp only at hx
  repeat' split at hx
  all_goals first
    | (simp only [List.mem_cons, List.not_mem_nil, or_false] at hx; rcases hx with rfl | rfl <;> omega)
    | (simp only [List.mem_cons, List.not_mem_nil, or_false] at hx; subst hx; omega)
    | (rcases List.mem_append.mp hx with h | h
       · simp only [List.mem_cons, List.not_mem_nil, or_false] at h; rcases h with rfl | rfl <;> omega
       · exact hex_small _ _ x h)
theorem fold_repr_small (q : Nat) : ∀ (l : List Nat) (acc : Array Nat), (∀ c ∈ l, c < 1114112) → (∀ c ∈ acc.toList, c < 1114112) → ∀ c ∈ (l.foldl (fun out c => out ++ (Builtin.Str.reprChar q c).toArray) acc).toList, c < 1114112
  | [], _, _, h => h
  | x :: l, acc, hl, h => by
    rw [List.foldl_cons]
    refine fold_repr_small q l _ (fun c hc => hl c (List.mem_cons_of_mem _ hc)) fun c hc => ?_
    rw [Array.toList_append] at hc
    rcases List.mem_append.mp hc with k | k
    · exact h c k
    · exact reprChar_small (hl x List.mem_cons_self) c (by simpa using k)
theorem ok_reprText {s : Str} (h : PyData.strOk s = true) : PyData.strOk (reprText s) = true := by
  refine ok_of_mem fun c hc => ?_
  have hq : reprQuote s < 1114112 := by unfold reprQuote; split <;> decide
  unfold reprText at hc
  simp only [Array.toList_push] at hc
  rcases List.mem_append.mp hc with k | k
  · rw [← Array.foldl_toList] at k
    exact fold_repr_small _ _ _ (ok_mem h) (by simpa using hq) c k
  · obtain rfl := List.mem_singleton.mp k
    exact hq
theorem ok_textFrom : ∀ (ts : List Str) (k : Nat) (acc : Str), PyData.strOk acc = true → (∀ t ∈ ts, PyData.strOk t = true) → PyData.strOk (textFrom k acc ts) = true
  | [], _, _, h, _ => h
  | t :: ts, k, acc, h, ht => by
    refine ok_textFrom ts (k + 1) _ (strOk_app (strOk_app h ?_) (ht t List.mem_cons_self)) fun u hu => ht u (List.mem_cons_of_mem _ hu)
    split <;> exact ok_ofString _
theorem ok_join (sep : Str) (hs : PyData.strOk sep = true) : ∀ ts : List Str, (∀ t ∈ ts, PyData.strOk t = true) → PyData.strOk (Str.join sep ts) = true
  | [], _ => ok_of_mem fun c hc => nomatch (show c ∈ ([] : List Nat) from hc)
  | [x], h => h x List.mem_cons_self
  | x :: y :: r, h => strOk_app (strOk_app (h x List.mem_cons_self) hs) (ok_join sep hs (y :: r) fun t ht => h t (List.mem_cons_of_mem _ ht))
mutual
theorem ok_shown : ∀ (d : D) (p : PyData), toPy d = some p → p.canLay0 = true → PyData.strOk p.shown = true
  | .non, _, h, _ => by cases h; exact ok_ofString _
  | .bl b, _, h, _ => by cases h; cases b <;> exact ok_ofString _
  | .int i, _, h, _ => by cases h; simp only [PyData.shown]; exact ok_ofString _
  | .str s, _, h, k => by
    cases h
    simp only [PyData.shown]
    exact ok_reprText (by simpa [PyData.canLay0] using k)
  | .lst xs, _, h, k => by
    obtain ⟨ps, h1, rfl⟩ := toPy_lst h
    simp only [PyData.shown]
    exact strOk_app (ok_textFrom _ _ _ (ok_ofString _) (ok_showns xs ps h1 (by simpa [PyData.canLay0] using k))) (ok_ofString _)
  | .tup xs, _, h, k => by
    obtain ⟨ps, h1, rfl⟩ := toPy_tup h
    simp only [PyData.shown]
    unfold tupleText
    refine strOk_app (strOk_app (ok_ofString _) (ok_join _ (ok_ofString _) _ (ok_showns xs ps h1 (by simpa [PyData.canLay0] using k)))) ?_
    split <;> exact ok_ofString _
  | .dic _ _, _, h, _ => by simp [toPy] at h
  | .fn _, _, h, _ => by simp [toPy] at h
  | .lse _, _, h, _ => by simp [toPy] at h
  | .own _ _, _, h, _ => by simp [toPy] at h
  | .ldc _ _, _, h, _ => by simp [toPy] at h
  | .box _, _, h, _ => by simp [toPy] at h
  | .al _, _, h, _ => by simp [toPy] at h
  | .ins _ _ _, _, h, _ => by simp [toPy] at h
  | .dkt _ _, _, h, _ => by simp [toPy] at h
theorem ok_showns : ∀ (xs : List D) (ps : List PyData), toPys xs = some ps → PyData.canLayAll0 ps = true → ∀ t ∈ PyData.shownAll ps, PyData.strOk t = true
  | [], _, h, _ => by
    simp only [toPys, Option.some.injEq] at h
    subst h
    simp [PyData.shownAll]
  | x :: xs, _, h, k => by
    obtain ⟨p, ps', h1, h2, rfl⟩ := toPys_cons h
    simp only [PyData.canLayAll0, Bool.and_eq_true] at k
    simp only [PyData.shownAll]
    intro t ht
    rcases List.mem_cons.mp ht with rfl | ht
    · exact ok_shown x p h1 k.1
    · exact ok_showns xs ps' h2 k.2 t ht
end
def sRepr : SN
  | [d], P => costD d ≤ 16777216 ∧ depthD d ≤ 60 ∧ P (fz (.str (reprD d)))
  | _, _ => False
section
variable {K : PySem.W.Frag} {mg : Str → Option Value} {X : Cx}
def rRepr (K : PySem.W.Frag) : List V → Hp → VK → Prop := fun xs H Q => ∃ x p, xs = [x] ∧ Dp K H x p ∧ p.canLay0 = true ∧ p.showable = true ∧ p.depth ≤ 60 ∧ p.shown.length ≤ sizeLine ∧ Q (.str p.shown) H
theorem cr_repr (hg : X.A.guards = some []) (hu : X.A.units + 64 < cLine) : CallR X (.builtin "repr") (rRepr X.K) := by
  intro pins s σ H xs us Q I r h
  obtain ⟨x, p, rfl, hd, hc, hs, hp, hz, q⟩ := h
  obtain ⟨u, rfl, ru⟩ := vals1 r
  cases p with
  | none => cases hd; cases ru; exact PySem.P.repr_of_none ⟨.str _, H, I.tok _, ⟨_, rfl⟩, q⟩
  | bool b =>
    cases hd; cases ru
    exact PySem.P.repr_of_bool ⟨.str _, H, I.tok _, ⟨_, rfl⟩, by cases b <;> exact q⟩
  | int i =>
    cases hd
    obtain ⟨t, rfl⟩ := ru
    exact PySem.P.repr_of_int (by simpa [PyData.showable] using hs) ⟨.str _, H, I.tok _, ⟨_, rfl⟩, q⟩
  | str z =>
    cases hd
    obtain ⟨t, rfl⟩ := ru
    exact PySem.P.repr_of_str ⟨.str _, H, I.tok _, ⟨_, rfl⟩, q⟩ hz
  | dict _ => cases hd
  | list ds =>
    obtain ⟨as, rd⟩ := Dp.reads I _ x u hd ru
    cases hd
    cases ru
    exact repr_of_reads' rd hs (PyData.noDict_hsm (PyData.hasDict_of_canLay _ hc)) hg (by omega) (fun _ _ e => e) (fun h' t tk hk => ⟨.str _, H, I.kept (t' := tk) hk, ⟨_, rfl⟩, q⟩) hz
  | tuple ds =>
    obtain ⟨as, rd⟩ := Dp.reads I _ x u hd ru
    cases hd
    cases ru
    exact repr_of_reads' rd hs (PyData.noDict_hsm (PyData.hasDict_of_canLay _ hc)) hg (by omega) (fun _ _ e => e) (fun h' t tk hk => ⟨.str _, H, I.kept (t' := tk) hk, ⟨_, rfl⟩, q⟩) hz
theorem VRos.one {hot : Pr} {H : Hp} {xs : List V} {d : D} (r : VRos K mg hot H xs [d]) : ∃ x, xs = [x] ∧ VRo K mg hot H x d := by
  cases r with
  | cons h t => cases t; exact ⟨_, rfl, h⟩
theorem VRos.two {hot : Pr} {H : Hp} {xs : List V} {d e : D} (r : VRos K mg hot H xs [d, e]) : ∃ x y, xs = [x, y] ∧ VRo K mg hot H x d ∧ VRo K mg hot H y e := by
  cases r with
  | cons h t => obtain ⟨y, rfl, k⟩ := t.one; exact ⟨_, _, rfl, h, k⟩
theorem cl_repr : CallL K mg (rRepr K) sRepr := by
  intro hot H xs ds P Q hh rx q k
  obtain ⟨d, rfl⟩ : ∃ d, ds = [d] := by
    match ds, q with
    | [d], _ => exact ⟨d, rfl⟩
  obtain ⟨c, dp, p⟩ := q
  obtain ⟨x, rfl, r⟩ := rx.one
  obtain ⟨y, e⟩ := toPy_pure d (cost_pure d c)
  obtain ⟨h1, h2⟩ := r.dp e
  obtain ⟨h3, h4⟩ := shown_len d y e h2 c
  refine ⟨x, y, rfl, h1, h2, h4, by rw [depth_toPy _ _ e]; exact dp, by rw [slen]; omega, ?_⟩
  have er : reprD d = y.shown := by unfold reprD; rw [e]
  rw [← er]
  exact post_fz hh k (.str _ (by rw [er]; exact ok_shown d y e h2)) p
end
end TL
namespace TL
open PySem PySem.Spec PyProof.Rows L2
def sLen : SN
  | [.lst xs], P => P (fz (.int xs.length))
  | [.tup xs], P => P (fz (.int xs.length))
  | [.str s], P => s.length ≤ 16777216 ∧ P (fz (.int s.length))
  | _, _ => False
def sAbs : SN
  | [.int i], P => P (fz (.int (if i < 0 then -i else i)))
  | _, _ => False
def sIntOf : SN
  | [.int i], P => P (fz (.int i))
  | [.bl b], P => P (fz (.int (if b then 1 else 0)))
  | _, _ => False
def sList : SN
  | [.lst xs], P => P ⟨true, .lst xs⟩
  | [.tup xs], P => P ⟨true, .lst xs⟩
  | _, _ => False
def sTuple : SN
  | [.lst xs], P => P (fz (.tup xs))
  | [.tup xs], P => P (fz (.tup xs))
  | _, _ => False
def sAll : SN
  | [.lst xs], P => ∃ bs : List Bool, xs = bs.map D.bl ∧ P (fz (.bl (bs.all id)))
  | _, _ => False
def sAny : SN
  | [.lst xs], P => ∃ bs : List Bool, xs = bs.map D.bl ∧ P (fz (.bl (bs.any id)))
  | _, _ => False
def cut {α : Type} (xs : List α) (lo hi : Option Int) : List α := (xs.drop (HT.sIx xs.length 0 lo)).take (HT.sIx xs.length xs.length hi - HT.sIx xs.length 0 lo)
def sCut (lo hi : Option Int) : S1
  | .lst xs, P => P ⟨true, .lst (cut xs lo hi)⟩
  | .tup xs, P => P (fz (.tup (cut xs lo hi)))
  | _, _ => False
section
variable {K : PySem.W.Frag} {mg : Str → Option Value} {X : Cx} {hot : Pr} {H : Hp}
theorem Reps.bls : ∀ {bs : List Bool} {vs : List V}, Reps K mg hot H vs (bs.map D.bl) → vs = bs.map V.bl
  | [], _, r => by cases r; rfl
  | b :: bs, _, r => by
    cases r with
    | cons h t => cases h; rw [Reps.bls t]; rfl
def rLen (K : PySem.W.Frag) : List V → Hp → VK → Prop := fun xs H Q => (∃ p ys, xs = [.ref p] ∧ (SqL K H p ys ∨ SqT K H p ys) ∧ Q (.int ys.length) H) ∨ (∃ z, xs = [.str z] ∧ z.length ≤ sizeLine ∧ Q (.int z.length) H)
theorem cr_len : CallR X (.builtin "len") (rLen X.K) := CallR.or call_len_seq call_len_str
theorem cl_len : CallL K mg (rLen K) sLen := by
  intro hot H xs ds P Q hh rx q k
  match ds, q with
  | [.lst ys], q =>
    obtain ⟨x, rfl, r⟩ := rx.one
    obtain ⟨a, vs, rfl, h1, r1⟩ := r.lst
    exact .inl ⟨a, vs, rfl, .inl h1, by rw [r1.length]; exact post_fz hh k (.int _) q⟩
  | [.tup ys], q =>
    obtain ⟨x, rfl, r⟩ := rx.one
    obtain ⟨a, vs, rfl, h1, r1⟩ := r.tup
    exact .inl ⟨a, vs, rfl, .inr h1, by rw [r1.length]; exact post_fz hh k (.int _) q⟩
  | [.str s], q =>
    obtain ⟨x, rfl, r⟩ := rx.one
    exact .inr ⟨s, by rw [r.str.1], by rw [slen]; exact q.1, post_fz hh k (.int _) q.2⟩
theorem cl_abs : CallL K mg (fun xs H Q => ∃ i, xs = [.int i] ∧ Q (.int (if i < 0 then -i else i)) H) sAbs := by
  intro hot H xs ds P Q hh rx q k
  match ds, q with
  | [.int i], q =>
    obtain ⟨x, rfl, r⟩ := rx.one
    exact ⟨i, by rw [r.int], post_fz hh k (.int _) q⟩
theorem cl_int : CallL K mg (fun xs H Q => (∃ i, xs = [.int i] ∧ Q (.int i) H) ∨ ∃ k, xs = [.bl k] ∧ Q (.int (if k then 1 else 0)) H) sIntOf := by
  intro hot H xs ds P Q hh rx q k
  match ds, q with
  | [.int i], q =>
    obtain ⟨x, rfl, r⟩ := rx.one
    exact .inl ⟨i, by rw [r.int], post_fz hh k (.int _) q⟩
  | [.bl b], q =>
    obtain ⟨x, rfl, r⟩ := rx.one
    exact .inr ⟨b, by rw [r.bl], post_fz hh k (.int _) q⟩
theorem cl_list : CallL K mg (fun xs H Q => ∃ p ys, xs = [.ref p] ∧ (SqL K H p ys ∨ SqT K H p ys) ∧ ∀ l, H l = none → Q (.ref l) (upd H l (.lst ys))) sList := by
  intro hot H xs ds P Q hh rx q k
  match ds, q with
  | [.lst ys], q =>
    obtain ⟨x, rfl, r⟩ := rx.one
    obtain ⟨a, vs, rfl, h1, r1⟩ := r.lst
    exact ⟨a, vs, rfl, .inl h1, fun l n => post_lst hh k n r1 q⟩
  | [.tup ys], q =>
    obtain ⟨x, rfl, r⟩ := rx.one
    obtain ⟨a, vs, rfl, h1, r1⟩ := r.tup
    exact ⟨a, vs, rfl, .inr h1, fun l n => post_lst hh k n r1 q⟩
theorem VRo.rep_tup {xs : List D} {v : V} (r : VRo K mg hot H v (.tup xs)) : Rep K mg hot H v (.tup xs) := by
  obtain ⟨o, r⟩ := r
  cases r with
  | fro r => exact r
theorem cl_tuple : CallL K mg (fun xs H Q => ∃ p ys, xs = [.ref p] ∧ ((SqL K H p ys ∧ ∀ l o, H l = none → PTu o → Q (.ref l) (newT H l o ys)) ∨ (SqT K H p ys ∧ Q (.ref p) H))) sTuple := by
  intro hot H xs ds P Q hh rx q k
  match ds, q with
  | [.lst ys], q =>
    obtain ⟨x, rfl, r⟩ := rx.one
    obtain ⟨a, vs, rfl, h1, r1⟩ := r.lst
    exact ⟨a, vs, rfl, .inl ⟨h1, fun l o n po => post_tup hh k n po r1 q⟩⟩
  | [.tup ys], q =>
    obtain ⟨x, rfl, r⟩ := rx.one
    have r0 := r.rep_tup
    obtain ⟨a, vs, rfl, h1, r1⟩ := r.tup
    exact ⟨a, vs, rfl, .inr ⟨h1, post_fz hh k r0 q⟩⟩
theorem cl_all : CallL K mg (rAll K) sAll := by
  intro hot H xs ds P Q hh rx q k
  match ds, q with
  | [.lst ys], q =>
    obtain ⟨bs, rfl, q⟩ := q
    obtain ⟨x, rfl, r⟩ := rx.one
    obtain ⟨a, vs, rfl, h1, r1⟩ := r.lst
    exact ⟨a, bs, rfl, by rw [← r1.bls]; exact h1, post_fz hh k (.bl _) q⟩
theorem cl_any : CallL K mg (rAny K) sAny := by
  intro hot H xs ds P Q hh rx q k
  match ds, q with
  | [.lst ys], q =>
    obtain ⟨bs, rfl, q⟩ := q
    obtain ⟨x, rfl, r⟩ := rx.one
    obtain ⟨a, vs, rfl, h1, r1⟩ := r.lst
    exact ⟨a, bs, rfl, by rw [← r1.bls]; exact h1, post_fz hh k (.bl _) q⟩
def rCut (K : PySem.W.Frag) : V → Option Int → Option Int → Hp → VK → Prop := fun x lo hi H Q => rSlL K x lo hi H Q ∨ rSlN K x lo hi H Q
theorem sr_cut : SlR X (rCut X.K) := SlR.or sl_list sl_tupN
theorem Reps.cut {vs : List V} {ds : List D} (r : Reps K mg hot H vs ds) (lo hi : Option Int) : Reps K mg hot H (cutV vs lo hi) (cut ds lo hi) := by
  unfold cutV TL.cut
  rw [r.length]
  exact (r.drop _).take _
theorem cut_whole {α : Type} {xs : List α} {lo hi : Option Int} (h1 : HT.sIx xs.length 0 lo = 0) (h2 : HT.sIx xs.length xs.length hi = xs.length) : cut xs lo hi = xs := by
  unfold cut
  rw [h1, h2, List.drop_zero, Nat.sub_zero, List.take_length]
theorem ul_cut (lo hi : Option Int) : UnL K mg (fun x H Q => rCut K x lo hi H Q) (sCut lo hi) := by
  intro hot H x dx P Q hh rx q k
  cases dx <;> simp only [sCut] at q <;> try exact q.elim
  · obtain ⟨a, vs, rfl, h1, r1⟩ := rx.lst
    exact .inl ⟨a, vs, rfl, h1, fun p n => post_lst hh k n (r1.cut lo hi) q⟩
  · have r0 := rx.rep_tup
    obtain ⟨a, vs, rfl, h1, r1⟩ := rx.tup
    refine .inr ⟨a, vs, rfl, h1, fun ⟨w1, w2⟩ => ?_, fun _ p o n po => post_tup hh k n po (r1.cut lo hi) q⟩
    rw [r1.length] at w1 w2
    rw [cut_whole w1 w2] at q
    exact post_fz hh k r0 q
def tms : List Opd → Option (List D)
  | [] => some []
  | .tm d :: os => (tms os).map (d :: ·)
  | .sl _ :: _ => none
theorem tms_reps {oh : Pr} {L : Lay} (S : StR K mg oh H L) : ∀ {vs : List V} {os : List Opd} {ds : List D} {σ : L2.St}, OpdsAt σ vs os → tms os = some ds → (∀ c ∈ cells vs os, c ∈ L) → Reps K mg (hotL oh L) H vs ds
  | [], _, ds, _, ha, h, _ => by cases ha; cases h; exact .nil
  | v :: vs, _, ds, _, ha, h, hc => by
    cases ha with
    | cons a1 a2 =>
      rename_i o os
      cases o with
      | sl i => cases h
      | tm d =>
        simp only [tms, Option.map_eq_some_iff] at h
        obtain ⟨ds', h, rfl⟩ := h
        obtain ⟨w, e, r⟩ := S.all _ (hc _ mem_cells_head) _ rfl
        cases e
        refine .cons ?_ (tms_reps S a2 h fun c hm => hc c (List.mem_cons_of_mem _ hm))
        cases r with
        | fro r => exact r
theorem tms_len : ∀ {vs : List V} {os : List Opd} {ds : List D} {σ : L2.St}, OpdsAt σ vs os → tms os = some ds → vs.length = ds.length
  | [], _, ds, _, ha, h => by cases ha; cases h; rfl
  | v :: vs, _, ds, _, ha, h => by
    cases ha with
    | cons a1 a2 =>
      rename_i o os
      cases o with
      | sl i => cases h
      | tm d =>
        simp only [tms, Option.map_eq_some_iff] at h
        obtain ⟨ds', h, rfl⟩ := h
        rw [List.length_cons, List.length_cons, tms_len a2 h]
def wLst (ts : WXs) : WE := fun env P => ts env fun os env1 => ∃ ds, tms os = some ds ∧ ds.length ≤ 16777216 ∧ P ⟨true, .lst ds⟩ env1
def wTup (ts : WXs) : WE := fun env P => ts env fun os env1 => ∃ ds, tms os = some ds ∧ ds.length ≤ 16777216 ∧ P (fz (.tup ds)) env1
theorem lst_lift {ts : WXs} {σ : L2.St} {Q : VK} (h : liftE K mg (wLst ts) σ H Q) : tLst (liftXs K mg ts) σ H Q := by
  obtain ⟨oh, τ, env, P, e0, S, t, k⟩ := h
  refine ⟨oh, τ, env, _, e0, S, t, fun vs os env1 H1 e1 a1 S1 s1 ⟨ds, hd, hz, p⟩ => ⟨by rw [slen, tms_len a1 hd]; exact hz, fun l n => ?_⟩⟩
  have r := tms_reps S1 a1 hd fun c hc => List.mem_append_left _ hc
  rw [hot_cells] at r
  have hh : Hh K (hotL oh (τ ++ σ.zip env1)) H1 := S1.right.hots
  have T : StR K mg (hotL oh (τ ++ σ.zip env1)) (upd H1 l (.lst vs)) [(some (.ref l), some ⟨true, .lst ds⟩)] := StR.new_lst hh n r
  obtain ⟨S3, s3⟩ := over_cells roots_cells S1 s1 T (Step.new_lst n)
  exact k _ _ env1 _ e1 S3 s3 p
theorem tup_lift {ts : WXs} {σ : L2.St} {Q : VK} (h : liftE K mg (wTup ts) σ H Q) : tTupT (liftXs K mg ts) σ H Q := by
  obtain ⟨oh, τ, env, P, e0, S, t, k⟩ := h
  refine ⟨oh, τ, env, _, e0, S, t, fun vs os env1 H1 e1 a1 S1 s1 ⟨ds, hd, hz, p⟩ => ⟨by rw [slen, tms_len a1 hd]; exact hz, fun l o n po => ?_⟩⟩
  have r := tms_reps S1 a1 hd fun c hc => List.mem_append_left _ hc
  rw [hot_cells] at r
  have hh : Hh K (hotL oh (τ ++ σ.zip env1)) H1 := S1.right.hots
  have T : StR K mg (hotL oh (τ ++ σ.zip env1)) (newT H1 l o vs) [(some (.ref l), some ⟨false, .tup ds⟩)] := StR.new_tup hh n po r
  obtain ⟨S3, s3⟩ := over_cells roots_cells S1 s1 T (Step.new_fro n)
  exact k _ _ env1 _ e1 S3 s3 p
def wC (d : D) : WE := fun env P => P (fz d) env
theorem cst_lift {d : D} {v : V} (hr : ∀ (hot : Pr) (H : Hp), Rep K mg hot H v d) {σ : L2.St} {Q : VK} (h : liftE K mg (wC d) σ H Q) : tC v σ H Q := by
  obtain ⟨oh, τ, env, P, e0, S, t, k⟩ := h
  exact k v (fz d) env H e0 (S.push (StR.one_fro S.hots (hr _ _)) Step.one_fro) Step.one_fro.push t
def truthD : D → Option Bool
  | .non => some false
  | .bl b => some b
  | .int i => some (i != 0)
  | .str s => if s.length ≤ 16777216 then some ((s.length : Int) != 0) else none
  | .lst xs => some (!xs.isEmpty)
  | .tup xs => some (!xs.isEmpty)
  | _ => none
theorem Reps.isEmpty {vs : List V} {ds : List D} (r : Reps K mg hot H vs ds) : vs.isEmpty = ds.isEmpty := by cases r <;> rfl
theorem truth_of {v : V} {d : D} {b : Bool} (r : VRo K mg hot H v d) (h : truthD d = some b) : TruV K v H b := by
  cases d with
  | non => obtain rfl := r.non; cases h; rfl
  | bl c => obtain rfl := r.bl; cases h; rfl
  | int i => obtain rfl := r.int; cases h; rfl
  | str s =>
    obtain ⟨rfl, _⟩ := r.str
    simp only [truthD] at h
    split at h
    · rename_i hz
      cases h
      exact ⟨by rw [slen]; exact hz, rfl⟩
    · cases h
  | lst xs =>
    obtain ⟨a, vs, rfl, h1, r1⟩ := r.lst
    cases h
    exact .inl ⟨vs, h1, by rw [r1.isEmpty]⟩
  | tup xs =>
    obtain ⟨a, vs, rfl, h1, r1⟩ := r.tup
    cases h
    exact .inr (.inl ⟨vs, h1, by rw [r1.isEmpty]⟩)
  | dic _ _ => cases h
  | fn _ => cases h
  | lse _ => cases h
  | own _ _ => cases h
  | ldc _ _ => cases h
  | box _ => cases h
  | al => cases h
  | ins => cases h
  | dkt => cases h
def wTru (t : WX) : WT := fun env P => t env fun o env1 => ∃ d b, o.res env1 = some d ∧ truthD d = some b ∧ P b env1
theorem tru_lift {t : WX} {σ : L2.St} {Q : Bool → Hp → Prop} (h : liftT K mg (wTru t) σ H Q) : liftX K mg t σ H fun x H' => ∃ k, TruV K x H' k ∧ Q k H' := by
  obtain ⟨oh, τ, env, P, e0, S, t, k⟩ := h
  refine ⟨oh, τ, env, _, e0, S, t, fun v o env1 H1 e1 a1 S1 s1 ⟨d, b, hr, ht, p⟩ => ?_⟩
  have hA : ∀ {L : Lay}, hotL oh ([o.cell v] ++ L) = hotL oh L := by intro L; exact hot_cell
  refine ⟨b, truth_of (opd_reads e1 hA (A := [o.cell v]) S1 a1 (by simp) hr) ht, k b env1 H1 e1 S1.tail ?_ p⟩
  exact s1.lessR fun a ha => roots_cons_sub a ha
def wTB (t : WE) : WT := fun env P => t env fun val env1 => ∃ b, val.d = .bl b ∧ P b env1
theorem VR.to_bl {v : V} {val : Val} {b : Bool} (r : VR K mg hot H v val) (e : val.d = .bl b) : v = .bl b := by
  cases r with
  | fro r => subst e; cases r; rfl
  | lst _ _ _ => cases e
  | dicK _ _ _ _ => cases e
  | boxT _ _ _ => cases e
  | boxL _ _ _ => cases e
  | boxD _ _ _ _ => cases e
  | ins _ _ _ _ => cases e
  | dkt _ _ _ _ _ _ => cases e
  | boxI _ _ _ _ => cases e
theorem tb_lift {t : WE} {σ : L2.St} {Q : Bool → Hp → Prop} (h : liftT K mg (wTB t) σ H Q) : tTest (liftE K mg t) σ H Q := by
  obtain ⟨oh, τ, env, P, e0, S, t, k⟩ := h
  refine ⟨oh, τ, env, _, e0, S, t, fun v val env1 H1 e1 S1 s1 ⟨b, hb, p⟩ => ⟨b, S1.head.to_bl hb, k b env1 H1 e1 S1.tail ?_ p⟩⟩
  exact s1.lessR fun a ha => roots_cons_sub a ha
def wNotT (t : WT) : WT := fun env P => t env fun b env1 => P (!b) env1
theorem not_lift {t : WT} {σ : L2.St} {Q : Bool → Hp → Prop} (h : liftT K mg (wNotT t) σ H Q) : tNot (liftT K mg t) σ H Q := by
  obtain ⟨oh, τ, env, P, e0, S, t, k⟩ := h
  exact ⟨oh, τ, env, _, e0, S, t, fun b env1 H1 e1 S1 s1 p => k (!b) env1 H1 e1 S1 s1 p⟩
def wAndT (t u : WT) : WT := fun env P => t env fun b env1 => if b then u env1 P else P false env1
def wOrT (t u : WT) : WT := fun env P => t env fun b env1 => if b then P true env1 else u env1 P
theorem and_lift {t u : WT} {σ : L2.St} {Q : Bool → Hp → Prop} (h : liftT K mg (wAndT t u) σ H Q) : tAnd (liftT K mg t) (liftT K mg u) σ H Q := by
  obtain ⟨oh, τ, env, P, e0, S, t, k⟩ := h
  refine ⟨oh, τ, env, _, e0, S, t, fun b env1 H1 e1 S1 s1 p => ?_⟩
  cases b with
  | true => exact iteT ⟨oh, τ, env1, P, e1, S1, p, fun c env2 H2 e2 S2 s2 p => k c env2 H2 e2 S2 (s1.trans s2) p⟩
  | false => exact iteF (k false env1 H1 e1 S1 s1 p)
theorem or_lift {t u : WT} {σ : L2.St} {Q : Bool → Hp → Prop} (h : liftT K mg (wOrT t u) σ H Q) : tOr (liftT K mg t) (liftT K mg u) σ H Q := by
  obtain ⟨oh, τ, env, P, e0, S, t, k⟩ := h
  refine ⟨oh, τ, env, _, e0, S, t, fun b env1 H1 e1 S1 s1 p => ?_⟩
  cases b with
  | false => exact iteF ⟨oh, τ, env1, P, e1, S1, p, fun c env2 H2 e2 S2 s2 p => k c env2 H2 e2 S2 (s1.trans s2) p⟩
  | true => exact iteT (k true env1 H1 e1 S1 s1 p)
def wIf (c : WT) (t u : WE) : WE := fun env P => c env fun b env1 => if b then t env1 P else u env1 P
theorem if_lift {c : WT} {t u : WE} {σ : L2.St} {Q : VK} (h : liftE K mg (wIf c t u) σ H Q) : tIf (liftT K mg c) (liftE K mg t) (liftE K mg u) σ H Q := by
  obtain ⟨oh, τ, env, P, e0, S, t, k⟩ := h
  refine ⟨oh, τ, env, _, e0, S, t, fun b env1 H1 e1 S1 s1 p => ?_⟩
  cases b with
  | true => exact iteT ⟨oh, τ, env1, P, e1, S1, p, fun v val env2 H2 e2 S2 s2 p => k v val env2 H2 e2 S2 (s1.trans s2) p⟩
  | false => exact iteF ⟨oh, τ, env1, P, e1, S1, p, fun v val env2 H2 e2 S2 s2 p => k v val env2 H2 e2 S2 (s1.trans s2) p⟩
def wAndV (t u : WE) : WE := fun env P => t env fun val env1 => ∃ b, truthD val.d = some b ∧ if b then u env1 P else P val env1
def wOrV (t u : WE) : WE := fun env P => t env fun val env1 => ∃ b, truthD val.d = some b ∧ if b then P val env1 else u env1 P
theorem VR.vro {v : V} {val : Val} (r : VR K mg hot H v val) : VRo K mg hot H v val.d := ⟨val.own, r⟩
theorem orV_lift {t u : WE} {σ : L2.St} {Q : VK} (h : liftE K mg (wOrV t u) σ H Q) : tOrT K (liftE K mg t) (liftE K mg u) σ H Q := by
  obtain ⟨oh, τ, env, P, e0, S, t, k⟩ := h
  refine ⟨oh, τ, env, _, e0, S, t, fun v val env1 H1 e1 S1 s1 ⟨b, hb, p⟩ => ⟨b, truth_of S1.head.vro hb, ?_⟩⟩
  cases b with
  | true => exact iteT (k v val env1 H1 e1 S1 s1 p)
  | false => exact iteF ⟨oh, τ, env1, P, e1, S1.tail, p, fun v2 val2 env2 H2 e2 S2 s2 p => k v2 val2 env2 H2 e2 S2 ((s1.lessR fun a ha => roots_cons_sub a ha).trans s2) p⟩
theorem andV_lift {t u : WE} {σ : L2.St} {Q : VK} (h : liftE K mg (wAndV t u) σ H Q) : tAndT K (liftE K mg t) (liftE K mg u) σ H Q := by
  obtain ⟨oh, τ, env, P, e0, S, t, k⟩ := h
  refine ⟨oh, τ, env, _, e0, S, t, fun v val env1 H1 e1 S1 s1 ⟨b, hb, p⟩ => ⟨b, truth_of S1.head.vro hb, ?_⟩⟩
  cases b with
  | false => exact iteF (k v val env1 H1 e1 S1 s1 p)
  | true => exact iteT ⟨oh, τ, env1, P, e1, S1.tail, p, fun v2 val2 env2 H2 e2 S2 s2 p => k v2 val2 env2 H2 e2 S2 ((s1.lessR fun a ha => roots_cons_sub a ha).trans s2) p⟩
def wNotV (t : WE) : WE := fun env P => t env fun val env1 => ∃ b, truthD val.d = some b ∧ P (fz (.bl (!b))) env1
theorem notV_lift {t : WE} {σ : L2.St} {Q : VK} (h : liftE K mg (wNotV t) σ H Q) : tNotT K (liftE K mg t) σ H Q := by
  obtain ⟨oh, τ, env, P, e0, S, t, k⟩ := h
  refine ⟨oh, τ, env, _, e0, S, t, fun v val env1 H1 e1 S1 s1 ⟨b, hb, p⟩ => ⟨b, truth_of S1.head.vro hb, ?_⟩⟩
  have S2 := S1.tail
  exact k _ (fz (.bl (!b))) env1 H1 e1 (S2.push (StR.one_fro S2.hots (.bl _)) Step.one_fro) ((s1.lessR fun a ha => roots_cons_sub a ha).trans Step.one_fro.push) p
end
end TL
namespace TL
open PySem PySem.Spec PyProof.Rows L2
def core (L : Lay) : Lay := L.filter fun c => c.2.isSome
theorem core_append {A B : Lay} : core (A ++ B) = core A ++ core B := List.filter_append ..
theorem core_cons_some {so : Option V} {x : Val} {L : Lay} : core ((so, some x) :: L) = (so, some x) :: core L := by simp [core, List.filter_cons]
theorem core_cons_none {so : Option V} {L : Lay} : core ((so, none) :: L) = core L := by simp [core, List.filter_cons]
theorem roots_core : ∀ L : Lay, roots (core L) = roots L
  | [] => rfl
  | (so, none) :: L => by rw [core_cons_none, roots_none, roots_core L]
  | (so, some x) :: L => by rw [core_cons_some, roots_cons, roots_cons, roots_core L]
theorem mem_core {L : Lay} {p : Cell} : p ∈ core L ↔ p ∈ L ∧ p.2.isSome = true := by simp [core, List.mem_filter]
section
variable {K : PySem.W.Frag} {mg : Str → Option Value} {oh : Pr} {H H' : Hp} {L L' A B E : Lay}
theorem roots_coreP (h : (core L).Perm (core L' ++ E)) : (roots L).Perm (roots L' ++ roots E) := by
  have := List.Perm.flatMap_right rootP h
  rw [List.flatMap_append] at this
  have e1 : List.flatMap rootP (core L) = roots L := roots_core L
  have e2 : List.flatMap rootP (core L') = roots L' := roots_core L'
  rw [e1, e2] at this
  exact this
theorem StR.core (S : StR K mg oh H L) (h : (core L).Perm (core L' ++ E)) : StR K mg oh H L' := by
  refine S.less (fun p hp => ?_) (List.nodup_append.mp ((roots_coreP h).nodup_iff.mp S.nd)).1
  obtain ⟨so, eo⟩ := p
  cases eo with
  | none => exact .inl rfl
  | some x => exact .inr (mem_core.mp (h.mem_iff.mpr (List.mem_append_left _ (mem_core.mpr ⟨hp, rfl⟩)))).1
theorem Step.coreR {L0 : Lay} {H0 : Hp} (s : Step L0 H0 L H') (h : (TL.core L).Perm (TL.core L' ++ E)) : Step L0 H0 L' H' :=
  s.lessR fun a ha => (roots_coreP h).mem_iff.mpr (List.mem_append_left _ ha)
theorem Step.coreL {L0 : Lay} {H0 : Hp} (s : Step L0 H0 L H') (h : (TL.core L0).Perm (TL.core L')) : Step L' H0 L H' := by
  have h' : ∀ a, a ∈ roots L0 ↔ a ∈ roots L' := fun a => by
    have := roots_coreP (L := L0) (L' := L') (E := []) (by rw [List.append_nil]; exact h)
    rw [this.mem_iff]
    simp [roots]
  exact ⟨fun a o e n nt => s.keep a o e (fun z => n ((h' a).mp z)) nt, fun a ha => (s.sub a ha).imp (h' a).mp id, s.dom⟩
end
abbrev DSpec := List Val → (Val → List Val → Prop) → Prop
def zipA (vs : List V) (xs : List Val) : Lay := (vs.map some).zip (xs.map some)
theorem zipA_cons {v : V} {vs : List V} {x : Val} {xs : List Val} : zipA (v :: vs) (x :: xs) = (some v, some x) :: zipA vs xs := rfl
def spT (K : PySem.W.Frag) (mg : Str → Option Value) (n : Nat) (t : DSpec) : Sp := fun vs H Q _ => ∃ (oh : Pr) (args : List Val) (P : Val → List Val → Prop), vs.length = n ∧ args.length = n ∧ StR K mg oh H (zipA vs args) ∧ t args P ∧
  ∀ v val args' H', args'.length = n → StR K mg oh H' ((some v, some val) :: zipA vs args') → Step (zipA vs args) H ((some v, some val) :: zipA vs args') H' → P val args' → Q v H'
structure FnT (P : Program) (w : World) (K : PySem.W.Frag) (mg : Str → Option Value) (base : Heap) (k : Nat) (f : Addr) (fd : FuncData) (ps : List Str) (sp : Sp) : Prop where
  len : ∀ vs H Q E, sp vs H Q E → vs.length = ps.length
  run : ∀ (A : Around) (outer : List Env) (s : Shared) (H : Hp) (args : Args) (us : List Value) (vs : List V) (Q : VK), Room k A → A.guards = some [] → Env0 P w K mg base A outer s H → BindsTo s fd args (ps.zip us) → Vals vs us → sp vs H Q E0 →
    codeAny (model P w) A (.call (.ref f) args) (CR CX0 outer P w H s Q E0) s
theorem FnT.mono {P w K mg base j k f fd ps sp} (F : FnT P w K mg base j f fd ps sp) (h : j ≤ k) : FnT P w K mg base k f fd ps sp :=
  ⟨F.len, fun A outer s H args us vs Q hr => F.run A outer s H args us vs Q (hr.mono h)⟩
theorem FnT.imp {P w K mg base k f fd ps sp sp'} (F : FnT P w K mg base k f fd ps sp) (h : ∀ vs H Q E, sp' vs H Q E → sp vs H Q E) : FnT P w K mg base k f fd ps sp' :=
  ⟨fun vs H Q E q => F.len vs H Q E (h _ _ _ _ q), fun A outer s H args us vs Q hr hg he hb hv hs => F.run A outer s H args us vs Q hr hg he hb hv (h _ _ _ _ hs)⟩
section
variable {X : Cx} {k : Nat} {f : Addr} {fd : FuncData} {ps : List Str} {sp : Sp}
theorem run_fnT {pins : List (Addr × Obj)} {σ : L2.St} {H : Hp} {s : Shared} {Q : VK} {us vus : List Value} {kw : List (Str × Value)} {vs : List V} (F : FnT X.prog X.w X.K X.mg X.base k f fd ps sp) (hr : Room k X.A) (hg : X.A.guards = some [])
    (hb : vus.length = ps.length → BindsTo s fd ⟨us, kw⟩ (ps.zip vus)) (I : L2.Inv X pins σ H s) (r : Vals vs vus) (h : sp vs H Q E0) : wpAny (model X.prog X.w) X.A (call (.ref f) us kw) (EP X pins σ Q) X.xe s := by
  have hl : vus.length = ps.length := by rw [← r.length]; exact F.len _ _ _ _ h
  refine wpAny_call (codeAny_mono (F.run X.A X.stack s H ⟨us, kw⟩ vus vs Q hr hg I.env0 (hb hl) r h) fun z s' hq => ?_)
  match z, hq with
  | .ok (.ret u), hq => exact I.after hq
  | .ok .next, hq => exact False.elim hq
  | .ok .brk, hq => exact False.elim hq
  | .ok .cont, hq => exact False.elim hq
  | .error e, hq => exact False.elim hq
theorem pe_callT {x : Str} {p pos : Pos} {e : Expr} {es : List Expr} {t : TA} (F : FnT X.prog X.w X.K X.mg X.base k f fd ps sp) (hr : Room k X.A) (hgd : X.A.guards = some []) (hg : Gl X x) (hm : X.mg x = some (.ref f)) (hk : PySem.W.keepIn X.K (.ref f) = true)
    (hb : Binds X.K fd ps []) (ha : PA X (e :: es) t) (hdb : (x == ("__debug__" : Str)) = false) (he : starEach (e :: es) X.env = (false, eval e X.env) :: starEach es X.env) (hpl : (backTo pos (starEach es X.env)).any (·.1) = false) :
    PE X (.Call (.Name x p) (e :: es) [] pos) (fun σ H Q => t σ H fun vs H1 => sp vs H1 Q E0) := by
  refine ⟨fun pins s σ H Q I h => ?_⟩
  refine wpAny_Call_Name_kw (ld_glob I hg hm ?_ hdb)
  refine PySem.W.callWith_K (h₀ := X.base) I.ok.mod.kin hk (thn (ha.run pos pins s σ H _ I h) fun us s1 ⟨vs, H1, I1, r, q⟩ => ⟨I1.kIn, ?_⟩) he hpl
  exact run_fnT F hr hgd (fun hl => by have := hb s1 us I1.kIn (by rw [List.append_nil]; exact hl); rw [List.append_nil] at this; exact this) I1 r q
theorem pe_callT0 {x : Str} {p pos : Pos} (F : FnT X.prog X.w X.K X.mg X.base k f fd ps sp) (hr : Room k X.A) (hgd : X.A.guards = some []) (hg : Gl X x) (hm : X.mg x = some (.ref f)) (hk : PySem.W.keepIn X.K (.ref f) = true)
    (hb : Binds X.K fd ps []) (hdb : (x == ("__debug__" : Str)) = false) : PE X (.Call (.Name x p) [] [] pos) (fun σ H Q => sp [] H Q E0) := by
  refine ⟨fun pins s σ H Q I h => ?_⟩
  refine wpAny_Call_Name_kw (ld_glob I hg hm ?_ hdb)
  exact PySem.W.callWith_K0 I.kIn hk (run_fnT (us := []) (vus := []) F hr hgd (fun hl => by have := hb s [] I.kIn hl; exact this) I .nil h)
end
inductive AO where
  | ls (i : Nat) | vl (x : Val)
def AO.cell (v : V) : AO → Cell
  | .ls _ => (some v, none)
  | .vl x => (some v, some x)
def AO.At (σ : L2.St) (v : V) : AO → Prop
  | .ls i => σ[i]? = some (some v)
  | .vl _ => True
inductive AOsAt (σ : L2.St) : List V → List AO → Prop
  | nil : AOsAt σ [] []
  | cons {v vs o os} : o.At σ v → AOsAt σ vs os → AOsAt σ (v :: vs) (o :: os)
def cellsA : List V → List AO → Lay
  | v :: vs, o :: os => o.cell v :: cellsA vs os
  | _, _ => []
abbrev WAs := EnvD → (List AO → EnvD → Prop) → Prop
abbrev WA1 := EnvD → (AO → EnvD → Prop) → Prop
section
variable (K : PySem.W.Frag) (mg : Str → Option Value)
def liftA1 (t : WA1) : TE := fun σ H Q => ∃ (oh : Pr) (τ : Lay) (env : EnvD) (P : AO → EnvD → Prop), σ.length = env.length ∧ StR K mg oh H (τ ++ σ.zip env) ∧ t env P ∧
  ∀ v o env' H', σ.length = env'.length → o.At σ v → StR K mg oh H' (o.cell v :: (τ ++ σ.zip env')) → Step (τ ++ σ.zip env) H (o.cell v :: (τ ++ σ.zip env')) H' → P o env' → Q v H'
def liftAs (t : WAs) : TA := fun σ H Q => ∃ (oh : Pr) (τ : Lay) (env : EnvD) (P : List AO → EnvD → Prop), σ.length = env.length ∧ StR K mg oh H (τ ++ σ.zip env) ∧ t env P ∧
  ∀ vs os env' H', σ.length = env'.length → AOsAt σ vs os → StR K mg oh H' (cellsA vs os ++ (τ ++ σ.zip env')) → Step (τ ++ σ.zip env) H (cellsA vs os ++ (τ ++ σ.zip env')) H' → P os env' → Q vs H'
end
def wLs (i : Nat) : WA1 := fun env P => (∃ x, env[i]? = some (some x)) ∧ P (.ls i) env
def wOwn (t : WE) : WA1 := fun env P => t env fun val env1 => P (.vl val) env1
def wFro (t : WE) : WA1 := fun env P => t env fun val env1 => P (.vl (fz val.d)) env1
def wAnil : WAs := fun env P => P [] env
def wAcons (t : WA1) (ts : WAs) : WAs := fun env P => t env fun o env1 => ts env1 fun os env2 => P (o :: os) env2
section
variable {X : Cx} {e : Expr} {es : List Expr} {pos : Pos} {i : Nat} {x : Str} {K : PySem.W.Frag} {mg : Str → Option Value}
theorem p1_ls (h : PE X (.Name x pos) (tVar i)) : PE X (.Name x pos) (liftA1 K mg (wLs i)) := by
  refine PEimp h fun σ H Q w => ?_
  obtain ⟨oh, τ, env, P, e0, S, ⟨⟨x, hx⟩, p⟩, k⟩ := w
  obtain ⟨v, hv, _⟩ := get_slot e0 S hx
  refine ⟨v, hv, k v (.ls i) env H e0 hv ?_ ?_ p⟩
  · exact S.less (fun c hc => (List.mem_cons.mp hc).imp (fun e => by rw [e]; rfl) id) (by show (roots ((some v, none) :: _)).Nodup; rw [roots_none]; exact S.nd)
  · exact Step.refl.lessR fun a ha => by
      have ha : a ∈ roots ((some v, none) :: (τ ++ σ.zip env)) := ha
      rw [roots_none] at ha; exact ha
theorem p1_own {t : WE} (h : PE X e (liftE K mg t)) : PE X e (liftA1 K mg (wOwn t)) := by
  refine PEimp h fun σ H Q w => ?_
  obtain ⟨oh, τ, env, P, e0, S, t1, k⟩ := w
  exact ⟨oh, τ, env, _, e0, S, t1, fun v val env' H' e1 S1 s1 p => k v (.vl val) env' H' e1 trivial S1 s1 p⟩
theorem p1_fro {t : WE} (h : PE X e (liftE K mg t)) : PE X e (liftA1 K mg (wFro t)) := by
  refine PEimp h fun σ H Q w => ?_
  obtain ⟨oh, τ, env, P, e0, S, t1, k⟩ := w
  exact ⟨oh, τ, env, _, e0, S, t1, fun v val env' H' e1 S1 s1 p => k v (.vl (fz val.d)) env' H' e1 trivial S1.freeze s1.freeze p⟩
theorem pas_nil : PA X [] (liftAs K mg wAnil) := PAimp pa_nil fun σ H Q w => by
  obtain ⟨oh, τ, env, P, e0, S, t, k⟩ := w
  exact k [] [] env H e0 .nil S Step.refl t
theorem pas_cons {t : WA1} {ts : WAs} (h : PE X e (liftA1 K mg t)) (hs : PA X es (liftAs K mg ts)) (hn : noStar e = true) : PA X (e :: es) (liftAs K mg (wAcons t ts)) := by
  refine PAimp (pa_cons h hs (star_of hn)) fun σ H Q w => ?_
  obtain ⟨oh, τ, env, P, e0, S, t, k⟩ := w
  refine ⟨oh, τ, env, _, e0, S, t, fun v o env1 H1 e1 a1 S1 s1 t1 => ?_⟩
  refine ⟨oh, o.cell v :: τ, env1, _, e1, S1, t1, fun vs os env2 H2 e2 a2 S2 s2 p => ?_⟩
  have hp : (cellsA vs os ++ (o.cell v :: τ ++ σ.zip env2)).Perm (cellsA (v :: vs) (o :: os) ++ (τ ++ σ.zip env2)) := by
    show (cellsA vs os ++ o.cell v :: (τ ++ σ.zip env2)).Perm (o.cell v :: (cellsA vs os ++ (τ ++ σ.zip env2)))
    exact List.perm_middle
  exact k (v :: vs) (o :: os) env2 H2 e2 (.cons a1 a2) (S2.perm hp) ((s1.trans s2).permR hp) p
end
def lendA : EnvD → List AO → Option (List Val × EnvD)
  | env, [] => some ([], env)
  | env, .vl x :: os => match lendA env os with
    | some r => some (x :: r.1, r.2)
    | none => none
  | env, .ls i :: os => match env[i]? with
    | some (some x) => match lendA (env.set i none) os with
      | some r => some (x :: r.1, r.2)
      | none => none
    | _ => none
def giveA : EnvD → List AO → List Val → EnvD
  | env, .ls i :: os, x :: xs => giveA (env.set i (some x)) os xs
  | env, .vl _ :: os, _ :: xs => giveA env os xs
  | env, _, _ => env
theorem lendA_len : ∀ {os : List AO} {env : EnvD} {r : List Val × EnvD}, lendA env os = some r → r.1.length = os.length ∧ r.2.length = env.length
  | [], env, r, h => by cases h; exact ⟨rfl, rfl⟩
  | .vl x :: os, env, r, h => by
    simp only [lendA] at h
    split at h
    · rename_i r' e
      cases h
      obtain ⟨a, b⟩ := lendA_len e
      exact ⟨by simp [a], b⟩
    · cases h
  | .ls i :: os, env, r, h => by
    simp only [lendA] at h
    split at h
    · split at h
      · rename_i r' e
        cases h
        obtain ⟨a, b⟩ := lendA_len e
        exact ⟨by simp [a], by rw [b, List.length_set]⟩
      · cases h
    · cases h
theorem giveA_len : ∀ {os : List AO} {env : EnvD} {xs : List Val}, (giveA env os xs).length = env.length
  | [], env, xs => by cases xs <;> rfl
  | .vl x :: os, env, [] => rfl
  | .vl x :: os, env, y :: xs => giveA_len (os := os)
  | .ls i :: os, env, [] => rfl
  | .ls i :: os, env, y :: xs => by
    show (giveA (env.set i (some y)) os xs).length = _
    rw [giveA_len (os := os), List.length_set]
theorem cellsA_len {σ : L2.St} : ∀ {vs : List V} {os : List AO}, AOsAt σ vs os → vs.length = os.length
  | [], [], _ => rfl
  | _ :: _, _ :: _, .cons _ t => by rw [List.length_cons, List.length_cons, cellsA_len t]
theorem core_slot {σ : L2.St} {env : EnvD} (hl : σ.length = env.length) {i : Nat} {v : V} {x : Val} (h1 : σ[i]? = some (some v)) (h2 : env[i]? = some (some x)) :
    (core (σ.zip env)).Perm ((some v, some x) :: core (σ.zip (env.set i none))) := by
  obtain ⟨A, B, e1, e2⟩ := zip_split hl h1 h2
  have hset : σ.set i (some v) = σ := by
    obtain ⟨hi, he⟩ := List.getElem?_eq_some_iff.mp h1
    rw [← he]; exact List.set_getElem_self hi
  have e3 := e2 (some v) none
  rw [hset] at e3
  rw [e1, e3, core_append, core_append, core_cons_some, core_cons_none]
  exact List.perm_middle
theorem core_slotIn {σ : L2.St} {env : EnvD} (hl : σ.length = env.length) {i : Nat} {v : V} {x : Val} (h1 : σ[i]? = some (some v)) :
    ∃ E, ((some v, some x) :: core (σ.zip env)).Perm (core (σ.zip (env.set i (some x))) ++ E) := by
  obtain ⟨hi, _⟩ := List.getElem?_eq_some_iff.mp h1
  have h2 : env[i]? = some env[i] := List.getElem?_eq_getElem (by omega)
  obtain ⟨A, B, e1, e2⟩ := zip_split hl h1 h2
  have hset : σ.set i (some v) = σ := by
    obtain ⟨hi, he⟩ := List.getElem?_eq_some_iff.mp h1
    rw [← he]; exact List.set_getElem_self hi
  have e3 := e2 (some v) (some x)
  rw [hset] at e3
  rw [e1, e3, core_append, core_append, core_cons_some]
  cases env[i] with
  | none =>
    rw [core_cons_none]
    exact ⟨[], by rw [List.append_nil]; exact List.perm_middle.symm⟩
  | some y =>
    rw [core_cons_some]
    refine ⟨[(some v, some y)], ?_⟩
    refine List.Perm.trans (l₂ := (some v, some y) :: (some v, some x) :: (core A ++ core B)) ?_ ?_
    · exact (List.Perm.cons _ List.perm_middle).trans (List.Perm.swap _ _ _)
    · exact (List.Perm.cons _ List.perm_middle.symm).trans (List.perm_append_singleton _ _).symm
theorem lend_core {σ : L2.St} {R : Lay} : ∀ {vs : List V} {os : List AO} {env : EnvD} {r : List Val × EnvD}, σ.length = env.length → AOsAt σ vs os → lendA env os = some r →
    (core (cellsA vs os ++ (R ++ σ.zip env))).Perm (core (zipA vs r.1 ++ (R ++ σ.zip r.2)))
  | [], [], env, r, _, _, h => by cases h; exact List.Perm.refl _
  | v :: vs, .vl x :: os, env, r, hl, .cons a1 a2, h => by
    simp only [lendA] at h
    split at h
    · rename_i r' e
      cases h
      show (core ((some v, some x) :: (cellsA vs os ++ (R ++ σ.zip env)))).Perm (core ((some v, some x) :: (zipA vs r'.1 ++ (R ++ σ.zip r'.2))))
      rw [core_cons_some, core_cons_some]
      exact (lend_core hl a2 e).cons _
    · cases h
  | v :: vs, .ls i :: os, env, r, hl, .cons a1 a2, h => by
    simp only [lendA] at h
    split at h
    · rename_i x hx
      split at h
      · rename_i r' e
        cases h
        show (core ((some v, none) :: (cellsA vs os ++ (R ++ σ.zip env)))).Perm (core ((some v, some x) :: (zipA vs r'.1 ++ (R ++ σ.zip r'.2))))
        rw [core_cons_none, core_cons_some]
        refine List.Perm.trans ?_ ((lend_core (R := R) (by rw [List.length_set]; exact hl) a2 e).cons _)
        rw [core_append, core_append, core_append, core_append]
        refine ((List.Perm.append_left _ ((core_slot hl a1 hx).append_left _)).trans ?_)
        exact (List.Perm.append_left _ List.perm_middle).trans List.perm_middle
      · cases h
    · cases h
theorem give_core {σ : L2.St} {R : Lay} : ∀ {vs : List V} {os : List AO} {env : EnvD} {xs : List Val}, σ.length = env.length → AOsAt σ vs os → xs.length = os.length →
    ∃ E, (core (zipA vs xs ++ (R ++ σ.zip env))).Perm (core (R ++ σ.zip (giveA env os xs)) ++ E)
  | [], [], env, [], _, _, _ => ⟨[], by rw [List.append_nil]; exact List.Perm.refl _⟩
  | v :: vs, .vl x :: os, env, y :: xs, hl, .cons a1 a2, h => by
    obtain ⟨E, p⟩ := give_core (R := R) hl a2 (by simpa using h)
    refine ⟨(some v, some y) :: E, ?_⟩
    show (core ((some v, some y) :: (zipA vs xs ++ (R ++ σ.zip env)))).Perm (core (R ++ σ.zip (giveA env os xs)) ++ (some v, some y) :: E)
    rw [core_cons_some]
    exact (p.cons _).trans List.perm_middle.symm
  | v :: vs, .ls i :: os, env, y :: xs, hl, .cons a1 a2, h => by
    obtain ⟨E, p⟩ := give_core (R := R) (env := env.set i (some y)) (by rw [List.length_set]; exact hl) a2 (by simpa using h)
    obtain ⟨E2, p2⟩ := core_slotIn (x := y) hl a1
    refine ⟨E ++ E2, ?_⟩
    show (core ((some v, some y) :: (zipA vs xs ++ (R ++ σ.zip env)))).Perm (core (R ++ σ.zip (giveA (env.set i (some y)) os xs)) ++ (E ++ E2))
    rw [core_cons_some, core_append, core_append]
    refine List.Perm.trans ?_ ((p.append_right E2).trans (by rw [List.append_assoc]))
    rw [core_append, core_append]
    refine List.Perm.trans (l₂ := core (zipA vs xs) ++ (core R ++ ((some v, some y) :: core (σ.zip env)))) ?_ ?_
    · exact (List.perm_middle.symm).trans (List.Perm.append_left _ List.perm_middle.symm)
    · rw [List.append_assoc, List.append_assoc]
      exact List.Perm.append_left _ (List.Perm.append_left _ p2)
def wCallF (n : Nat) (t : DSpec) (ts : WAs) : WE := fun env P => ts env fun os env1 => ∃ r, lendA env1 os = some r ∧ os.length = n ∧ t r.1 fun val xs => P val (giveA r.2 os xs)
section
variable {K : PySem.W.Frag} {mg : Str → Option Value}
theorem callF_lift {n : Nat} {t : DSpec} {ts : WAs} {σ : L2.St} {H : Hp} {Q : VK} (h : liftE K mg (wCallF n t ts) σ H Q) : liftAs K mg ts σ H fun vs H1 => spT K mg n t vs H1 Q E0 := by
  obtain ⟨oh, τ, env, P, e0, S, t1, k⟩ := h
  refine ⟨oh, τ, env, _, e0, S, t1, fun vs os env1 H1 e1 a1 S1 s1 ⟨r, hr, hn, p⟩ => ?_⟩
  obtain ⟨l1, l2⟩ := lendA_len hr
  have cp := lend_core (R := τ) e1 a1 hr
  have S2 : StR K mg oh H1 (zipA vs r.1 ++ (τ ++ σ.zip r.2)) := S1.core (E := []) (by rw [List.append_nil]; exact cp)
  have s2 : Step (τ ++ σ.zip env) H (zipA vs r.1 ++ (τ ++ σ.zip r.2)) H1 := s1.coreR (E := []) (by rw [List.append_nil]; exact cp)
  refine ⟨hotL oh (τ ++ σ.zip r.2), r.1, _, by rw [cellsA_len a1]; exact hn, by rw [l1]; exact hn, S2.split, p, fun v val xs H2 hx S3 s3 q => ?_⟩
  have S4 : StR K mg oh H2 (((some v, some val) :: zipA vs xs) ++ (τ ++ σ.zip r.2)) := StR.frame S2 S3 s3
  have s4 : Step (τ ++ σ.zip env) H (((some v, some val) :: zipA vs xs) ++ (τ ++ σ.zip r.2)) H2 := s2.trans s3.frame
  obtain ⟨E, cq⟩ := give_core (R := τ) (σ := σ) (env := r.2) (by rw [l2]; exact e1) a1 (show xs.length = os.length by rw [hx, hn])
  have cr : (core (((some v, some val) :: zipA vs xs) ++ (τ ++ σ.zip r.2))).Perm (core ((some v, some val) :: (τ ++ σ.zip (giveA r.2 os xs))) ++ E) := by
    show (core ((some v, some val) :: (zipA vs xs ++ (τ ++ σ.zip r.2)))).Perm _
    rw [core_cons_some, core_cons_some]
    exact cq.cons _
  exact k v val _ H2 (by rw [giveA_len, l2]; exact e1) (S4.core cr) (s4.coreR cr) q
end
end TL
namespace TL
open PySem PySem.Spec PyProof.Rows L2
abbrev WG := Val → EnvD → (EnvD → Prop) → Prop
abbrev WGs := List D → EnvD → (EnvD → Prop) → Prop
def LentEq (lent : List Nat) (σ σ' : L2.St) : Prop := ∀ i ∈ lent, σ'[i]? = σ[i]?
theorem LentEq.refl {l : List Nat} {σ : L2.St} : LentEq l σ σ := fun _ _ => rfl
theorem LentEq.trans {l : List Nat} {σ σ' σ'' : L2.St} (a : LentEq l σ σ') (b : LentEq l σ' σ'') : LentEq l σ σ'' := fun i h => (b i h).trans (a i h)
section
variable (K : PySem.W.Frag) (mg : Str → Option Value) (lent : List Nat)
def liftG (g : WG) : TG := fun v σ H Q => ∃ (oh : Pr) (τ : Lay) (env : EnvD) (val : Val) (P : EnvD → Prop), σ.length = env.length ∧ StR K mg oh H ((some v, some val) :: (τ ++ σ.zip env)) ∧ g val env P ∧
  ∀ σ' env' H', σ'.length = env'.length → σ'.length = σ.length → LentEq lent σ σ' → StR K mg oh H' (τ ++ σ'.zip env') → Step ((some v, some val) :: (τ ++ σ.zip env)) H (τ ++ σ'.zip env') H' → P env' → Q σ' H'
def liftGs (g : WGs) : TGs := fun vs σ H Q => ∃ (oh : Pr) (τ : Lay) (env : EnvD) (ds : List D) (P : EnvD → Prop), σ.length = env.length ∧ StR K mg oh H (τ ++ σ.zip env) ∧ Reps K mg (hotL oh (τ ++ σ.zip env)) H vs ds ∧ g ds env P ∧
  ∀ σ' env' H', σ'.length = env'.length → σ'.length = σ.length → LentEq lent σ σ' → StR K mg oh H' (τ ++ σ'.zip env') → Step (τ ++ σ.zip env) H (τ ++ σ'.zip env') H' → P env' → Q σ' H'
end
theorem PGimp {X : Cx} {e : Expr} {t t' : TG} (h : PG X e t) (q : ∀ v σ H Q, t' v σ H Q → t v σ H Q) : PG X e t' := ⟨fun pins s σ H v u Q I r w => h.run pins s σ H v u Q I r (q v σ H Q w)⟩
theorem PGsimp {X : Cx} {e : List Expr} {t t' : TGs} (h : PGs X e t) (q : ∀ v σ H Q, t' v σ H Q → t v σ H Q) : PGs X e t' := ⟨fun pins s σ H v u Q I r w => h.run pins s σ H v u Q I r (q v σ H Q w)⟩
theorem PG.or {X : Cx} {e : Expr} {t t' : TG} (h : PG X e t) (h' : PG X e t') : PG X e (fun v σ H Q => t v σ H Q ∨ t' v σ H Q) :=
  ⟨fun pins s σ H v u Q I r w => w.elim (h.run pins s σ H v u Q I r) (h'.run pins s σ H v u Q I r)⟩
def gwName (i : Nat) : WG := fun val env P => i < env.length ∧ P (env.set i (some val))
def gwTup (n : Nat) (g : WGs) : WG := fun val env P => ∃ ds, (val.d = .tup ds ∨ val.d = .lst ds ∨ val.d = .lse ds) ∧ ds.length = n ∧ g ds env P
def gwNil : WGs := fun ds env P => ds = [] ∧ P env
def gwCons (g : WG) (gs : WGs) : WGs := fun ds env P => ∃ d r, ds = d :: r ∧ g (fz d) env fun env1 => gs r env1 P
theorem Step.coreL' {L L' L2 : Lay} {H H' : Hp} (s : Step L H L' H') (h : roots L = roots L2) : Step L2 H L' H' :=
  ⟨fun a o e n nt => s.keep a o e (fun z => n (h ▸ z)) nt, fun a ha => (s.sub a ha).imp (fun z => h ▸ z) id, s.dom⟩
theorem hot_fro {oh : Pr} {so : Option V} {d : D} {L : Lay} : hotL oh ((so, some (fz d)) :: L) = hotL oh L := by unfold hotL; rw [roots_fro]
section
variable {K : PySem.W.Frag} {mg : Str → Option Value} {lent : List Nat} {X : Cx}
theorem gname_lift {i : Nat} (hi : i ∉ lent) {v : V} {σ : L2.St} {H : Hp} {Q : L2.St → Hp → Prop} (h : liftG K mg lent (gwName i) v σ H Q) : gName i v σ H Q := by
  obtain ⟨oh, τ, env, val, P, e0, S, ⟨hl, p⟩, k⟩ := h
  have h1 : σ[i]? = some σ[i] := List.getElem?_eq_getElem (by omega)
  have h2 : env[i]? = some env[i] := List.getElem?_eq_getElem hl
  obtain ⟨A, B, e1, e2⟩ := zip_split e0 h1 h2
  have e3 := e2 (some v) (some val)
  have hp : (τ ++ (σ.set i (some v)).zip (env.set i (some val))).Perm ((some v, some val) :: (τ ++ (A ++ B))) := by rw [e3]; exact perm_mid
  have S1 : StR K mg oh H ((some v, some val) :: (τ ++ (A ++ B))) := by
    refine S.less (fun c hc => .inr ?_) ?_
    · rcases List.mem_cons.mp hc with rfl | hc
      · exact List.mem_cons_self
      · refine List.mem_cons_of_mem _ ?_
        rw [e1]
        rcases List.mem_append.mp hc with z | z
        · exact List.mem_append_left _ z
        · exact List.mem_append_right _ ((List.mem_append.mp z).elim (List.mem_append_left _) fun z => List.mem_append_right _ (List.mem_cons_of_mem _ z))
    · have nd := S.nd
      rw [e1] at nd
      refine nd.sublist ?_
      exact roots_sublist (List.Sublist.cons_cons _ (List.Sublist.append_left (List.Sublist.append_left (List.sublist_cons_self _ _) _) _))
  refine k _ _ H (by rw [List.length_set, List.length_set]; exact e0) (List.length_set ..) (fun j hj => ?_) (S1.perm hp.symm) ?_ p
  · exact List.getElem?_set_ne (fun z => hi (by rw [z]; exact hj))
  · refine Step.refl.lessR fun a ha => ?_
    have h3 := (roots_perm hp).mp ha
    rw [e1]
    obtain ⟨c, hc, hr⟩ := mem_roots.mp h3
    refine mem_roots.mpr ⟨c, ?_, hr⟩
    rcases List.mem_cons.mp hc with rfl | hc
    · exact List.mem_cons_self
    · refine List.mem_cons_of_mem _ ?_
      rcases List.mem_append.mp hc with z | z
      · exact List.mem_append_left _ z
      · exact List.mem_append_right _ ((List.mem_append.mp z).elim (List.mem_append_left _) fun z => List.mem_append_right _ (List.mem_cons_of_mem _ z))
theorem pgs_nilD : PGs X [] (liftGs K mg lent gwNil) := PGsimp pgs_nil fun vs σ H Q h => by
  obtain ⟨oh, τ, env, ds, P, e0, S, r, ⟨hd, p⟩, k⟩ := h
  subst hd
  cases r
  exact ⟨rfl, k σ env H e0 rfl .refl S Step.refl p⟩
theorem assign_of {e : Expr} {es : List Expr} {env : Env} (h : noStar e = true) : (assignEach (e :: es) env) = (false, assign e env) :: assignEach es env := by
  cases e <;> first | rfl | cases h
theorem pgs_consD {e : Expr} {es : List Expr} {g : WG} {gs : WGs} (h1 : PG X e (liftG K mg lent g)) (h2 : PGs X es (liftGs K mg lent gs)) (hn : noStar e = true) : PGs X (e :: es) (liftGs K mg lent (gwCons g gs)) := by
  refine PGsimp (pgs_cons h1 h2 (by rw [assign_of hn]; rfl)) fun vs σ H Q h => ?_
  obtain ⟨oh, τ, env, ds, P, e0, S, r, ⟨d, dr, hd, p⟩, k⟩ := h
  subst hd
  cases r with
  | cons r1 r2 =>
    rename_i v vr
    refine ⟨v, vr, rfl, oh, τ, env, fz d, _, e0, S.push (StR.one_fro S.hots r1) Step.one_fro, p, fun σ1 env1 H1 e1 l1 t1 S1 s1 q => ?_⟩
    have s1' : Step (τ ++ σ.zip env) H (τ ++ σ1.zip env1) H1 := s1.coreL' (by rw [roots_fro])
    have kp : Keeps (hotL oh (τ ++ σ.zip env)) (hotL oh (τ ++ σ1.zip env1)) H H1 := by
      have := s1'.keeps (oh := oh) (B := [])
      rw [List.append_nil, List.append_nil] at this
      exact this
    exact ⟨oh, τ, env1, dr, P, e1, S1, r2.mono kp, q, fun σ2 env2 H2 e2 l2 t2 S2 s2 q2 => k σ2 env2 H2 e2 (l2.trans l1) (t1.trans t2) S2 (s1'.trans s2) q2⟩
theorem noStars_find {es : List Expr} {env : Env} (h : es.all noStar = true) : (assignEach es env).findIdx? (·.1) = none ∧ (assignEach es env).length = es.length := by
  induction es with
  | nil => exact ⟨rfl, rfl⟩
  | cons e es ih =>
    rw [List.all_cons, Bool.and_eq_true] at h
    obtain ⟨a, b⟩ := ih h.2
    rw [assign_of h.1]
    exact ⟨by rw [List.findIdx?_cons]; simp [a], by rw [List.length_cons, List.length_cons, b]⟩
theorem pg_tupD {es : List Expr} {k : Nat} {pos : Pos} {gs : WGs} (hc : X.calm = true) (h : PGs X es (liftGs X.K mg lent gs)) (hn : es.all noStar = true) : PG X (.Tuple es k pos) (liftG X.K mg lent (gwTup es.length gs)) := by
  obtain ⟨f1, f2⟩ := noStars_find (env := X.env) hn
  refine PGimp (PG.or (pg_tup hc h f2 f1) (pg_unl hc h f2 f1)) fun v σ H Q w => ?_
  obtain ⟨oh, τ, env, val, P, e0, S, ⟨ds, hd, hl, p⟩, k⟩ := w
  have S0 := S.freeze
  have fin : ∀ {vs : List V}, Reps X.K mg (hotL oh (τ ++ σ.zip env)) H vs ds → liftGs X.K mg lent gs vs σ H Q := fun r =>
    ⟨oh, τ, env, ds, P, e0, S.tail, r, p, fun σ1 env1 H1 e1 l1 t1 S1 s1 q => k σ1 env1 H1 e1 l1 t1 S1 (Step.trans (Step.refl.lessR fun a ha => roots_cons_sub a ha) s1) q⟩
  have r0 := S0.head_fro
  rcases hd with hd | hd | hd
  · rw [hd] at r0
    cases r0 with
    | tup ht rs => exact .inl ⟨_, _, rfl, ht.sq, by rw [rs.length]; exact hl, fin rs⟩
  · rw [hd] at r0
    cases r0 with
    | lst ht rs => exact .inr ⟨_, _, rfl, ht.sq, by rw [rs.length]; exact hl, fin rs⟩
  · rw [hd] at r0
    cases r0 with
    | lse hn ht rs => exact .inl ⟨_, _, rfl, .inl ht, by rw [rs.length]; exact hl, fin rs⟩
end
inductive Out where
  | nx | bk | ct | rt (v : Val)
abbrev WS := EnvD → (Out → EnvD → Prop) → Prop
section
variable (K : PySem.W.Frag) (mg : Str → Option Value) (lent : List Nat)
structure SEnd (oh : Pr) (σ : L2.St) (env : EnvD) (H : Hp) (P : Out → EnvD → Prop) (Y : Ends) : Prop where
  nx : ∀ σ' env' H', σ'.length = env'.length → σ'.length = σ.length → LentEq lent σ σ' → StR K mg oh H' (σ'.zip env') → Step (σ.zip env) H (σ'.zip env') H' → P .nx env' → Y.nx σ' H'
  bk : ∀ σ' env' H', σ'.length = env'.length → σ'.length = σ.length → LentEq lent σ σ' → StR K mg oh H' (σ'.zip env') → Step (σ.zip env) H (σ'.zip env') H' → P .bk env' → Y.bk σ' H'
  ct : ∀ σ' env' H', σ'.length = env'.length → σ'.length = σ.length → LentEq lent σ σ' → StR K mg oh H' (σ'.zip env') → Step (σ.zip env) H (σ'.zip env') H' → P .ct env' → Y.ct σ' H'
  rt : ∀ v val σ' env' H', σ'.length = env'.length → σ'.length = σ.length → LentEq lent σ σ' → StR K mg oh H' ((some v, some val) :: σ'.zip env') → Step (σ.zip env) H ((some v, some val) :: σ'.zip env') H' → P (.rt val) env' → Y.rt v H'
def liftS (t : WS) : TS := fun Y σ H => ∃ (oh : Pr) (env : EnvD) (P : Out → EnvD → Prop), σ.length = env.length ∧ StR K mg oh H (σ.zip env) ∧ t env P ∧ SEnd K mg lent oh σ env H P Y
end
section
variable {K : PySem.W.Frag} {mg : Str → Option Value} {lent : List Nat} {X : Cx} {oh : Pr} {σ σ1 : L2.St} {env env1 : EnvD} {H H1 : Hp} {P : Out → EnvD → Prop} {Y : Ends}
theorem SEnd.after (k : SEnd K mg lent oh σ env H P Y) (l : σ1.length = σ.length) (t : LentEq lent σ σ1) (s : Step (σ.zip env) H (σ1.zip env1) H1) : SEnd K mg lent oh σ1 env1 H1 P Y :=
  ⟨fun σ' env' H' e1 e2 e3 S e4 p => k.nx σ' env' H' e1 (e2.trans l) (t.trans e3) S (s.trans e4) p, fun σ' env' H' e1 e2 e3 S e4 p => k.bk σ' env' H' e1 (e2.trans l) (t.trans e3) S (s.trans e4) p,
    fun σ' env' H' e1 e2 e3 S e4 p => k.ct σ' env' H' e1 (e2.trans l) (t.trans e3) S (s.trans e4) p, fun v val σ' env' H' e1 e2 e3 S e4 p => k.rt v val σ' env' H' e1 (e2.trans l) (t.trans e3) S (s.trans e4) p⟩
def wsNil : WS := fun env P => P .nx env
def wsSeq (t u : WS) : WS := fun env P => t env fun o env1 => match o with
  | .nx => u env1 P
  | o => P o env1
theorem seq_lift {t u : WS} (h : liftS K mg lent (wsSeq t u) Y σ H) : tSeq (liftS K mg lent t) (liftS K mg lent u) Y σ H := by
  obtain ⟨oh, env, P, e0, S, t1, k⟩ := h
  exact ⟨oh, env, _, e0, S, t1, fun σ' env' H' e1 e2 e3 S' s' p => ⟨oh, env', P, e1, S', p, k.after e2 e3 s'⟩, fun σ' env' H' e1 e2 e3 S' s' p => k.bk σ' env' H' e1 e2 e3 S' s' p,
    fun σ' env' H' e1 e2 e3 S' s' p => k.ct σ' env' H' e1 e2 e3 S' s' p, fun v val σ' env' H' e1 e2 e3 S' s' p => k.rt v val σ' env' H' e1 e2 e3 S' s' p⟩
theorem nil_lift (h : liftS K mg lent wsNil Y σ H) : tNext Y σ H := by
  obtain ⟨oh, env, P, e0, S, t1, k⟩ := h
  exact k.nx σ env H e0 rfl .refl S Step.refl t1
def wsIf (c : WT) (t u : WS) : WS := fun env P => c env fun b env1 => if b then t env1 P else u env1 P
theorem ifS_lift {c : WT} {t u : WS} (h : liftS K mg lent (wsIf c t u) Y σ H) : tIfS (liftT K mg c) (liftS K mg lent t) (liftS K mg lent u) Y σ H := by
  obtain ⟨oh, env, P, e0, S, t1, k⟩ := h
  refine ⟨oh, [], env, _, e0, S, t1, fun b env1 H1 e1 S1 s1 p => ?_⟩
  have k' : SEnd K mg lent oh σ env1 H1 P Y := k.after rfl .refl s1
  cases b with
  | true => exact iteT ⟨oh, env1, P, e1, S1, p, k'⟩
  | false => exact iteF ⟨oh, env1, P, e1, S1, p, k'⟩
def wsAsg (t : WE) (g : WG) : WS := fun env P => t env fun val env1 => g val env1 fun env2 => P .nx env2
theorem asg_lift {t : WE} {g : WG} (h : liftS K mg lent (wsAsg t g) Y σ H) : tAsg (liftE K mg t) (liftG K mg lent g) Y σ H := by
  obtain ⟨oh, env, P, e0, S, t1, k⟩ := h
  refine ⟨oh, [], env, _, e0, S, t1, fun v val env1 H1 e1 S1 s1 p => ⟨oh, [], env1, val, _, e1, S1, p, fun σ2 env2 H2 e2 l2 q2 S2 s2 p2 => ?_⟩⟩
  exact k.nx σ2 env2 H2 e2 l2 q2 S2 (s1.trans s2) p2
def wsExp (t : WE) : WS := fun env P => t env fun _ env1 => P .nx env1
theorem exp_lift {t : WE} (h : liftS K mg lent (wsExp t) Y σ H) : tDrop (liftE K mg t) Y σ H := by
  obtain ⟨oh, env, P, e0, S, t1, k⟩ := h
  refine ⟨oh, [], env, _, e0, S, t1, fun v val env1 H1 e1 S1 s1 p => k.nx σ env1 H1 e1 rfl .refl S1.tail (s1.lessR fun a ha => roots_cons_sub a ha) p⟩
def wsRet (t : WE) : WS := fun env P => t env fun val env1 => P (.rt val) env1
theorem ret_lift {t : WE} (h : liftS K mg lent (wsRet t) Y σ H) : tRet (liftE K mg t) Y σ H := by
  obtain ⟨oh, env, P, e0, S, t1, k⟩ := h
  exact ⟨oh, [], env, _, e0, S, t1, fun v val env1 H1 e1 S1 s1 p => k.rt v val σ env1 H1 e1 rfl .refl S1 s1 p⟩
def wsRetV (i : Nat) : WS := fun env P => ∃ x, env[i]? = some (some x) ∧ P (.rt x) (env.set i none)
theorem retV_lift {i : Nat} (h : liftS K mg lent (wsRetV i) Y σ H) : tRet (tVar i) Y σ H := by
  obtain ⟨oh, env, P, e0, S, ⟨x, hx, p⟩, k⟩ := h
  obtain ⟨v, hv, _⟩ := get_slot (τ := []) e0 S hx
  have cp := core_slot e0 hv hx
  have c2 : (core (σ.zip env)).Perm (core ((some v, some x) :: σ.zip (env.set i none)) ++ []) := by rw [List.append_nil, core_cons_some]; exact cp
  exact ⟨v, hv, k.rt v x σ _ H (by rw [List.length_set]; exact e0) rfl .refl (S.core c2) (Step.refl.coreR c2) p⟩
theorem VR.to_int {hot : Pr} {v : V} {val : Val} {i : Int} (r : VR K mg hot H v val) (e : val.d = .int i) : v = .int i := by
  cases r with
  | fro r => subst e; cases r; rfl
  | lst _ _ _ => cases e
  | dicK _ _ _ _ => cases e
  | boxT _ _ _ => cases e
  | boxL _ _ _ => cases e
  | boxD _ _ _ _ => cases e
  | ins _ _ _ _ => cases e
  | dkt _ _ _ _ _ _ => cases e
  | boxI _ _ _ _ => cases e
theorem own_lst {hot : Pr} {v : V} {ds : List D} (r : VR K mg hot H v ⟨true, .lst ds⟩) : ∃ a vs, v = .ref a ∧ hot a ∧ H a = some (.lst vs) ∧ Reps K mg hot H vs ds := by
  cases r with
  | lst h1 h2 h3 => exact ⟨_, _, rfl, h1, h2, h3⟩
theorem slot_put {τ : Lay} {i : Nat} {ds es : List D} (e0 : σ.length = env.length) (S : StR K mg oh H (τ ++ σ.zip env)) (hx : env[i]? = some (some ⟨true, .lst ds⟩)) :
    ∃ a vs, σ[i]? = some (some (.ref a)) ∧ H a = some (.lst vs) ∧ Reps K mg (hotL oh (τ ++ σ.zip env)) H vs ds ∧ ∀ ws, Reps K mg (hotL oh (τ ++ σ.zip env)) H ws es →
      StR K mg oh (upd H a (.lst ws)) (τ ++ σ.zip (env.set i (some ⟨true, .lst es⟩))) ∧ Step (τ ++ σ.zip env) H (τ ++ σ.zip (env.set i (some ⟨true, .lst es⟩))) (upd H a (.lst ws)) := by
  obtain ⟨v, hv, r⟩ := get_slot e0 S hx
  obtain ⟨a, vs, rfl, _, h2, h3⟩ := own_lst r
  refine ⟨a, vs, hv, h2, h3, fun ws rw' => ?_⟩
  obtain ⟨A, B, e1, e2⟩ := zip_split e0 hv hx
  have hset : σ.set i (some (.ref a)) = σ := by
    obtain ⟨hi, he⟩ := List.getElem?_eq_some_iff.mp hv
    rw [← he]; exact List.set_getElem_self hi
  have e3 := e2 (some (.ref a)) (some ⟨true, .lst es⟩)
  rw [hset] at e3
  have p1 : (τ ++ σ.zip env).Perm ((some (.ref a), some ⟨true, .lst ds⟩) :: (τ ++ (A ++ B))) := by rw [e1]; exact perm_mid
  have p2 : (τ ++ σ.zip (env.set i (some ⟨true, .lst es⟩))).Perm ((some (.ref a), some ⟨true, .lst es⟩) :: (τ ++ (A ++ B))) := by rw [e3]; exact perm_mid
  have eh : hotL oh (τ ++ σ.zip env) = hotL oh ((some (.ref a), some ⟨true, .lst ds⟩) :: (τ ++ (A ++ B))) := by
    funext b
    apply propext
    unfold hotL
    rw [roots_perm p1]
  rw [eh] at rw'
  obtain ⟨S2, s2⟩ := (S.perm p1).put_lst rw'
  exact ⟨S2.perm p2.symm, (s2.permL p1.symm).permR p2.symm⟩
end
end TL
namespace TL
open PySem PySem.Spec PyProof.Rows L2
abbrev WI := EnvD → (List D → EnvD → Prop) → Prop
structure ItemsOk (K : PySem.W.Frag) (mg : Str → Option Value) (hot0 : Pr) (H0 : Hp) (J : It) (ds : List D) : Prop where
  turn : ∀ (hot : Pr) (H : Hp) (i : Nat) (d : D), Keeps hot0 hot H0 H → (Hh K hot H) → ds[i]? = some d →
    J.go i H ∧ ∀ x H', J.yld i H x H' → StR K mg hot H' [(some x, some (fz d))] ∧ Step [] H [(some x, some (fz d))] H'
  stop : ∀ (hot : Pr) (H : Hp) (i : Nat), Keeps hot0 hot H0 H → ds.length ≤ i → J.stop i H
def liftI (K : PySem.W.Frag) (mg : Str → Option Value) (t : WI) : TI := fun σ H R => ∃ (oh : Pr) (τ : Lay) (env : EnvD) (P : List D → EnvD → Prop), σ.length = env.length ∧ StR K mg oh H (τ ++ σ.zip env) ∧ t env P ∧
  ∀ ds env' H' J, σ.length = env'.length → StR K mg oh H' (τ ++ σ.zip env') → Step (τ ++ σ.zip env) H (τ ++ σ.zip env') H' → ItemsOk K mg (hotL oh (τ ++ σ.zip env')) H' J ds → P ds env' → R J H'
theorem PIimp {X : Cx} {tg e : Expr} {t t' : TI} (h : PI X tg e t) (q : ∀ σ H R, t' σ H R → t σ H R) : PI X tg e t' := ⟨fun pins s σ H R I w => h.run pins s σ H R I (q σ H R w)⟩
def iSeq (K : PySem.W.Frag) (tl : TE) : TI := fun σ H R => tl σ H fun x H1 => (∃ a, x = .ref a ∧ (∃ xs, SqL K H1 a xs) ∧ R (Itl K a) H1) ∨ ∃ a, x = .ref a ∧ (∃ xs, SqT K H1 a xs) ∧ R (Itt K a) H1
theorem pi_seq {X : Cx} {tg l : Expr} {tl : TE} (hl : PE X l tl) : PI X tg l (iSeq X.K tl) := by
  refine ⟨fun pins s σ H R I h => thn (hl.run pins s σ H _ I h) fun v s1 ⟨x, H1, I1, r1, q1⟩ => ?_⟩
  have fresh : ∀ b ∈ [s1.heap.objs.size], FpOk X pins H1 b := fun b hb => by
    obtain rfl := List.mem_singleton.mp hb
    exact I1.fpOk (Nat.le_refl _) (I1.hok.fresh (Nat.le_refl _))
  rcases q1 with ⟨a, rfl, ⟨xs, hq⟩, q⟩ | ⟨a, rfl, ⟨xs, hq⟩, q⟩
  · cases r1
    obtain ⟨its, rv, p, hz⟩ := I1.list hq
    exact wpAny_pyIter_list p.isList ⟨s1.heap.objs.size, [s1.heap.objs.size], _, _, H1, rfl, I1.kept (t' := s1.toks) fun b o e => Heap.get?_push_of_some _ e, turn_list a _, ⟨_, Heap.get?_push_size _ rfl, rfl, rfl⟩, fresh, q⟩
  · cases r1
    obtain ⟨its, rv, p, hz⟩ := I1.tuple hq
    exact wpAny_pyIter_tuple (show s1.heap.IsTuple a its.toArray from p) ⟨s1.heap.objs.size, [s1.heap.objs.size], _, _, H1, rfl, I1.kept (t' := s1.toks) fun b o e => Heap.get?_push_of_some _ e, turn_tuple a _, ⟨_, Heap.get?_push_size _ rfl, rfl, rfl⟩, fresh, q⟩
section
variable {K : PySem.W.Frag} {mg : Str → Option Value} {hot : Pr} {H : Hp} {X : Cx}
theorem items_lst {a : Addr} {vs : List V} {ds : List D} (h : LsF K hot H a vs) (r : Reps K mg hot H vs ds) : ItemsOk K mg hot H (Itl K a) ds where
  turn := fun hot' H' i d kp hh hd => by
    have h' := (kp.ls h).sq
    obtain ⟨v, hv, rv⟩ := r.get hd
    refine ⟨⟨vs, v, h', hv⟩, fun x H2 y => ?_⟩
    obtain ⟨rfl, y⟩ := y
    have e := y vs h'
    rw [hv] at e
    cases e
    exact ⟨StR.one_fro hh (rv.mono kp), Step.one_fro⟩
  stop := fun hot' H' i kp hi => ⟨vs, (kp.ls h).sq, by rw [r.length]; exact hi⟩
theorem items_tup {a : Addr} {vs : List V} {ds : List D} (h : TpF K hot H a vs) (r : Reps K mg hot H vs ds) : ItemsOk K mg hot H (Itt K a) ds where
  turn := fun hot' H' i d kp hh hd => by
    have h' := (kp.tp h).sq
    obtain ⟨v, hv, rv⟩ := r.get hd
    refine ⟨⟨vs, v, h', hv⟩, fun x H2 y => ?_⟩
    obtain ⟨rfl, y⟩ := y
    have e := y vs h'
    rw [hv] at e
    cases e
    exact ⟨StR.one_fro hh (rv.mono kp), Step.one_fro⟩
  stop := fun hot' H' i kp hi => ⟨vs, (kp.tp h).sq, by rw [r.length]; exact hi⟩
def rngD (lo : Int) (n : Nat) : List D := (List.range n).map fun (i : Nat) => D.int (lo + i)
theorem items_rng {lo : Int} {n : Nat} : ItemsOk K mg hot H (Itr lo n) (rngD lo n) where
  turn := fun hot' H' i d kp hh hd => by
    unfold rngD at hd
    rw [List.getElem?_map] at hd
    obtain ⟨j, hj, rfl⟩ := Option.map_eq_some_iff.mp hd
    obtain ⟨h1, h2⟩ := List.getElem?_eq_some_iff.mp hj
    rw [List.getElem_range] at h2
    subst h2
    refine ⟨(by show i < n; simpa using h1), fun x H2 y => ?_⟩
    obtain ⟨rfl, rfl⟩ := y
    exact ⟨StR.one_fro hh (.int _), Step.one_fro⟩
  stop := fun hot' H' i kp hi => by
    unfold rngD at hi
    rw [List.length_map, List.length_range] at hi
    exact hi
def enumD (xs : List D) : List D := (List.range xs.length).map fun (i : Nat) => D.lse [.int i, xs.getD i .non]
theorem enumD_get {xs : List D} {i : Nat} {d : D} (h : (enumD xs)[i]? = some d) : ∃ x, xs[i]? = some x ∧ d = .lse [.int i, x] := by
  unfold enumD at h
  rw [List.getElem?_map] at h
  obtain ⟨j, hj, rfl⟩ := Option.map_eq_some_iff.mp h
  obtain ⟨h1, h2⟩ := List.getElem?_eq_some_iff.mp hj
  rw [List.getElem_range] at h2
  subst h2
  have h3 : i < xs.length := by simpa using h1
  exact ⟨xs[i], List.getElem?_eq_getElem h3, by rw [List.getD_eq_getElem?_getD, List.getElem?_eq_getElem h3]; rfl⟩
theorem items_enum {a : Addr} {vs : List V} {ds : List D} (h : LsF K hot H a vs) (r : Reps K mg hot H vs ds) : ItemsOk K mg hot H (Ite K a) (enumD ds) where
  turn := fun hot' H' i d kp hh hd => by
    obtain ⟨y, hy, rfl⟩ := enumD_get hd
    have h' := (kp.ls h).sq
    obtain ⟨v, hv, rv⟩ := r.get hy
    refine ⟨⟨vs, v, h', hv⟩, fun x H2 q => ?_⟩
    obtain ⟨T, z, rfl, n, rfl, q⟩ := q
    have e := q vs h'
    rw [hv] at e
    cases e
    exact ⟨StR.new_lse hh n (.cons (.int _) (.cons (rv.mono kp) .nil)), Step.new_fro n⟩
  stop := fun hot' H' i kp hi => ⟨vs, (kp.ls h).sq, by rw [r.length]; unfold enumD at hi; simpa using hi⟩
def zipD : List D → List D → List D
  | x :: xs, y :: ys => D.lse [x, y] :: zipD xs ys
  | _, _ => []
theorem zipD_get : ∀ {xs ys : List D} {i : Nat} {d : D}, (zipD xs ys)[i]? = some d → ∃ x y, xs[i]? = some x ∧ ys[i]? = some y ∧ d = .lse [x, y]
  | [], _, _, _, h => by simp [zipD] at h
  | _ :: _, [], _, _, h => by simp [zipD] at h
  | x :: xs, y :: ys, 0, _, h => by simp [zipD] at h; exact ⟨x, y, rfl, rfl, h.symm⟩
  | x :: xs, y :: ys, i + 1, d, h => by
    obtain ⟨a, b, h1, h2, h3⟩ := zipD_get (xs := xs) (ys := ys) (i := i) (by simpa [zipD] using h)
    exact ⟨a, b, by simpa using h1, by simpa using h2, h3⟩
theorem zipD_len : ∀ {xs ys : List D}, (zipD xs ys).length = min xs.length ys.length
  | [], _ => by simp [zipD]
  | _ :: _, [] => by simp [zipD]
  | x :: xs, y :: ys => by simp only [zipD, List.length_cons, zipD_len (xs := xs) (ys := ys)]; omega
theorem items_zip {a b : Addr} {vs ws : List V} {ds es : List D} (h : LsF K hot H a vs) (r : Reps K mg hot H vs ds) (h2 : LsF K hot H b ws) (r2 : Reps K mg hot H ws es) : ItemsOk K mg hot H (Itz K a b) (zipD ds es) where
  turn := fun hot' H' i d kp hh hd => by
    obtain ⟨y, z, hy, hz, rfl⟩ := zipD_get hd
    have h' := (kp.ls h).sq
    have h2' := (kp.ls h2).sq
    obtain ⟨v, hv, rv⟩ := r.get hy
    obtain ⟨w, hw, rw'⟩ := r2.get hz
    refine ⟨⟨vs, ws, v, w, h', h2', hv, hw⟩, fun x H2 q => ?_⟩
    obtain ⟨T, p, p2, rfl, n, rfl, q1, q2⟩ := q
    have e1 := q1 vs h'
    rw [hv] at e1
    cases e1
    have e2 := q2 ws h2'
    rw [hw] at e2
    cases e2
    exact ⟨StR.new_lse hh n (.cons (rv.mono kp) (.cons (rw'.mono kp) .nil)), Step.new_fro n⟩
  stop := fun hot' H' i kp hi => ⟨vs, ws, (kp.ls h).sq, (kp.ls h2).sq, by rw [r.length, r2.length]; rw [zipD_len] at hi; omega⟩
def wiRng1 (t : WXs) : WI := fun env P => t env fun os env1 => ∃ j : Int, resAll env1 os = some [.int j] ∧ -(2 ^ 62) ≤ j ∧ j < 2 ^ 62 ∧ P (rngD 0 j.toNat) env1
theorem rng1_items {t : WXs} {σ : L2.St} {R : It → Hp → Prop} (h : liftI K mg (wiRng1 t) σ H R) : iRng1 (liftXs K mg t) σ H R := by
  obtain ⟨oh, τ, env, P, e0, S, t1, k⟩ := h
  refine ⟨oh, τ, env, _, e0, S, t1, fun vs os env1 H1 e1 a1 S1 s1 ⟨j, hr, h1, h2, p⟩ => ?_⟩
  obtain ⟨x, rfl, rx⟩ := (opds_read e1 hot_cells S1 a1 (fun _ h => h) hr).one
  exact ⟨j, by rw [rx.int], h1, h2, k _ env1 H1 _ e1 S1.right (s1.lessR fun a ha => roots_app_sub a ha) items_rng p⟩
end
def forD (g : WG) (body : WS) : List D → EnvD → (Out → EnvD → Prop) → Prop
  | [], env, P => P .nx env
  | d :: ds, env, P => g (fz d) env fun env1 => body env1 fun o env2 => match o with
    | .nx => forD g body ds env2 P
    | .ct => forD g body ds env2 P
    | .bk => P .nx env2
    | .rt v => P (.rt v) env2
def wsFor (it : WI) (g : WG) (body : WS) : WS := fun env P => it env fun ds env1 => forD g body ds env1 P
theorem drop_cons_get {α : Type} {xs : List α} {i : Nat} (h : i < xs.length) : xs.drop i = xs[i] :: xs.drop (i + 1) := List.drop_eq_getElem_cons h
section
variable {K : PySem.W.Frag} {mg : Str → Option Value} {lent : List Nat} {X : Cx}
theorem for_lift {it : WI} {g : WG} {body : WS} {Y : Ends} {σ : L2.St} {H : Hp} (h : liftS K mg lent (wsFor it g body) Y σ H) : tFor (liftI K mg it) (liftG K mg lent g) (liftS K mg lent body) Y σ H := by
  obtain ⟨oh, env, P, e0, S, t1, k⟩ := h
  refine ⟨oh, [], env, _, e0, S, t1, fun ds env1 H1 J e1 S1 s1 I p => ?_⟩
  have S1 : StR K mg oh H1 (σ.zip env1) := S1
  have s1 : Step (σ.zip env) H (σ.zip env1) H1 := s1
  refine ⟨fun i m σ' H' => m = ds.length - i ∧ i ≤ ds.length ∧ ∃ env', σ'.length = env'.length ∧ σ'.length = σ.length ∧ LentEq lent σ σ' ∧ StR K mg oh H' (σ'.zip env') ∧ Step (σ.zip env1) H1 (σ'.zip env') H' ∧ forD g body (ds.drop i) env' P,
    ⟨ds.length, by simp, Nat.zero_le _, env1, e1, rfl, .refl, S1, Step.refl, p⟩, ?_⟩
  rintro i m σ' H' ⟨rfl, hi, env', f1, f2, f3, S', s', q⟩
  have kp : Keeps (hotL oh ([] ++ σ.zip env1)) (hotL oh (σ'.zip env')) H1 H' := by
    have := s'.keeps (oh := oh) (B := [])
    rw [List.append_nil, List.append_nil] at this
    exact this
  have hh : Hh K (hotL oh (σ'.zip env')) H' := S'.hots
  have k' : SEnd K mg lent oh σ' env' H' P Y := k.after f2 f3 (s1.trans s')
  by_cases hlt : i < ds.length
  · rw [drop_cons_get hlt] at q
    obtain ⟨go, yl⟩ := I.turn _ H' i ds[i] kp hh (List.getElem?_eq_getElem hlt)
    refine .inr ⟨go, fun σ2 H2 => ∃ env2, σ2.length = env2.length ∧ σ2.length = σ.length ∧ LentEq lent σ σ2 ∧ StR K mg oh H2 (σ2.zip env2) ∧ Step (σ.zip env1) H1 (σ2.zip env2) H2 ∧ forD g body (ds.drop (i + 1)) env2 P,
      fun σ2 H2 n => ⟨ds.length - (i + 1), by omega, rfl, hlt, n⟩, fun x H2 y => ?_⟩
    obtain ⟨T, st⟩ := yl x H2 y
    refine ⟨oh, [], env', fz ds[i], _, f1, S'.push T st, q, fun σ3 env3 H3 g1 g2 g3 S3 s3 q3 => ?_⟩
    have s3' : Step (σ'.zip env') H' (σ3.zip env3) H3 := st.push.trans s3
    refine ⟨oh, env3, _, g1, S3, q3, ?_⟩
    have tot : Step (σ.zip env1) H1 (σ3.zip env3) H3 := s'.trans s3'
    have k3 : SEnd K mg lent oh σ3 env3 H3 P Y := k'.after g2 g3 s3'
    exact ⟨fun σ4 env4 H4 a1 a2 a3 S4 s4 p4 => ⟨env4, a1, a2.trans (g2.trans f2), f3.trans (g3.trans a3), S4, tot.trans s4, p4⟩,
      fun σ4 env4 H4 a1 a2 a3 S4 s4 p4 => k3.nx σ4 env4 H4 a1 a2 a3 S4 s4 p4,
      fun σ4 env4 H4 a1 a2 a3 S4 s4 p4 => ⟨env4, a1, a2.trans (g2.trans f2), f3.trans (g3.trans a3), S4, tot.trans s4, p4⟩,
      fun v val σ4 env4 H4 a1 a2 a3 S4 s4 p4 => k3.rt v val σ4 env4 H4 a1 a2 a3 S4 s4 p4⟩
  · have e : i = ds.length := by omega
    subst e
    rw [List.drop_length] at q
    exact .inl ⟨I.stop _ H' _ kp (Nat.le_refl _), k'.nx σ' env' H' f1 rfl .refl S' Step.refl q⟩
def wipeD (env : EnvD) : List Nat → EnvD
  | [] => env
  | v :: vs => (wipeD env vs).set v none
def backD (env0 : EnvD) : EnvD → List Nat → EnvD
  | env, [] => env
  | env, v :: vs => backD env0 (env.set v (((wipeD env0 vs)[v]?).getD none)) vs
theorem wipeD_len {env : EnvD} : ∀ {vs : List Nat}, (wipeD env vs).length = env.length
  | [] => rfl
  | v :: vs => by unfold wipeD; rw [List.length_set, wipeD_len]
theorem backD_len {env0 : EnvD} : ∀ {vs : List Nat} {env : EnvD}, (backD env0 env vs).length = env.length
  | [], _ => rfl
  | v :: vs, env => by unfold backD; rw [backD_len, List.length_set]
theorem wipe_get {σ : L2.St} {i : Nat} : ∀ {vs : List Nat}, (wipe σ vs)[i]? = if i ∈ vs then (if i < σ.length then some none else none) else σ[i]?
  | [] => by simp [wipe]
  | v :: vs => by
    unfold wipe
    by_cases h : v = i
    · subst h
      rw [if_pos List.mem_cons_self]
      by_cases hv : v < σ.length
      · rw [if_pos hv, List.getElem?_set_self (by rw [wipe_length]; exact hv)]
      · rw [if_neg hv, List.getElem?_eq_none (by rw [List.length_set, wipe_length]; omega)]
    · rw [List.getElem?_set_ne h, wipe_get (vs := vs)]
      have : i ∈ v :: vs ↔ i ∈ vs := by
        rw [List.mem_cons]
        exact ⟨fun z => z.resolve_left fun e => h e.symm, .inr⟩
      by_cases hm : i ∈ vs
      · rw [if_pos hm, if_pos (this.mpr hm)]
      · rw [if_neg hm, if_neg fun z => hm (this.mp z)]
def lentC (n : Nat) (vs : List Nat) : List Nat := (List.range n).filter fun i => decide (i ∉ vs)
theorem not_lentC {n i : Nat} {vs : List Nat} (h : i ∈ vs) : i ∉ lentC n vs := fun z => by
  have := (List.mem_filter.mp z).2
  simp at this
  exact this h
theorem wipe_eq {σ σ2 : L2.St} {vs : List Nat} (hl : σ2.length = (wipe σ vs).length) (h : LentEq (lentC σ.length vs) (wipe σ vs) σ2) : wipe σ2 vs = wipe σ vs := by
  rw [wipe_length] at hl
  refine List.ext_getElem? fun i => ?_
  rw [wipe_get, wipe_get]
  by_cases hm : i ∈ vs
  · rw [if_pos hm, if_pos hm, hl]
  · rw [if_neg hm, if_neg hm]
    by_cases hi : i < σ.length
    · have := h i (List.mem_filter.mpr ⟨List.mem_range.mpr hi, by simpa using hm⟩)
      rw [this, wipe_get, if_neg hm]
    · rw [List.getElem?_eq_none (by omega), List.getElem?_eq_none (by omega)]
theorem zip_out {σ : L2.St} {env : EnvD} (hl : σ.length = env.length) (i : Nat) : ∃ c : Lay, (core (σ.zip env)).Perm (core (c ++ (σ.set i none).zip (env.set i none))) ∧
    ∀ env2 : EnvD, env2.length = env.length → ∃ E, (core (c ++ (σ.set i none).zip env2)).Perm (core (σ.zip (env2.set i ((env[i]?).getD none))) ++ E) := by
  by_cases hi : i < σ.length
  · have h1 : σ[i]? = some σ[i] := List.getElem?_eq_getElem hi
    have h2 : env[i]? = some env[i] := List.getElem?_eq_getElem (by omega)
    obtain ⟨A, B, e1, e2⟩ := zip_split hl h1 h2
    have e3 := e2 none none
    refine ⟨[(σ[i], env[i])], ?_, fun env2 hz => ?_⟩
    · rw [e1, e3]
      show (core (A ++ (σ[i], env[i]) :: B)).Perm (core ((σ[i], env[i]) :: (A ++ (none, none) :: B)))
      refine List.Perm.trans (List.Perm.filter _ List.perm_middle) ?_
      show (core ((σ[i], env[i]) :: (A ++ B))).Perm _
      have e4 : core (A ++ (none, none) :: B) = core (A ++ B) := by rw [core_append, core_append, core_cons_none]
      cases env[i] with
      | none => rw [core_cons_none, core_cons_none, e4]
      | some x => rw [core_cons_some, core_cons_some, e4]
    · have g1 : (σ.set i none)[i]? = some none := List.getElem?_set_self hi
      have g2 : env2[i]? = some env2[i] := List.getElem?_eq_getElem (by omega)
      obtain ⟨A2, B2, f1, f2⟩ := zip_split (σ := σ.set i none) (env := env2) (by rw [List.length_set]; omega) g1 g2
      have f3 := f2 σ[i] env[i]
      rw [List.set_set, List.set_getElem_self hi] at f3
      rw [h2]
      show ∃ E, (core ((σ[i], env[i]) :: (σ.set i none).zip env2)).Perm (core (σ.zip (env2.set i env[i])) ++ E)
      rw [f1, f3]
      refine ⟨core [(none, env2[i])], ?_⟩
      refine List.Perm.trans (l₂ := core ((σ[i], env[i]) :: (none, env2[i]) :: (A2 ++ B2))) (List.Perm.filter _ (List.Perm.cons _ List.perm_middle)) ?_
      have p1 : (core (A2 ++ (σ[i], env[i]) :: B2)).Perm (core ((σ[i], env[i]) :: (A2 ++ B2))) := List.Perm.filter _ List.perm_middle
      refine List.Perm.trans ?_ (p1.symm.append_right _)
      have e5 : core ((σ[i], env[i]) :: (none, env2[i]) :: (A2 ++ B2)) = core [(σ[i], env[i])] ++ (core [(none, env2[i])] ++ core (A2 ++ B2)) := by
        rw [← core_append, ← core_append]; rfl
      have e6 : core ((σ[i], env[i]) :: (A2 ++ B2)) = core [(σ[i], env[i])] ++ core (A2 ++ B2) := by rw [← core_append]; rfl
      rw [e5, e6, List.append_assoc]
      exact List.Perm.append_left _ List.perm_append_comm
  · have s1 : ∀ x : Option V, σ.set i x = σ := fun x => List.set_eq_of_length_le (by omega)
    refine ⟨[], ?_, fun env2 hz => ⟨[], ?_⟩⟩
    · rw [s1, List.set_eq_of_length_le (by omega)]; exact List.Perm.refl _
    · rw [s1, List.set_eq_of_length_le (by omega), List.append_nil]; exact List.Perm.refl _
theorem wipe_out' {σ : L2.St} {env : EnvD} (hl : σ.length = env.length) : ∀ vs : List Nat, ∃ c : Lay, (core (σ.zip env)).Perm (core (c ++ (wipe σ vs).zip (wipeD env vs))) ∧
    ∀ env2 : EnvD, env2.length = env.length → ∃ E, (core (c ++ (wipe σ vs).zip env2)).Perm (core (σ.zip (backD env env2 vs)) ++ E)
  | [] => ⟨[], List.Perm.refl _, fun env2 _ => ⟨[], by rw [List.append_nil]; exact List.Perm.refl _⟩⟩
  | v :: vs => by
    obtain ⟨c, p, b⟩ := wipe_out' hl vs
    obtain ⟨c1, p1, b1⟩ := zip_out (σ := wipe σ vs) (env := wipeD env vs) (by rw [wipe_length, wipeD_len]; exact hl) v
    refine ⟨c ++ c1, ?_, fun env2 hz => ?_⟩
    · refine p.trans ?_
      show (core (c ++ (wipe σ vs).zip (wipeD env vs))).Perm (core ((c ++ c1) ++ ((wipe σ vs).set v none).zip ((wipeD env vs).set v none)))
      rw [List.append_assoc, core_append, core_append (A := c)]
      exact p1.append_left _
    · obtain ⟨E1, q1⟩ := b1 env2 (by rw [wipeD_len]; exact hz)
      obtain ⟨E2, q2⟩ := b (env2.set v (((wipeD env vs)[v]?).getD none)) (by rw [List.length_set]; exact hz)
      refine ⟨E2 ++ E1, ?_⟩
      show (core ((c ++ c1) ++ ((wipe σ vs).set v none).zip env2)).Perm (core (σ.zip (backD env (env2.set v (((wipeD env vs)[v]?).getD none)) vs)) ++ (E2 ++ E1))
      rw [List.append_assoc, core_append]
      refine (q1.append_left _).trans ?_
      rw [← List.append_assoc, ← core_append, ← List.append_assoc]
      exact q2.append_right _
def lcD (vs : List Nat) (g : WG) (tt : WT) (te : WE) : List D → List D → EnvD → (List D → EnvD → Prop) → Prop
  | [], acc, env, K => K acc env
  | d :: ds, acc, env, K => g (fz d) env fun e1 => tt e1 fun b e2 => if b then te e2 fun val e3 => acc.length < 16777216 ∧ lcD vs g tt te ds (acc ++ [val.d]) (wipeD e3 vs) K else lcD vs g tt te ds acc (wipeD e2 vs) K
def wLc (it : WI) (vs : List Nat) (g : WG) (tt : WT) (te : WE) : WE := fun env P => it env fun ds env1 => lcD vs g tt te ds [] (wipeD env1 vs) fun acc env2 => P ⟨true, .lst acc⟩ (backD env1 env2 vs)
def wYes : WT := fun env P => P true env
theorem yes_lift {σ : L2.St} {H : Hp} {Q : Bool → Hp → Prop} (h : liftT K mg wYes σ H Q) : tYes σ H Q := by
  obtain ⟨oh, τ, env, P, e0, S, t, k⟩ := h
  exact k true env H e0 S Step.refl t
theorem lc_lift {it : WI} {vs : List Nat} {g : WG} {tt : WT} {te : WE} {σ : L2.St} {H : Hp} {Q : VK} (h : liftE K mg (wLc it vs g tt te) σ H Q) :
    tLc (liftI K mg it) (liftG K mg (lentC σ.length vs) g) (liftT K mg tt) (liftE K mg te) vs σ H Q := by
  obtain ⟨oh, τ, env, P, e0, S, t1, k⟩ := h
  refine ⟨oh, τ, env, _, e0, S, t1, fun ds env1 H1 J e1 S1 s1 I p => ?_⟩
  intro L hL
  obtain ⟨c, pc, bc⟩ := wipe_out' e1 vs
  have cp : (core (τ ++ σ.zip env1)).Perm (core ((τ ++ c) ++ (wipe σ vs).zip (wipeD env1 vs)) ++ []) := by
    rw [List.append_nil, List.append_assoc, core_append, core_append (A := τ)]
    exact pc.append_left _
  have S1' : StR K mg oh H1 ((τ ++ c) ++ (wipe σ vs).zip (wipeD env1 vs)) := S1.core cp
  have s1' : Step (τ ++ σ.zip env) H ((τ ++ c) ++ (wipe σ vs).zip (wipeD env1 vs)) H1 := s1.coreR cp
  have hh1 : Hh K (hotL oh ((τ ++ c) ++ (wipe σ vs).zip (wipeD env1 vs))) H1 := S1'.hots
  have S2 : StR K mg oh (upd H1 L (.lst [])) ((some (.ref L), some ⟨true, .lst []⟩) :: ((τ ++ c) ++ (wipe σ vs).zip (wipeD env1 vs))) :=
    S1'.push (StR.new_lst (vs := []) (ds := []) hh1 hL .nil) (Step.new_lst hL)
  have s2 : Step ((τ ++ c) ++ (wipe σ vs).zip (wipeD env1 vs)) H1 ((some (.ref L), some ⟨true, .lst []⟩) :: ((τ ++ c) ++ (wipe σ vs).zip (wipeD env1 vs))) (upd H1 L (.lst [])) := (Step.new_lst hL).push
  have s02 := s1'.trans s2
  refine ⟨fun i m H' => m = ds.length - i ∧ i ≤ ds.length ∧ ∃ envB acc, envB.length = env1.length ∧ StR K mg oh H' ((some (.ref L), some ⟨true, .lst acc⟩) :: ((τ ++ c) ++ (wipe σ vs).zip envB)) ∧
      Step (τ ++ σ.zip env1) H1 ((some (.ref L), some ⟨true, .lst acc⟩) :: ((τ ++ c) ++ (wipe σ vs).zip envB)) H' ∧ lcD vs g tt te (ds.drop i) acc envB (fun acc env2 => P ⟨true, .lst acc⟩ (backD env1 env2 vs)),
    ⟨ds.length, by simp, Nat.zero_le _, wipeD env1 vs, [], wipeD_len, S2, ?_, p⟩, ?_⟩
  · exact s2.coreL (L' := τ ++ σ.zip env1) (by have := cp.symm; rw [List.append_nil] at this; exact this)
  rintro i m H' ⟨rfl, hi, envB, acc, hb, S', s', q⟩
  have kp : Keeps (hotL oh (τ ++ σ.zip env1)) (hotL oh ((some (.ref L), some ⟨true, .lst acc⟩) :: ((τ ++ c) ++ (wipe σ vs).zip envB))) H1 H' := by
    have := s'.keeps (oh := oh) (B := [])
    rw [List.append_nil, List.append_nil] at this
    exact this
  by_cases hlt : i < ds.length
  · rw [drop_cons_get hlt] at q
    obtain ⟨go, yl⟩ := I.turn _ H' i ds[i] kp S'.hots (List.getElem?_eq_getElem hlt)
    refine .inr ⟨go, fun H2 => ∃ envB acc, envB.length = env1.length ∧ StR K mg oh H2 ((some (.ref L), some ⟨true, .lst acc⟩) :: ((τ ++ c) ++ (wipe σ vs).zip envB)) ∧
      Step (τ ++ σ.zip env1) H1 ((some (.ref L), some ⟨true, .lst acc⟩) :: ((τ ++ c) ++ (wipe σ vs).zip envB)) H2 ∧ lcD vs g tt te (ds.drop (i + 1)) acc envB (fun acc env2 => P ⟨true, .lst acc⟩ (backD env1 env2 vs)),
      fun H2 n => ⟨ds.length - (i + 1), by omega, rfl, hlt, n⟩, fun x H2 y => ?_⟩
    obtain ⟨T, st⟩ := yl x H2 y
    have S3 := S'.push T st
    refine ⟨oh, (some (.ref L), some ⟨true, .lst acc⟩) :: (τ ++ c), envB, fz ds[i], _, by rw [wipe_length, hb]; exact e1, S3, q, fun σ2 env2 H3 a1 a2 a3 S4 s4 q4 => ?_⟩
    have s4' : Step ((some (.ref L), some ⟨true, .lst acc⟩) :: ((τ ++ c) ++ (wipe σ vs).zip envB)) H' ((some (.ref L), some ⟨true, .lst acc⟩) :: ((τ ++ c) ++ σ2.zip env2)) H3 := st.push.trans s4
    have hw : wipe σ2 vs = wipe σ vs := wipe_eq a2 a3
    have l2 : env2.length = env1.length := by rw [← a1, a2, wipe_length]; exact e1
    have fin : ∀ {acc' : List D} {env3 : EnvD} {H5 : Hp}, σ2.length = env3.length → StR K mg oh H5 ((some (.ref L), some ⟨true, .lst acc'⟩) :: ((τ ++ c) ++ σ2.zip env3)) →
        Step ((some (.ref L), some ⟨true, .lst acc⟩) :: ((τ ++ c) ++ (wipe σ vs).zip envB)) H' ((some (.ref L), some ⟨true, .lst acc'⟩) :: ((τ ++ c) ++ σ2.zip env3)) H5 →
        lcD vs g tt te (ds.drop (i + 1)) acc' (wipeD env3 vs) (fun acc env2 => P ⟨true, .lst acc⟩ (backD env1 env2 vs)) →
        ∃ envB acc, envB.length = env1.length ∧ StR K mg oh H5 ((some (.ref L), some ⟨true, .lst acc⟩) :: ((τ ++ c) ++ (wipe σ vs).zip envB)) ∧
          Step (τ ++ σ.zip env1) H1 ((some (.ref L), some ⟨true, .lst acc⟩) :: ((τ ++ c) ++ (wipe σ vs).zip envB)) H5 ∧ lcD vs g tt te (ds.drop (i + 1)) acc envB (fun acc env2 => P ⟨true, .lst acc⟩ (backD env1 env2 vs)) := by
      intro acc' env3 H5 b1 S5 s5 q5
      obtain ⟨c2, p2, _⟩ := wipe_out' b1 vs
      rw [hw] at p2
      have cp2 : (core ((some (V.ref L), some (⟨true, .lst acc'⟩ : Val)) :: ((τ ++ c) ++ σ2.zip env3))).Perm (core ((some (V.ref L), some (⟨true, .lst acc'⟩ : Val)) :: ((τ ++ c) ++ (wipe σ vs).zip (wipeD env3 vs))) ++ core c2) := by
        rw [core_cons_some, core_cons_some, List.cons_append]
        refine List.Perm.cons _ ?_
        rw [core_append, core_append (B := (wipe σ vs).zip (wipeD env3 vs)), List.append_assoc]
        refine (p2.append_left _).trans ?_
        rw [core_append (A := c2)]
        exact List.Perm.append_left _ List.perm_append_comm
      exact ⟨wipeD env3 vs, acc', by rw [wipeD_len, ← b1, a1, l2], S5.core cp2, (s'.trans s5).coreR cp2, q5⟩
    refine ⟨hw, oh, (some (.ref L), some ⟨true, .lst acc⟩) :: (τ ++ c), env2, _, a1, S4, q4, fun b env3 H4 b1 S5 s5 q5 => ?_⟩
    have s45 := s4'.trans s5
    cases b with
    | false => exact iteF (fin b1 S5 s45 (by simpa using q5))
    | true =>
      have q5 : te env3 fun val e3 => acc.length < 16777216 ∧ lcD vs g tt te (ds.drop (i + 1)) (acc ++ [val.d]) (wipeD e3 vs) (fun acc env2 => P ⟨true, .lst acc⟩ (backD env1 env2 vs)) := by simpa using q5
      refine iteT ⟨oh, (some (.ref L), some ⟨true, .lst acc⟩) :: (τ ++ c), env3, _, b1, S5, q5, fun v val env4 H5 c1 S6 s6 ⟨hz, q6⟩ => ?_⟩
      have S6f : StR K mg oh H5 ((some v, some (fz val.d)) :: (some (.ref L), some ⟨true, .lst acc⟩) :: ((τ ++ c) ++ σ2.zip env4)) := S6.freeze
      have S7 : StR K mg oh H5 ((some (.ref L), some ⟨true, .lst acc⟩) :: ((τ ++ c) ++ σ2.zip env4)) := S6f.tail
      obtain ⟨w, ws, ew, _, hw2, rs⟩ := own_lst S7.head
      cases ew
      refine ⟨ws, hw2, by rw [slen, rs.length]; exact hz, ?_⟩
      have rv : Rep K mg (hotL oh ((some (.ref L), some ⟨true, .lst acc⟩) :: ((τ ++ c) ++ σ2.zip env4))) H5 v val.d := S6f.head_fro
      obtain ⟨S8, s8⟩ := S7.put_lst (rs.append (.cons rv .nil))
      have s67 : Step ((some (.ref L), some ⟨true, .lst acc⟩) :: ((τ ++ c) ++ (wipe σ vs).zip envB)) H' ((some (.ref L), some ⟨true, .lst acc⟩) :: ((τ ++ c) ++ σ2.zip env4)) H5 :=
        s45.trans (s6.lessR fun a ha => roots_cons_sub a ha)
      exact fin c1 S8 (s67.trans s8) q6
  · have e : i = ds.length := by omega
    subst e
    rw [List.drop_length] at q
    refine .inl ⟨I.stop _ H' _ kp (Nat.le_refl _), ?_⟩
    obtain ⟨E, pb⟩ := bc envB hb
    have cpb : (core ((some (V.ref L), some (⟨true, .lst acc⟩ : Val)) :: ((τ ++ c) ++ (wipe σ vs).zip envB))).Perm (core ((some (V.ref L), some (⟨true, .lst acc⟩ : Val)) :: (τ ++ σ.zip (backD env1 envB vs))) ++ E) := by
      rw [core_cons_some, core_cons_some, List.cons_append]
      refine List.Perm.cons _ ?_
      rw [List.append_assoc, core_append, core_append (A := τ), List.append_assoc]
      exact pb.append_left _
    exact k _ _ (backD env1 envB vs) H' (by rw [backD_len, hb]; exact e1) (S'.core cpb) ((s1.trans s').coreR cpb) q
end
section
variable {K : PySem.W.Frag} {mg : Str → Option Value} {lent : List Nat}
def wsApp (i : Nat) (te : WE) : WS := fun env P => (∃ ds, env[i]? = some (some ⟨true, .lst ds⟩)) ∧ te env fun val env1 => ∃ ds, env1[i]? = some (some ⟨true, .lst ds⟩) ∧ ds.length < 16777216 ∧ P .nx (env1.set i (some ⟨true, .lst (ds ++ [val.d])⟩))
theorem app_lift {i : Nat} {te : WE} {Y : Ends} {σ : L2.St} {H : Hp} (h : liftS K mg lent (wsApp i te) Y σ H) : tDrop (tBM K "list" rAppend (tVar i) (tCons (liftE K mg te) tNil)) Y σ H := by
  obtain ⟨oh, env, P, e0, S, ⟨⟨ds0, hx0⟩, t1⟩, k⟩ := h
  obtain ⟨w, hw, r⟩ := get_slot (τ := []) e0 S hx0
  obtain ⟨a, vs, rfl, _, h2, _⟩ := own_lst r
  refine ⟨_, hw, .inl ⟨rfl, vs, .inl (.inl h2)⟩, oh, [], env, _, e0, S, t1, fun v val env1 H1 e1 S1 s1 ⟨ds, hx, hz, p⟩ => ?_⟩
  have S1f : StR K mg oh H1 ((some v, some (fz val.d)) :: σ.zip env1) := S1.freeze
  obtain ⟨b, ws, hb, g2, g3, put⟩ := slot_put (τ := []) (es := ds ++ [val.d]) e1 S1f.tail hx
  rw [hw] at hb
  cases hb
  refine ⟨a, ws, v, rfl, rfl, g2, by rw [slen, g3.length]; exact hz, ?_⟩
  obtain ⟨S3, s3⟩ := put _ (g3.append (.cons S1f.head_fro .nil))
  exact k.nx σ _ _ (by rw [List.length_set]; exact e1) rfl .refl S3 ((s1.lessR fun a ha => roots_cons_sub a ha).trans s3) p
end
end TL
namespace TL
open PySem PySem.Spec PyProof.Rows L2
section
variable {K : PySem.W.Frag} {mg : Str → Option Value} {oh : Pr} {H : Hp} {τ : Lay}
theorem slot_set {σ : L2.St} {env : EnvD} (e0 : σ.length = env.length) {i : Nat} (hl : i < env.length) {v : V} {val : Val} (S : StR K mg oh H ((some v, some val) :: (τ ++ σ.zip env))) :
    StR K mg oh H (τ ++ (σ.set i (some v)).zip (env.set i (some val))) ∧ ∀ a ∈ roots (τ ++ (σ.set i (some v)).zip (env.set i (some val))), a ∈ roots ((some v, some val) :: (τ ++ σ.zip env)) := by
  have h1 : σ[i]? = some σ[i] := List.getElem?_eq_getElem (by omega)
  have h2 : env[i]? = some env[i] := List.getElem?_eq_getElem hl
  obtain ⟨A, B, e1, e2⟩ := zip_split e0 h1 h2
  have e3 := e2 (some v) (some val)
  have hp : (core ((some v, some val) :: (τ ++ σ.zip env))).Perm (core (τ ++ (σ.set i (some v)).zip (env.set i (some val))) ++ core [(σ[i], env[i])]) := by
    rw [e1, e3, ← core_append]
    refine List.Perm.filter _ ?_
    refine (List.Perm.cons _ perm_mid).trans ((List.Perm.swap _ _ _).trans ?_)
    exact (List.Perm.cons _ perm_mid.symm).trans (List.perm_append_singleton _ _).symm
  exact ⟨S.core hp, fun a ha => (roots_coreP (E := core [(σ[i], env[i])]) hp).mem_iff.mpr (List.mem_append_left _ ha)⟩
end
def setAll {α : Type} : List α → List Nat → List α → List α
  | l, i :: is, x :: xs => setAll (l.set i x) is xs
  | l, _, _ => l
theorem setAll_len {α : Type} : ∀ {is : List Nat} {l xs : List α}, (setAll l is xs).length = l.length
  | [], l, xs => by cases xs <;> rfl
  | i :: is, l, [] => rfl
  | i :: is, l, x :: xs => by show (setAll (l.set i x) is xs).length = _; rw [setAll_len, List.length_set]
def vls : List AO → Option (List Val)
  | [] => some []
  | .vl x :: os => (vls os).map (x :: ·)
  | .ls _ :: _ => none
section
variable {K : PySem.W.Frag} {mg : Str → Option Value} {oh : Pr} {H : Hp} {τ : Lay} {lent : List Nat}
theorem vls_cells : ∀ {vs : List V} {os : List AO} {xs : List Val}, vs.length = os.length → vls os = some xs → cellsA vs os = zipA vs xs ∧ xs.length = os.length
  | [], [], xs, _, h => by cases h; exact ⟨rfl, rfl⟩
  | v :: vs, .vl x :: os, xs, hl, h => by
    simp only [vls, Option.map_eq_some_iff] at h
    obtain ⟨ys, h, rfl⟩ := h
    obtain ⟨a, b⟩ := vls_cells (by simpa using hl) h
    exact ⟨by show AO.cell v (.vl x) :: cellsA vs os = _; rw [a]; rfl, by simp [b]⟩
  | v :: vs, .ls i :: os, xs, hl, h => by cases h
theorem set_all (is : List Nat) : ∀ {vs : List V} {xs : List Val} {σ : L2.St} {env : EnvD}, σ.length = env.length → (∀ i ∈ is, i < env.length ∧ i ∉ lent) → vs.length = is.length → xs.length = is.length →
    StR K mg oh H (zipA vs xs ++ (τ ++ σ.zip env)) → StR K mg oh H (τ ++ (setAll σ is (vs.map some)).zip (setAll env is (xs.map some))) ∧
      (∀ a ∈ roots (τ ++ (setAll σ is (vs.map some)).zip (setAll env is (xs.map some))), a ∈ roots (zipA vs xs ++ (τ ++ σ.zip env))) ∧ LentEq lent σ (setAll σ is (vs.map some)) := by
  induction is with
  | nil =>
    intro vs xs σ env e0 _ h1 h2 S
    obtain rfl := List.length_eq_zero_iff.mp h1
    obtain rfl := List.length_eq_zero_iff.mp h2
    exact ⟨S, fun a ha => ha, .refl⟩
  | cons i is ih =>
    intro vs xs σ env e0 hi h1 h2 S
    obtain ⟨v, vs, rfl⟩ : ∃ v vs', vs = v :: vs' := by cases vs with | nil => cases h1 | cons v vs => exact ⟨v, vs, rfl⟩
    obtain ⟨x, xs, rfl⟩ : ∃ v vs', xs = v :: vs' := by cases xs with | nil => cases h2 | cons v vs => exact ⟨v, vs, rfl⟩
    have S' : StR K mg oh H ((some v, some x) :: ((zipA vs xs ++ τ) ++ σ.zip env)) := by
      have : zipA (v :: vs) (x :: xs) ++ (τ ++ σ.zip env) = (some v, some x) :: ((zipA vs xs ++ τ) ++ σ.zip env) := by
        rw [zipA_cons, List.cons_append, List.append_assoc]
      rw [← this]; exact S
    obtain ⟨S1, r1⟩ := slot_set e0 (hi i List.mem_cons_self).1 S'
    rw [List.append_assoc] at S1 r1
    obtain ⟨S2, r2, l2⟩ := ih (σ := σ.set i (some v)) (env := env.set i (some x)) (by rw [List.length_set, List.length_set]; exact e0)
      (fun j hj => ⟨by rw [List.length_set]; exact (hi j (List.mem_cons_of_mem _ hj)).1, (hi j (List.mem_cons_of_mem _ hj)).2⟩) (Nat.succ.inj h1) (Nat.succ.inj h2) S1
    refine ⟨S2, fun a ha => ?_, LentEq.trans (fun j hj => ?_) l2⟩
    · have := r1 a (r2 a ha)
      rw [zipA_cons, List.cons_append, ← List.append_assoc]
      exact this
    · exact List.getElem?_set_ne (fun z => (hi i List.mem_cons_self).2 (by rw [z]; exact hj))
def wsPar (is : List Nat) (ts : WAs) : WS := fun env P => ts env fun os env1 => ∃ xs, vls os = some xs ∧ xs.length = is.length ∧ (∀ i ∈ is, i < env1.length) ∧ P .nx (setAll env1 is (xs.map some))
def tParN (is : List Nat) (ta : TA) : TS := fun Y σ H => ta σ H fun vs H1 => vs.length = is.length ∧ Y.nx (setAll σ is (vs.map some)) H1
theorem par_lift {is : List Nat} (hi : ∀ i ∈ is, i ∉ lent) {ts : WAs} {Y : Ends} {σ : L2.St} (h : liftS K mg lent (wsPar is ts) Y σ H) : tParN is (liftAs K mg ts) Y σ H := by
  obtain ⟨oh, env, P, e0, S, t1, k⟩ := h
  refine ⟨oh, [], env, _, e0, S, t1, fun vs os env1 H1 e1 a1 S1 s1 ⟨xs, hx, hn, hb, p⟩ => ?_⟩
  obtain ⟨c1, c2⟩ := vls_cells (cellsA_len a1) hx
  rw [c1] at S1 s1
  obtain ⟨S2, r2, l2⟩ := set_all (lent := lent) (τ := []) is e1 (fun i h => ⟨hb i h, hi i h⟩) (by rw [cellsA_len a1, ← c2, hn]) hn S1
  refine ⟨by rw [cellsA_len a1, ← c2, hn], k.nx _ _ H1 (by rw [setAll_len, setAll_len]; exact e1) setAll_len l2 S2 (s1.lessR r2) p⟩
end
section
variable {X : Cx}
theorem store_all {pins : List (Addr × Obj)} {H : Hp} {E : Value → Shared → Prop} (hN : X.N.Nodup) (ns : List Str) : ∀ {is : List Nat} {vs : List V} {us : List Value} {σ : L2.St} {s : Shared} {Q : Unit → Shared → Prop}, ns.length = is.length → vs.length = is.length →
    (∀ j (h : j < is.length) (h' : j < ns.length), X.N[is[j]]? = some ns[j] ∧ X.env.scope.names.lookup ns[j] = some .local) → Vals vs us → L2.Inv X pins σ H s → (∀ s', L2.Inv X pins (setAll σ is (vs.map some)) H s' → Q () s') →
    wpAny (model X.prog X.w) X.A (assignInOrder (ns.map fun n => fun v => bindName X.env n v) us) Q E s := by
  induction ns with
  | nil =>
    intro is vs us σ s Q h1 h2 _ r I k
    obtain rfl := List.length_eq_zero_iff.mp h1.symm
    obtain rfl := List.length_eq_zero_iff.mp h2
    cases r
    exact assignInOrder_nil (k s I)
  | cons n ns ih =>
    intro is vs us σ s Q h1 h2 hx r I k
    obtain ⟨i, is, rfl⟩ : ∃ v vs', is = v :: vs' := by cases is with | nil => cases h1 | cons v vs => exact ⟨v, vs, rfl⟩
    obtain ⟨v, vs, rfl⟩ : ∃ v vs', vs = v :: vs' := by cases vs with | nil => cases h2 | cons v vs => exact ⟨v, vs, rfl⟩
    cases r with
    | cons r rr =>
      obtain ⟨a, b⟩ := hx 0 (Nat.succ_pos _) (Nat.succ_pos _)
      refine assignInOrder_cons (wpAny_bindName (store_ok I hN a (.inl b) r (fun s2 I2 => ?_) (.inr b)))
      exact ih (Nat.succ.inj h1) (Nat.succ.inj h2) (fun j h h' => hx (j + 1) (Nat.succ_lt_succ h) (Nat.succ_lt_succ h')) rr I2 k
theorem ps_parR {ts es : List Expr} {is : List Nat} {ns : List Str} {ta : TA} {kt k2 : Nat} {pt pt2 pos : Pos} (hc : X.calm = true) (hN : X.N.Nodup) (hn : ns.length = is.length)
    (hx : ∀ j (h : j < is.length) (h' : j < ns.length), X.N[is[j]]? = some ns[j] ∧ X.env.scope.names.lookup ns[j] = some .local) (ha : PA X es ta)
    (hw : swappedStores [.Tuple ts kt pt] (.Tuple es k2 pt2) X.env = pure (some ns)) (hz : is.length ≤ 16777216) :
    PS X (.Assign [.Tuple ts kt pt] (.Tuple es k2 pt2) pos) (fun Y σ H => ta σ H fun vs H1 => vs.length = is.length ∧ Y.nx (setAll σ is.reverse (vs.reverse.map some)) H1) := by
  refine ⟨fun pins s σ H D I h => ?_⟩
  rw [exec_Assign_arm]
  refine wpAny_bind (wpAny_standAt ?_)
  have hs : swapsWithSole [.Tuple ts kt pt] (.Tuple es k2 pt2) pos.line X.env = pure false := rfl
  rw [hs]
  refine wpAny_bind (wpAny_pure ?_)
  rw [if_neg (by decide)]
  refine wpAny_bind (Tuple_ (thn (ha.run _ pins s σ H _ I h) fun us s1 ⟨vs, H1, I1, r1, hl, q1⟩ => ?_))
  have hlu : us.length = is.length := by rw [← r1.length]; exact hl
  refine wpAny_newObj_type ?_ (by show us.toArray.size ≤ sizeLine; rw [slen, List.size_toArray, hlu]; exact hz)
  have I2 : L2.Inv X pins σ H1 { s1 with heap := s1.heap.push { cls := .type "tuple", data := .seq us.toArray } } := I1.kept (t' := s1.toks) fun b o e => Heap.get?_push_of_some _ e
  rw [hw]
  refine wpAny_bind (wpAny_pure ?_)
  show wpAny (model X.prog X.w) X.A (do rule "assign.swapped-stores"; let items ← unpackItems (.ref s1.heap.objs.size) ns.length none; assignInOrder (ns.reverse.map fun n => bindName X.env n) items.reverse; pure Flow.next) _ _ _
  have hnu : ns.length = us.toArray.size := by rw [List.size_toArray, hlu]; exact hn
  rw [hnu]
  refine wpAny_bind (wpAny_rule (wpAny_bind (unpackItems_tuple (items := us.toArray) (I.ok.hd hc) (IsTup.new s1.heap _) fun h' hx' => ?_)))
  have I3 := I2.kept (h' := h') (t' := s1.toks) fun b o e => hx' b o (Nat.ne_of_lt (Heap.lt_size e)) e
  refine wpAny_bind (store_all hN ns.reverse (is := is.reverse) (vs := vs.reverse) (by simp [hn]) (by simp [hl]) (fun j h h' => ?_) ?_ I3 fun s' I4 => wpAny_pure ⟨_, H1, I4, q1⟩)
  · rw [List.getElem_reverse, List.getElem_reverse]
    have e : ns.length - 1 - j = is.length - 1 - j := by rw [hn]
    simp only [e]
    exact hx _ (by simp at h; omega) (by simp at h; omega)
  · have : Vals vs us := r1
    have rv := L2.Vals.reverse this
    simpa using rv
end
end TL
namespace TL
open PySem PySem.Spec PyProof.Rows L2
section
variable {K : PySem.W.Frag} {mg : Str → Option Value} {lent : List Nat}
end
def pick {α : Type} (d : α) (perm : List Nat) (l : List α) : List α := perm.map fun i => l.getD i d
structure KB (K : PySem.W.Frag) (fd : FuncData) (ps : List Str) (npos : Nat) (ks : List Str) (perm : List Nat) (dU : List Value) : Prop where
  to : ∀ (s : Shared) (us ws : List Value), K.In s.heap → us.length = npos → ws.length = ks.length → BindsTo s fd ⟨us, ks.zip ws⟩ (ps.zip (pick .none perm (us ++ (ws ++ dU))))
theorem Vals.pick {perm : List Nat} {vs : List V} {us : List Value} (r : Vals vs us) : Vals (TL.pick .non perm vs) (TL.pick .none perm us) := by
  induction perm with
  | nil => exact .nil
  | cons i p ih =>
    refine .cons ?_ ih
    show RelV (vs.getD i .non) (us.getD i .none)
    rw [List.getD_eq_getElem?_getD, List.getD_eq_getElem?_getD]
    cases e : vs[i]? with
    | some v =>
      obtain ⟨u, hu, ru⟩ := r.get e
      rw [hu]
      exact ru
    | none =>
      rw [r.none_of e]
      rfl
theorem Reps.pick {K mg hot H} {perm : List Nat} {vs : List V} {ds : List D} (r : Reps K mg hot H vs ds) : Reps K mg hot H (TL.pick .non perm vs) (TL.pick .non perm ds) := by
  induction perm with
  | nil => exact .nil
  | cons i p ih =>
    refine .cons ?_ ih
    show Rep K mg hot H (vs.getD i .non) (ds.getD i .non)
    rw [List.getD_eq_getElem?_getD, List.getD_eq_getElem?_getD]
    cases e : vs[i]? with
    | some v =>
      obtain ⟨d, hd, rd⟩ := r.getV e
      rw [hd]
      exact rd
    | none =>
      have h1 := List.getElem?_eq_none_iff.mp e
      rw [List.getElem?_eq_none (by rw [← r.length]; exact h1)]
      exact .non
section
variable {X : Cx} {k : Nat} {f : Addr} {fd : FuncData} {ps : List Str} {sp : Sp}
theorem pk_consD {K mg} {e : Expr} {kws : List Keyword} {nm : Option Str} {kpos : Pos} {t : WX} {ts : WXs} (h : PE X e (liftX K mg t)) (hs : PK X kws (liftXs K mg ts)) : PK X (⟨nm, e, kpos⟩ :: kws) (liftXs K mg (wXcons t ts)) := by
  refine ⟨fun pos pins s σ H Q I w => (pk_cons h hs).run pos pins s σ H Q I ?_⟩
  obtain ⟨oh, τ, env, P, e0, S, t, k⟩ := w
  refine ⟨oh, τ, env, _, e0, S, t, fun v o env1 H1 e1 a1 S1 s1 t1 => ?_⟩
  refine ⟨oh, o.cell v :: τ, env1, _, e1, S1, t1, fun vs os env2 H2 e2 a2 S2 s2 p => ?_⟩
  have hp : (cells vs os ++ (o.cell v :: τ ++ σ.zip env2)).Perm (cells (v :: vs) (o :: os) ++ (τ ++ σ.zip env2)) := by
    show (cells vs os ++ o.cell v :: (τ ++ σ.zip env2)).Perm (o.cell v :: (cells vs os ++ (τ ++ σ.zip env2)))
    exact List.perm_middle
  exact k (v :: vs) (o :: os) env2 H2 e2 (.cons a1 a2) (S2.perm hp) ((s1.trans s2).permR hp) p
theorem pk_nilD {K mg} : PK X [] (liftXs K mg wXnil) := ⟨fun pos pins s σ H Q I w => pk_nil.run pos pins s σ H Q I (by
  obtain ⟨oh, τ, env, P, e0, S, t, k⟩ := w
  exact k [] [] env H e0 .nil S Step.refl t)⟩
end
theorem roots_zipA_fz {vs : List V} : ∀ {ds : List D}, roots (zipA vs (ds.map fz)) = [] := by
  induction vs with
  | nil => intro ds; rfl
  | cons v vs ih =>
    intro ds
    cases ds with
    | nil => rfl
    | cons d ds =>
      show roots ((some v, some (fz d)) :: zipA vs (ds.map fz)) = []
      rw [roots_fro, ih]
theorem push_fros {K mg oh H} {B : Lay} {vs : List V} {ds : List D} (r : Reps K mg (hotL oh B) H vs ds) (S : StR K mg oh H B) : StR K mg oh H (zipA vs (ds.map fz) ++ B) := by
  induction vs generalizing ds with
  | nil => cases r; exact S
  | cons v vs ih =>
    cases r with
    | cons r1 r2 =>
      have S1 := ih r2
      refine StR.push (L := zipA vs _ ++ B) S1 (StR.one_fro S1.hots ?_) Step.one_fro
      have e : ∀ {ds : List D}, hotL oh (zipA vs (ds.map fz) ++ B) = hotL oh B := by
        intro ds; unfold hotL; rw [roots_append, roots_zipA_fz, List.nil_append]
      rw [e]
      exact r1
section
variable {K : PySem.W.Frag} {mg : Str → Option Value}
end
end TL
namespace TL
open PySem PySem.Spec PyProof.Rows L2
inductive TyN where
  | bool | int | str | list | tuple
  deriving DecidableEq
def TyN.nm : TyN → String
  | .bool => "bool" | .int => "int" | .str => "str" | .list => "list" | .tuple => "tuple"
def isD (t : TyN) : D → Option Bool
  | .non => some false
  | .bl _ => some (decide (t = .bool) || decide (t = .int))
  | .int _ => some (decide (t = .int))
  | .str _ => some (decide (t = .str))
  | .lst _ => some (decide (t = .list))
  | .tup _ => some (decide (t = .tuple))
  | _ => none
def isDs : List TyN → D → Option Bool
  | [], _ => some false
  | t :: ts, d => (isD t d).bind fun a => (isDs ts d).map (a || ·)
def sIsi (t : TyN) : S1 := fun d P => ∃ b, isD t d = some b ∧ P (fz (.bl b))
def sIsiT (ts : List TyN) : S1 := fun d P => ∃ b, isDs ts d = some b ∧ P (fz (.bl b))
section
variable {K : PySem.W.Frag} {mg : Str → Option Value} {X : Cx} {hot : Pr} {H : Hp}
theorem Rd.ty_lst {a : Addr} {xs : List V} (h : Rd H a (.lst xs)) : TyX K H (.ref a) (.type "list") := h.elim (fun e => .base (.lst e)) fun ⟨o, e⟩ => .base (.frz e)
theorem Rd.ty_tup {a : Addr} {xs : List V} (h : Rd H a (.tup xs)) : TyX K H (.ref a) (.type "tuple") := h.elim (fun e => .base (.tup e)) fun ⟨o, e⟩ => .fTuple e
def tyD : D → String
  | .non => "NoneType" | .bl _ => "bool" | .int _ => "int" | .str _ => "str" | .lst _ => "list" | .tup _ => "tuple" | _ => ""
theorem tyX_of {v : V} {d : D} (r : VRo K mg hot H v d) (h : ∃ t b, isD t d = some b) : TyX K H v (.type (tyD d)) := by
  obtain ⟨o, r⟩ := r
  cases r with
  | fro r =>
    cases r with
    | non => exact .base .non
    | bl b => exact .base (.bl b)
    | int i => exact .base (.int i)
    | str x hx => exact .base (.str x)
    | lst hl rs => exact hl.elim (fun q => Rd.ty_lst q.2) fun ⟨o, its, n, lk, hc, _⟩ => .kList lk hc
    | tup hl rs => exact hl.elim (fun q => Rd.ty_tup q.2.rd) fun ⟨o, its, n, lk, hc, _⟩ => .kTuple lk hc
    | dicK _ _ _ _ => obtain ⟨t, b, h⟩ := h; cases h
    | ldc _ _ _ _ => obtain ⟨t, b, h⟩ := h; cases h
    | box => obtain ⟨t, b, h⟩ := h; cases h
    | al => obtain ⟨t, b, h⟩ := h; cases h
    | ins => obtain ⟨t, b, h⟩ := h; cases h
    | dkt => obtain ⟨t, b, h⟩ := h; cases h
    | fn _ => obtain ⟨t, b, h⟩ := h; cases h
    | lse _ _ _ => obtain ⟨t, b, h⟩ := h; cases h
  | lst h1 h2 _ => exact .base (.lst h2)
  | dicK _ _ _ _ => obtain ⟨t, b, h⟩ := h; cases h
  | boxT _ _ _ => obtain ⟨t, b, h⟩ := h; cases h
  | boxL _ _ _ => obtain ⟨t, b, h⟩ := h; cases h
  | boxD _ _ _ _ => obtain ⟨t, b, h⟩ := h; cases h
  | ins _ _ _ _ => obtain ⟨t, b, h⟩ := h; cases h
  | dkt _ _ _ _ _ _ => obtain ⟨t, b, h⟩ := h; cases h
  | boxI _ _ _ _ => obtain ⟨t, b, h⟩ := h; cases h
theorem kit_isD {t : TyN} {d : D} {b : Bool} (h : isD t d = some b) : PySem.W.kitOne K (.type (tyD d)) (.type t.nm) = some b := by
  cases d with
  | non => cases h; cases t <;> exact kit_ty (by decide +kernel)
  | bl c => cases h; cases t <;> exact kit_ty (a := "bool") (by decide +kernel)
  | int c => cases h; cases t <;> exact kit_ty (a := "int") (by decide +kernel)
  | str c => cases h; cases t <;> exact kit_ty (a := "str") (by decide +kernel)
  | lst c => cases h; cases t <;> exact kit_ty (a := "list") (by decide +kernel)
  | tup c => cases h; cases t <;> exact kit_ty (a := "tuple") (by decide +kernel)
  | dic _ _ => cases h
  | fn _ => cases h
  | lse _ => cases h
  | own _ _ => cases h
  | ldc _ _ => cases h
  | box _ => cases h
  | al => cases h
  | ins => cases h
  | dkt => cases h
theorem kit_isDs {d : D} : ∀ {ts : List TyN} {b : Bool}, isDs ts d = some b → PySem.W.kitAny K (.type (tyD d)) (ts.map fun t => Value.type t.nm) = some b
  | [], b, h => by cases h; exact kitAny_nil
  | t :: ts, b, h => by
    unfold isDs at h
    cases h1 : isD t d with
    | none => rw [h1] at h; cases h
    | some a =>
      rw [h1] at h
      simp only [Option.bind_some, Option.map_eq_some_iff] at h
      obtain ⟨c, h2, rfl⟩ := h
      refine kitAny_cons (kit_isD h1) (fun e => ?_) fun e => by rw [e]; rfl
      rw [e]
      exact kit_isDs h2
theorem ul_isi (t : TyN) : UnL K mg (fun x H Q => rIsi K [x, .ty t.nm] H Q) (sIsi t) := by
  intro hot H x dx P Q hh rx q k
  obtain ⟨b, hb, q⟩ := q
  exact ⟨x, _, _, _, b, rfl, .ty _, tyX_of rx ⟨t, b, hb⟩, kit_isD hb, post_fz hh k (.bl b) q⟩
def rIsiN (K : PySem.W.Frag) (ts : List TyN) : V → Hp → VK → Prop := fun x H Q => ∀ p, H p = none → rIsiT K [x, .ref p] (upd H p (.tup (ts.map fun t => V.ty t.nm))) Q
theorem isDs_some {d : D} : ∀ {ts : List TyN} {b : Bool}, isDs ts d = some b → ts = [] ∨ ∃ t b, isD t d = some b
  | [], _, _ => .inl rfl
  | t :: ts, b, h => by
    unfold isDs at h
    cases h1 : isD t d with
    | none => rw [h1] at h; cases h
    | some a => exact .inr ⟨t, a, h1⟩
theorem VRo.upd {v : V} {d : D} {p : Addr} {o : HO} (hh : Hh K hot H) (n : H p = none) (r : VRo K mg hot H v d) : VRo K mg hot (L2.upd H p o) v d := by
  obtain ⟨w, r⟩ := r
  refine ⟨w, r.mono (keeps_new n) fun b hb => ?_⟩
  obtain ⟨c, d', e⟩ := rootP_some hb
  cases e
  obtain ⟨c2, e2, q⟩ := r.own_all
  cases e2
  obtain ⟨q1, q2⟩ := q b hb
  exact ⟨q1, upd_ne fun e => by rw [e] at q2; exact q2 n⟩
theorem ul_isiT {ts : List TyN} (hne : ts ≠ []) : UnL K mg (rIsiN K ts) (sIsiT ts) := by
  intro hot H x dx P Q hh rx q k p hp
  obtain ⟨b, hb, q⟩ := q
  have hs := (isDs_some hb).resolve_left hne
  have hk : Paired ClsV (ts.map fun t => V.ty t.nm) (ts.map fun t => Value.type t.nm) := by
    clear hb hs hne
    induction ts with
    | nil => exact .nil
    | cons t ts ih => exact .cons (.ty _) ih
  refine ⟨x, p, _, _, _, b, rfl, upd_same, hk, tyX_of (rx.upd hh hp) hs, kit_isDs hb, ?_⟩
  exact k (.bl b) (fz (.bl b)) _ (StR.one_fro (hot_upd hh (.new hp)) (.bl b)) (Step.new_fro hp) q
def sDivmod : SN
  | [.int i, .int j], P => (0 < j ∧ j < 1073741824) ∧ P (fz (.tup [.int (i / j), .int (i % j)]))
  | _, _ => False
theorem cl_divmod : CallL K mg (fun xs H Q => ∃ i j, xs = [.int i, .int j] ∧ CDiv i j ∧ ∀ p o, H p = none → PTu o → Q (.ref p) (newT H p o [.int (i / j), .int (i % j)])) sDivmod := by
  intro hot H xs ds P Q hh rx q k
  match ds, q with
  | [.int i, .int j], q =>
    obtain ⟨x, y, rfl, r1, r2⟩ := rx.two
    rw [r1.int, r2.int]
    exact ⟨i, j, rfl, q.1, fun p o n po => post_tup hh k n po (.cons (.int _) (.cons (.int _) .nil)) q.2⟩
end
def wiZipA (t : WXs) : WI := fun env P => t env fun os env1 => ∃ d e, tms os = some [d, e] ∧ ∃ ds es, ((d = .lst ds ∧ e = .lst es) ∨ (d = .tup ds ∧ e = .tup es)) ∧ P (zipD ds es) env1
section
variable {K : PySem.W.Frag} {mg : Str → Option Value} {hot : Pr} {H : Hp}
theorem items_zipT {a b : Addr} {vs ws : List V} {ds es : List D} (h : TpF K hot H a vs) (r : Reps K mg hot H vs ds) (h2 : TpF K hot H b ws) (r2 : Reps K mg hot H ws es) : ItemsOk K mg hot H (RZ.ItzT K a b) (zipD ds es) where
  turn := fun hot' H' i d kp hh hd => by
    obtain ⟨y, z, hy, hz, rfl⟩ := zipD_get hd
    have h' := (kp.tp h).sq
    have h2' := (kp.tp h2).sq
    obtain ⟨v, hv, rv⟩ := r.get hy
    obtain ⟨w, hw, rw'⟩ := r2.get hz
    refine ⟨⟨vs, ws, v, w, h', h2', hv, hw⟩, fun x H2 q => ?_⟩
    obtain ⟨T, p, p2, rfl, n, rfl, q1, q2⟩ := q
    have e1 := q1 vs h'
    rw [hv] at e1
    cases e1
    have e2 := q2 ws h2'
    rw [hw] at e2
    cases e2
    exact ⟨StR.new_lse hh n (.cons (rv.mono kp) (.cons (rw'.mono kp) .nil)), Step.new_fro n⟩
  stop := fun hot' H' i kp hi => ⟨vs, ws, (kp.tp h).sq, (kp.tp h2).sq, by rw [r.length, r2.length]; rw [zipD_len] at hi; omega⟩
theorem zipA_items {t : WXs} {σ : L2.St} {R : It → Hp → Prop} (h : liftI K mg (wiZipA t) σ H R) : RZ.iZipA K (liftXs K mg t) σ H R := by
  obtain ⟨oh, τ, env, P, e0, S, t1, k⟩ := h
  refine ⟨oh, τ, env, _, e0, S, t1, fun vs os env1 H1 e1 a1 S1 s1 ⟨d, e, hr, ds, es, hd, p⟩ => ?_⟩
  have r := tms_reps S1 a1 hr fun c hc => List.mem_append_left _ hc
  rw [hot_cells] at r
  have fin := fun J I => k (zipD ds es) env1 H1 J e1 S1.right (s1.lessR fun a ha => roots_app_sub a ha) I p
  cases r with
  | cons r1 r2 =>
    cases r2 with
    | cons r2 r3 =>
      cases r3
      rcases hd with ⟨rfl, rfl⟩ | ⟨rfl, rfl⟩
      · cases r1 with
        | lst hl rs =>
          cases r2 with
          | lst hl2 rs2 => exact ⟨_, _, _, _, rfl, .inl ⟨hl.sq, hl2.sq, fin _ (items_zip hl rs hl2 rs2)⟩⟩
      · cases r1 with
        | tup hl rs =>
          cases r2 with
          | tup hl2 rs2 => exact ⟨_, _, _, _, rfl, .inr ⟨hl.sq, hl2.sq, fin _ (items_zipT hl rs hl2 rs2)⟩⟩
end
def gwIx (i j : Nat) : WG := fun val env P => ∃ ds, env[i]? = some (some ⟨true, .lst ds⟩) ∧ j < ds.length ∧ P (env.set i (some ⟨true, .lst (ds.set j val.d)⟩))
section
variable {K : PySem.W.Frag} {mg : Str → Option Value} {lent : List Nat}
theorem gix_lift {i j : Nat} {v : V} {σ : L2.St} {H : Hp} {Q : L2.St → Hp → Prop} (h : liftG K mg lent (gwIx i j) v σ H Q) : gSub (tVar i) (tC (.int j)) rSetL v σ H Q := by
  obtain ⟨oh, τ, env, val, P, e0, S, ⟨ds, hx, hj, p⟩, k⟩ := h
  have Sf : StR K mg oh H (((some v, some (fz val.d)) :: τ) ++ σ.zip env) := S.freeze
  obtain ⟨a, vs, ha, h2, h3, put⟩ := slot_put (es := ds.set j val.d) e0 Sf hx
  have rv : Rep K mg (hotL oh (((some v, some (fz val.d)) :: τ) ++ σ.zip env)) H v val.d := by
    have := (show StR K mg oh H ((some v, some (fz val.d)) :: (τ ++ σ.zip env)) from Sf).head_fro
    rw [show (((some v, some (fz val.d)) :: τ) ++ σ.zip env : Lay) = (some v, some (fz val.d)) :: (τ ++ σ.zip env) from rfl, hot_fro]
    exact this
  obtain ⟨S3, s3⟩ := put _ (h3.set rv j)
  refine ⟨_, ha, ?_⟩
  refine ⟨a, vs, (j : Int), j, rfl, rfl, h2, by rw [h3.length]; unfold ixN; rw [if_pos (by omega), if_pos (by omega)]; rfl, ?_⟩
  have S4 : StR K mg oh (upd H a (.lst (vs.set j v))) ((some v, some (fz val.d)) :: (τ ++ σ.zip (env.set i (some ⟨true, .lst (ds.set j val.d)⟩)))) := S3
  refine k σ _ _ (by rw [List.length_set]; exact e0) rfl .refl S4.tail ?_ p
  have s0 : Step ((some v, some val) :: (τ ++ σ.zip env)) H (((some v, some (fz val.d)) :: τ) ++ σ.zip env) H := Step.refl.lessR fun a ha => by
    have ha : a ∈ roots ((some v, some (fz val.d)) :: (τ ++ σ.zip env)) := ha
    rw [roots_fro] at ha
    exact roots_cons_sub a ha
  exact (s0.trans s3).lessR fun a ha => roots_cons_sub (c := (some v, some (fz val.d))) a ha
end
end TL
namespace TL
open PySem PySem.Spec PyProof.Rows L2
def unInts : List D → Option (List Int)
  | [] => some []
  | .int b :: ds => (unInts ds).map (b :: ·)
  | _ => none
@[simp] theorem unInts_nil : unInts [] = some [] := (rfl)
@[simp] theorem unInts_cons (b ds) : unInts (.int b :: ds) = (unInts ds).map (b :: ·) := (rfl)
@[simp] theorem unInts_w (ns : List Int) : unInts (ns.map D.int) = some ns := by
  induction ns with
  | nil => rfl
  | cons w ws ih => rw [List.map_cons, unInts_cons, ih]; rfl
theorem unInts_eq {ds : List D} {ns : List Int} (h : unInts ds = some ns) : ds = ns.map D.int := by
  induction ds generalizing ns with
  | nil => cases h; rfl
  | cons d ds ih =>
    cases d with
    | int b =>
      rw [unInts_cons, Option.map_eq_some_iff] at h
      obtain ⟨l, h1, rfl⟩ := h
      rw [List.map_cons, ← ih h1]
    | _ => cases h
def unStrs : List D → Option (List Str)
  | [] => some []
  | .str b :: ds => (unStrs ds).map (b :: ·)
  | _ => none
@[simp] theorem unStrs_nil : unStrs [] = some [] := (rfl)
@[simp] theorem unStrs_cons (b ds) : unStrs (.str b :: ds) = (unStrs ds).map (b :: ·) := (rfl)
@[simp] theorem unStrs_w (ns : List Str) : unStrs (ns.map D.str) = some ns := by
  induction ns with
  | nil => rfl
  | cons w ws ih => rw [List.map_cons, unStrs_cons, ih]; rfl
theorem unStrs_eq {ds : List D} {ns : List Str} (h : unStrs ds = some ns) : ds = ns.map D.str := by
  induction ds generalizing ns with
  | nil => cases h; rfl
  | cons d ds ih =>
    cases d with
    | str b =>
      rw [unStrs_cons, Option.map_eq_some_iff] at h
      obtain ⟨l, h1, rfl⟩ := h
      rw [List.map_cons, ← ih h1]
    | _ => cases h
section
variable {K : PySem.W.Frag} {mg : Str → Option Value} {X : Cx} {hot : Pr} {H : Hp}
theorem Reps.ints : ∀ {ns : List Int} {vs : List V}, Reps K mg hot H vs (ns.map D.int) → vs = ns.map V.int
  | [], _, .nil => rfl
  | n :: ns, _, .cons h t => by cases h; rw [Reps.ints t]; rfl
theorem Reps.strs : ∀ {ns : List Str} {vs : List V}, Reps K mg hot H vs (ns.map D.str) → vs = ns.map V.str ∧ ∀ s ∈ ns, PyData.strOk s = true
  | [], _, .nil => ⟨rfl, fun _ h => nomatch h⟩
  | n :: ns, _, .cons h t => by
    cases h with
    | str _ h =>
      obtain ⟨a, b⟩ := Reps.strs t
      refine ⟨by rw [a]; rfl, fun s hs => ?_⟩
      rcases List.mem_cons.mp hs with e | hs
      · rw [e]; exact h
      · exact b s hs
def sMax : SN
  | [.int i, .int j], P => P (fz (.int (if j > i then j else i)))
  | [.lst xs], P => ∃ ns, unInts xs = some ns ∧ 0 < ns.length ∧ ∀ m, m ∈ ns → (∀ y, y ∈ ns → y ≤ m) → P (fz (.int m))
  | _, _ => False
def sMin : SN
  | [.int i, .int j], P => P (fz (.int (if j < i then j else i)))
  | [.lst xs], P => ∃ ns, unInts xs = some ns ∧ 0 < ns.length ∧ ∀ m, m ∈ ns → (∀ y, y ∈ ns → m ≤ y) → P (fz (.int m))
  | _, _ => False
def sSum : SN
  | [.lst xs], P => ∃ ns, unInts xs = some ns ∧ P (fz (.int ns.sum))
  | _, _ => False
def sStr : SN
  | [.int i], P => (-1000000000000000000000000000000 < i ∧ i < 1000000000000000000000000000000) ∧ P (fz (.str (toString i)))
  | [.str s], P => P (fz (.str s))
  | _, _ => False
theorem VRo.lstI {xs : List D} {ns : List Int} {v : V} (r : VRo K mg hot H v (.lst xs)) (h : unInts xs = some ns) : ∃ a, v = .ref a ∧ SqL K H a (ns.map V.int) := by
  obtain ⟨a, vs, rfl, h1, r1⟩ := r.lst
  rw [unInts_eq h] at r1
  exact ⟨a, rfl, r1.ints ▸ h1⟩
def rMaxA (K : PySem.W.Frag) : List V → Hp → VK → Prop := fun xs H Q => (∃ i j, xs = [.int i, .int j] ∧ Q (.int (if j > i then j else i)) H) ∨ rMax K xs H Q
def rMinA (K : PySem.W.Frag) : List V → Hp → VK → Prop := fun xs H Q => (∃ i j, xs = [.int i, .int j] ∧ Q (.int (if j < i then j else i)) H) ∨ rMin K xs H Q
theorem cr_maxA (hc : X.calm = true) : CallR X (.builtin "max") (rMaxA X.K) := CallR.or (call_max2 hc) (cr_max hc)
theorem cr_minA (hc : X.calm = true) : CallR X (.builtin "min") (rMinA X.K) := CallR.or (call_min2 hc) (cr_min hc)
theorem cl_max : CallL K mg (rMaxA K) sMax := by
  intro hot H xs ds P Q hh rx q k
  unfold sMax at q
  split at q
  · obtain ⟨x, y, rfl, r1, r2⟩ := rx.two
    rw [r1.int, r2.int]
    exact .inl ⟨_, _, rfl, post_fz hh k (.int _) q⟩
  · obtain ⟨ns, h1, h2, q⟩ := q
    obtain ⟨x, rfl, r⟩ := rx.one
    obtain ⟨a, rfl, hs⟩ := r.lstI h1
    exact .inr ⟨a, ns, rfl, hs, h2, fun m m1 m2 => post_fz hh k (.int _) (q m m1 m2)⟩
  · exact q.elim
theorem cl_min : CallL K mg (rMinA K) sMin := by
  intro hot H xs ds P Q hh rx q k
  unfold sMin at q
  split at q
  · obtain ⟨x, y, rfl, r1, r2⟩ := rx.two
    rw [r1.int, r2.int]
    exact .inl ⟨_, _, rfl, post_fz hh k (.int _) q⟩
  · obtain ⟨ns, h1, h2, q⟩ := q
    obtain ⟨x, rfl, r⟩ := rx.one
    obtain ⟨a, rfl, hs⟩ := r.lstI h1
    exact .inr ⟨a, ns, rfl, hs, h2, fun m m1 m2 => post_fz hh k (.int _) (q m m1 m2)⟩
  · exact q.elim
theorem cl_sum : CallL K mg (rSum K) sSum := by
  intro hot H xs ds P Q hh rx q k
  unfold sSum at q
  split at q
  · obtain ⟨ns, h1, q⟩ := q
    obtain ⟨x, rfl, r⟩ := rx.one
    obtain ⟨a, rfl, hs⟩ := r.lstI h1
    exact ⟨a, ns, rfl, hs, post_fz hh k (.int _) q⟩
  · exact q.elim
def rStrA : List V → Hp → VK → Prop := fun xs H Q => (∃ i, xs = [.int i] ∧ i.natAbs.log2 < 1920 ∧ Q (.str (toString i)) H) ∨ ∃ a, xs = [.str a] ∧ Q (.str a) H
theorem cr_strA : CallR X (.type "str") rStrA := CallR.or call_str_int SkE.call_str_str
theorem cl_str : CallL K mg rStrA sStr := by
  intro hot H xs ds P Q hh rx q k
  unfold sStr at q
  split at q
  · obtain ⟨x, rfl, r⟩ := rx.one
    rw [r.int]
    exact .inl ⟨_, rfl, log_small (by omega), post_fz hh k (.str _ (ok_ofString _)) q.2⟩
  · obtain ⟨x, rfl, r⟩ := rx.one
    obtain ⟨rfl, h⟩ := r.str
    exact .inr ⟨_, rfl, post_fz hh k (.str _ h) q⟩
  · exact q.elim
end
end TL
namespace TL
open PySem PySem.Spec PyProof.Rows L2
def keyU : D → Option Key
  | .int i => some (.inl i)
  | .str s => some (.inr s)
  | _ => none
theorem keyU_keyD (k : Key) : keyU (keyD k) = some k := by cases k <;> rfl
theorem keyU_eq {d : D} {k : Key} (h : keyU d = some k) : d = keyD k := by
  cases d <;> cases h <;> rfl
def dget : List D → List D → Key → Option D
  | k :: ks, d :: ds, x => if keyU k = some x then some d else dget ks ds x
  | _, _, _ => none
def dput (ks ds : List D) (x : Key) (v : D) : List D × List D :=
  if (ks.any fun k => decide (keyU k = some x)) = true then (ks, List.zipWith (fun k d => if keyU k = some x then v else d) ks ds) else (ks ++ [keyD x], ds ++ [v])
section
variable {K : PySem.W.Frag} {mg : Str → Option Value} {X : Cx} {hot : Pr} {H : Hp}
theorem dget_val : ∀ {kvs : List (Key × V)} {ds : List D} {x : Key}, Reps K mg hot H (kvs.map (·.2)) ds →
    (∀ d, dget (kvs.map fun p => keyD p.1) ds x = some d → ∃ v, valV kvs x = some v ∧ Rep K mg hot H v d) ∧ (dget (kvs.map fun p => keyD p.1) ds x = none → valV kvs x = none)
  | [], _, x, .nil => ⟨fun d h => (nomatch h), fun _ => rfl⟩
  | p :: kvs, d0 :: ds, x, .cons h t => by
    obtain ⟨a, b⟩ := dget_val (x := x) t
    have e : dget ((p :: kvs).map fun p => keyD p.1) (d0 :: ds) x = if keyU (keyD p.1) = some x then some d0 else dget (kvs.map fun p => keyD p.1) ds x := rfl
    rw [e, keyU_keyD]
    by_cases hk : p.1 = x
    · rw [if_pos (by rw [hk]), valV_pos hk]
      exact ⟨fun d hd => by cases hd; exact ⟨_, rfl, h⟩, fun z => by cases z⟩
    · rw [if_neg (fun z => hk (Option.some.inj z)), valV_neg hk]
      exact ⟨a, b⟩
theorem key_V {d : D} {k : Key} {v : V} (h : keyU d = some k) (r : VRo K mg hot H v d) : v = kV k := by
  obtain rfl := keyU_eq h
  cases k with
  | inl i => exact r.int
  | inr s => exact r.str.1
theorem VRo.dic {ks ds : List D} {v : V} (r : VRo K mg hot H v (.dic ks ds)) : ∃ a kvs, v = .ref a ∧ H a = some (.dK kvs) ∧ ks = (kvs.map fun p => keyD p.1) ∧ Reps K mg hot H (kvs.map (·.2)) ds := by
  obtain ⟨o, r⟩ := r
  cases r with
  | fro r =>
    cases r with
    | dicK n h e rs => exact ⟨_, _, rfl, h, e.eq, rs⟩
  | dicK h1 h2 e rs => exact ⟨_, _, rfl, h2, e.eq, rs⟩
theorem VRo.dicO {ks ds : List D} {v : V} (r : VRo K mg hot H v (.dic ks ds)) : ∃ a kvs, v = .ref a ∧ H a = some (.dK kvs) ∧ KsOf kvs ks ∧ Reps K mg hot H (kvs.map (·.2)) ds := by
  obtain ⟨o, r⟩ := r
  cases r with
  | fro r =>
    cases r with
    | dicK n h e rs => exact ⟨_, _, rfl, h, e, rs⟩
  | dicK h1 h2 e rs => exact ⟨_, _, rfl, h2, e, rs⟩
theorem VRo.ldc {ks ds : List D} {v : V} (r : VRo K mg hot H v (.ldc ks ds)) : ∃ a kvs, v = .ref a ∧ Rd H a (.dK kvs) ∧ ks = (kvs.map fun p => keyD p.1) ∧ Reps K mg hot H (kvs.map (·.2)) ds := by
  obtain ⟨o, r⟩ := r
  cases r with
  | fro r =>
    cases r with
    | ldc n h e rs => exact ⟨_, _, rfl, .inr ⟨_, h⟩, e.eq, rs⟩
def rIxDic : R2 := fun x y H Q => ∃ a v, x = .ref a ∧ DGet H a y (some v) ∧ Q v H
theorem ix_dic (hu : X.A.units + 1 < cLine) : IxR X rIxDic := by
  intro value slice pins s σ H x y v u Q I rx ry h hs
  obtain ⟨a, w, rfl, g, q⟩ := h
  obtain rfl : v = Value.ref a := rx
  exact tail_any (dict_typeIs I g) PySem.F.slot_dict_getitem.lookup (d_getItem hu I g ry fun w' s3 I3 rw' => ⟨w, H, I3, rw', q⟩) hs
def sIxDic : S2
  | .dic ks ds, x, P => ∃ k d, keyU x = some k ∧ dget ks ds k = some d ∧ P (fz d)
  | .ldc ks ds, x, P => ∃ k d, keyU x = some k ∧ dget ks ds k = some d ∧ P (fz d)
  | _, _, _ => False
theorem bl_ixDic : BinL K mg rIxDic sIxDic := by
  intro hot H x y dx dy P Q hh rx ry q k
  cases dx <;> simp only [sIxDic] at q <;> try exact q.elim
  · obtain ⟨key, d, h1, h2, q⟩ := q
    obtain ⟨a, kvs, rfl, h3, rfl, rs⟩ := rx.dic
    obtain ⟨v, e, r⟩ := (dget_val rs).1 d h2
    exact ⟨a, v, rfl, .inl ⟨kvs, key, .inl h3, key_V h1 ry, e.symm⟩, post_fz hh k r q⟩
  · obtain ⟨key, d, h1, h2, q⟩ := q
    obtain ⟨a, kvs, rfl, h3, rfl, rs⟩ := rx.ldc
    obtain ⟨v, e, r⟩ := (dget_val rs).1 d h2
    exact ⟨a, v, rfl, .inl ⟨kvs, key, h3, key_V h1 ry, e.symm⟩, post_fz hh k r q⟩
def rInDic (neg : Bool) : R2 := fun x y H Q => ∃ a o, y = .ref a ∧ DGet H a x o ∧ Q (.bl (if neg then !o.isSome else o.isSome)) H
theorem op_inDic (hu : X.A.units + 1 < cLine) : OpR X (compareOp .In) (rInDic false) := by
  intro pins s σ H x y v u Q I rx ry h
  obtain ⟨a, o, rfl, g, q⟩ := h
  obtain rfl : u = Value.ref a := ry
  exact d_in hu I g rx fun s3 I3 => ⟨.bl o.isSome, H, I3, rfl, q⟩
theorem op_notinDic (hu : X.A.units + 1 < cLine) : OpR X (compareOp .NotIn) (rInDic true) := by
  intro pins s σ H x y v u Q I rx ry h
  obtain ⟨a, o, rfl, g, q⟩ := h
  obtain rfl : u = Value.ref a := ry
  exact d_notIn hu I g rx fun s3 I3 => ⟨.bl (!o.isSome), H, I3, rfl, q⟩
def sInDic (neg : Bool) : S2
  | x, .dic ks ds, P => ∃ k, keyU x = some k ∧ P (fz (.bl (if neg then !(dget ks ds k).isSome else (dget ks ds k).isSome)))
  | _, _, _ => False
theorem bl_inDic (neg : Bool) : BinL K mg (rInDic neg) (sInDic neg) := by
  intro hot H x y dx dy P Q hh rx ry q k
  cases dy <;> simp only [sInDic] at q <;> try exact q.elim
  obtain ⟨key, h1, q⟩ := q
  obtain ⟨a, kvs, rfl, h3, rfl, rs⟩ := ry.dic
  obtain ⟨g1, g2⟩ := dget_val (x := key) rs
  rename_i ds
  have e : (dget (kvs.map fun p => keyD p.1) ds key).isSome = (valV kvs key).isSome := by
    cases hd : dget (kvs.map fun p => keyD p.1) ds key with
    | none => rw [g2 hd]; rfl
    | some d => obtain ⟨v, ev, _⟩ := g1 d hd; rw [ev]; rfl
  rw [e] at q
  exact ⟨a, _, rfl, .inl ⟨kvs, key, .inl h3, key_V h1 rx, rfl⟩, post_fz hh k (.bl _) q⟩
end
end TL
namespace TL
open PySem PySem.Spec PyProof.Rows L2
section
variable {K : PySem.W.Frag} {mg : Str → Option Value} {oh : Pr} {H : Hp} {L : Lay}
theorem StR.put_own {a : Addr} {d d' : D} {o' : HO} (S : StR K mg oh H ((some (.ref a), some ⟨true, d⟩) :: L))
    (mk : ∀ (hot' : Pr) (H' : Hp), Keeps (hotL oh ((some (.ref a), some ⟨true, d⟩) :: L)) hot' H H' → hot' a → H' a = some o' → VR K mg hot' H' (.ref a) ⟨true, d'⟩) (hb1 : bx d = [] := by rfl) (hb2 : bx d' = [] := by rfl) :
    StR K mg oh (upd H a o') ((some (.ref a), some ⟨true, d'⟩) :: L) ∧ Step ((some (.ref a), some ⟨true, d⟩) :: L) H ((some (.ref a), some ⟨true, d'⟩) :: L) (upd H a o') := by
  have T : StR K mg (hotL oh L) H [(some (.ref a), some ⟨true, d⟩)] := StR.split (A := [_]) S
  have ne : ∀ b o, H b = some o → b ∉ roots [((some (.ref a), some ⟨true, d⟩) : Cell)] → b ≠ a := fun b o _ n z => n (by subst z; rw [roots_one hb1]; exact List.mem_cons_self)
  have st : Step [((some (.ref a), some ⟨true, d⟩) : Cell)] H [(some (.ref a), some ⟨true, d'⟩)] (upd H a o') :=
    ⟨fun b o e n _ => by rw [upd_ne (ne b o e n)]; exact e, fun b hb => .inl (by rw [roots_one hb2] at hb; rw [roots_one hb1]; exact hb), fun b e => by
      by_cases q : b = a
      · subst q; rw [upd_same]; simp
      · rw [upd_ne q]; exact e⟩
  refine ⟨StR.frame (A := [_]) (A' := [_]) S ?_ st, Step.frame (A := [_]) (A' := [_]) st⟩
  refine ⟨fun p hp x hx => ?_, by rw [roots_one hb2]; exact List.nodup_cons.mpr ⟨by simp, List.nodup_nil⟩, fun b hb => T.dj b (by rw [roots_one hb2] at hb; rw [roots_one hb1]; exact hb), hot_upd T.tr (T.root_pl (by rw [roots_one hb1]; exact List.mem_cons_self))⟩
  obtain rfl := List.mem_singleton.mp hp
  cases hx
  refine ⟨_, rfl, mk _ _ ⟨fun b o e n _ => ?_, fun b o _ n q => n ?_⟩ (.inr (by rw [roots_one hb2]; exact List.mem_cons_self)) upd_same⟩
  · rw [upd_ne fun z => n (.inr (by subst z; rw [roots_ownG, hb1]; exact List.mem_cons_self))]
    exact e
  · rcases q with (q | q) | q
    · exact .inl q
    · exact .inr (by rw [roots_ownG, hb1]; exact List.mem_cons_of_mem _ q)
    · rw [roots_one hb2] at q
      exact .inr (by rw [roots_ownG, hb1]; simp at q; subst q; exact List.mem_cons_self)
theorem slot_own {σ : L2.St} {env : EnvD} {τ : Lay} {i : Nat} {d : D} (e0 : σ.length = env.length) (S : StR K mg oh H (τ ++ σ.zip env)) (hx : env[i]? = some (some ⟨true, d⟩)) (hb1 : bx d = [] := by rfl) :
    ∃ a, σ[i]? = some (some (.ref a)) ∧ VR K mg (hotL oh (τ ++ σ.zip env)) H (.ref a) ⟨true, d⟩ ∧ ∀ (d' : D) (o' : HO), (∀ (hot' : Pr) (H' : Hp), Keeps (hotL oh (τ ++ σ.zip env)) hot' H H' → hot' a → H' a = some o' → VR K mg hot' H' (.ref a) ⟨true, d'⟩) → (hb2 : bx d' = [] := by rfl) →
      StR K mg oh (upd H a o') (τ ++ σ.zip (env.set i (some ⟨true, d'⟩))) ∧ Step (τ ++ σ.zip env) H (τ ++ σ.zip (env.set i (some ⟨true, d'⟩))) (upd H a o') := by
  obtain ⟨v, hv, r⟩ := get_slot e0 S hx
  obtain ⟨a, rfl, _, _⟩ := r.own_root
  refine ⟨a, hv, r, fun d' o' mk hb2 => ?_⟩
  obtain ⟨A, B, e1, e2⟩ := zip_split e0 hv hx
  have hset : σ.set i (some (.ref a)) = σ := by
    obtain ⟨hi, he⟩ := List.getElem?_eq_some_iff.mp hv
    rw [← he]; exact List.set_getElem_self hi
  have e3 := e2 (some (.ref a)) (some ⟨true, d'⟩)
  rw [hset] at e3
  have p1 : (τ ++ σ.zip env).Perm ((some (.ref a), some ⟨true, d⟩) :: (τ ++ (A ++ B))) := by rw [e1]; exact perm_mid
  have p2 : (τ ++ σ.zip (env.set i (some ⟨true, d'⟩))).Perm ((some (.ref a), some ⟨true, d'⟩) :: (τ ++ (A ++ B))) := by rw [e3]; exact perm_mid
  have eh : hotL oh (τ ++ σ.zip env) = hotL oh ((some (.ref a), some ⟨true, d⟩) :: (τ ++ (A ++ B))) := by
    funext b
    apply propext
    unfold hotL
    rw [roots_perm p1]
  rw [eh] at mk
  obtain ⟨S2, s2⟩ := (S.perm p1).put_own mk hb1 hb2
  exact ⟨S2.perm p2.symm, (s2.permL p1.symm).permR p2.symm⟩
theorem putK_ok {kvs : List (Key × V)} {k : Key} {v : V} (h : ∀ p ∈ kvs, keyOk p.1) (hk : keyOk k) : ∀ p ∈ putK kvs k v, keyOk p.1 := by
  unfold putK
  split
  · intro p hp
    obtain ⟨q, hq, rfl⟩ := List.mem_map.mp hp
    have := h q hq
    show keyOk (if q.1 = k then (q.1, v) else q).1
    split <;> exact this
  · intro p hp
    rcases List.mem_append.mp hp with z | z
    · exact h p z
    · rw [List.mem_singleton.mp z]; exact hk
theorem key_ok {hot : Pr} {d : D} {k : Key} {v : V} (h : keyU d = some k) (r : VRo K mg hot H v d) : keyOk k := by
  obtain rfl := keyU_eq h
  cases k with
  | inl i => trivial
  | inr s => exact r.str.2
def wsSetA (i : Nat) (tv ti : WE) : WS := fun env P => tv env fun val env1 => (∃ x, env1[i]? = some (some x)) ∧ ti env1 fun iv env2 =>
  (∃ ds j k, env2[i]? = some (some ⟨true, .lst ds⟩) ∧ iv.d = .int j ∧ ixN ds.length j = some k ∧ P .nx (env2.set i (some ⟨true, .lst (ds.set k val.d)⟩))) ∨
  ∃ ks ds k, env2[i]? = some (some ⟨true, .dic ks ds⟩) ∧ keyU iv.d = some k ∧ ks.length < 16777216 ∧ P .nx (env2.set i (some ⟨true, .dic (dput ks ds k val.d).1 (dput ks ds k val.d).2⟩))
def rSetA : V → V → V → Hp → (Hp → Prop) → Prop := fun o i v H Q => rSetL o i v H Q ∨ ∃ a H', o = .ref a ∧ DPut H a i v H' ∧ Q H'
theorem set_any {X : Cx} (hu : X.A.units + 1 < cLine) : PSet X rSetA := by
  intro pins s σ H o i v ov iv u Q I ro ri rv h
  rcases h with h | ⟨a, H', rfl, g, q⟩
  · exact set_list pins s σ H o i v ov iv u Q I ro ri rv h
  · obtain rfl : ov = Value.ref a := ro
    exact d_setItem hu I g ri rv fun s' I' => ⟨H', I', q⟩
theorem any_key {kvs : List (Key × V)} {x : Key} : ((kvs.map fun p => keyD p.1).any fun k => decide (keyU k = some x)) = kvs.any fun kv => decide (kv.1 = x) := by
  rw [List.any_map]
  congr 1
  funext p
  show decide (keyU (keyD p.1) = some x) = _
  rw [keyU_keyD]
  exact decide_eq_decide.mpr ⟨Option.some.inj, fun h => by rw [h]⟩
theorem dput_rep {hot : Pr} {kvs : List (Key × V)} {ds : List D} {x : Key} {v : V} {d : D} (r : Reps K mg hot H (kvs.map (·.2)) ds) (rv : Rep K mg hot H v d) :
    (dput (kvs.map fun p => keyD p.1) ds x d).1 = ((putK kvs x v).map fun p => keyD p.1) ∧ Reps K mg hot H ((putK kvs x v).map (·.2)) (dput (kvs.map fun p => keyD p.1) ds x d).2 := by
  unfold dput putK
  rw [any_key]
  split
  · refine ⟨?_, ?_⟩
    · rw [List.map_map]
      apply List.map_congr_left
      intro p _
      show keyD p.1 = keyD (if p.1 = x then (p.1, v) else p).1
      split <;> rfl
    · show Reps K mg hot H ((kvs.map fun kv => if kv.1 = x then (kv.1, v) else kv).map (·.2)) (List.zipWith (fun k d' => if keyU k = some x then d else d') (kvs.map fun p => keyD p.1) ds)
      rename_i hany; clear hany
      induction kvs generalizing ds with
      | nil => cases r; exact .nil
      | cons p kvs ih =>
        obtain ⟨d0, ds, rfl⟩ : ∃ d0 ds', ds = d0 :: ds' := by cases r with | cons h t => exact ⟨_, _, rfl⟩
        cases r with
        | cons h t =>
          show Reps K mg hot H ((if p.1 = x then (p.1, v) else p).2 :: _) ((if keyU (keyD p.1) = some x then d else d0) :: _)
          rw [keyU_keyD]
          refine .cons ?_ (ih t)
          by_cases hk : p.1 = x
          · rw [if_pos hk, if_pos (by rw [hk])]; exact rv
          · rw [if_neg hk, if_neg (fun z => hk (Option.some.inj z))]; exact h
  · refine ⟨?_, ?_⟩
    · show _ ++ [keyD x] = (kvs ++ [(x, v)]).map _
      rw [List.map_append]; rfl
    · show Reps K mg hot H ((kvs ++ [(x, v)]).map (·.2)) (ds ++ [d])
      rw [List.map_append]
      exact r.append (.cons rv .nil)
end
section
variable {K : PySem.W.Frag} {mg : Str → Option Value} {lent : List Nat} {Y : Ends} {σ : L2.St} {H : Hp}
theorem setA_lift {i : Nat} {tv ti : WE} (h : liftS K mg lent (wsSetA i tv ti) Y σ H) : tAsg (liftE K mg tv) (gSub (tVar i) (liftE K mg ti) rSetA) Y σ H := by
  obtain ⟨oh, env, P, e0, S, t1, k⟩ := h
  refine ⟨oh, [], env, _, e0, S, t1, fun v val env1 H1 e1 S1 s1 ⟨⟨x0, hx0⟩, t2⟩ => ?_⟩
  have S1f := S1.freeze
  have s1f := s1.freeze
  obtain ⟨w, hw, _⟩ := get_slot (τ := []) e1 S1.tail hx0
  refine ⟨w, hw, oh, [(some v, some (fz val.d))], env1, _, e1, S1f, t2, fun vi iv env2 H2 e2 S2 s2 q => ?_⟩
  have s12 : Step (σ.zip env) H ([(some v, some (fz val.d))] ++ σ.zip env2) H2 := (s1f.trans s2).lessR fun a ha => roots_cons_sub a ha
  have rv : Rep K mg (hotL oh ([(some v, some (fz val.d))] ++ σ.zip env2)) H2 v val.d := by
    have := S2.tail.head_fro
    rw [show ([(some v, some (fz val.d))] ++ σ.zip env2 : Lay) = (some v, some (fz val.d)) :: σ.zip env2 from rfl, hot_fro]
    exact this
  rcases q with ⟨ds, j, kk, hx, hj, hk, p⟩ | ⟨ks, ds, key, hx, hk, hl, p⟩
  · obtain ⟨a, vs, ha, h2, h3, put⟩ := slot_put (es := ds.set kk val.d) e2 S2.tail hx
    rw [hw] at ha
    cases ha
    obtain ⟨S3, s3⟩ := put _ (h3.set rv kk)
    refine .inl ⟨a, vs, j, kk, rfl, S2.head.to_int hj, h2, by rw [h3.length]; exact hk, ?_⟩
    exact k.nx σ _ _ (by rw [List.length_set]; exact e2) rfl .refl S3.tail ((s12.trans s3).lessR fun a ha => roots_cons_sub a ha) p
  · obtain ⟨a, ha, r, put⟩ := slot_own e2 S2.tail hx
    rw [hw] at ha
    cases ha
    cases r with
    | dicK h1 h2 e rs =>
      rename_i kvs
      obtain ⟨e, ok1⟩ := e
      subst e
      have kok : keyOk key := key_ok hk ⟨iv.own, S2.head⟩
      obtain ⟨q1, q2⟩ := dput_rep (x := key) rs rv
      obtain ⟨S3, s3⟩ := put (.dic (dput (kvs.map fun p => keyD p.1) ds key val.d).1 (dput (kvs.map fun p => keyD p.1) ds key val.d).2) (.dK (putK kvs key v)) fun hot' H' kp hh e' => .dicK hh e' ⟨q1, putK_ok ok1 kok⟩ (q2.mono kp)
      have kv : vi = kV key := key_V hk ⟨iv.own, S2.head⟩
      refine .inr ⟨a, _, rfl, .inl ⟨kvs, key, h2, kv, by rw [slen]; rw [List.length_map] at hl; exact hl, rfl⟩, ?_⟩
      exact k.nx σ _ _ (by rw [List.length_set]; exact e2) rfl .refl S3.tail ((s12.trans s3).lessR fun a ha => roots_cons_sub a ha) p
end
end TL
namespace TL
open PySem PySem.Spec PyProof.Rows L2
section
variable {K : PySem.W.Frag} {mg : Str → Option Value} {H : Hp}
end
section
variable {K : PySem.W.Frag} {mg : Str → Option Value} {H : Hp}
end
end TL
namespace TL
open PySem PySem.Spec PyProof.Rows L2
def pyT (d : D) : PyData := (toPy d).getD .none
def leS (x y : D) : Bool := PySem.W.dataLe false pyT x y
def sortD (xs : List D) : List D := xs.mergeSort leS
def alikeD (xs : List D) : Bool := xs.all fun x => xs.all fun y => PySem.W.alike (pyT x) (pyT y)
def isTup1 : D → Bool
  | .tup (_ :: _) => true
  | _ => false
def noTup : D → Bool
  | .tup _ => false
  | .non => false
  | _ => true
def okSort (xs : List D) : Bool := pures xs && alikeD xs && (xs.all isTup1 || xs.all noTup) && xs.all fun x => decide (depthD x ≤ 20)
theorem pures_mem : ∀ {xs : List D}, pures xs = true → ∀ x ∈ xs, pure' x = true
  | [], _, x, h => by cases h
  | y :: ys, hp, x, h => by
    have hp' : (pure' y && pures ys) = true := hp
    rw [Bool.and_eq_true] at hp'
    rcases List.mem_cons.mp h with e | h
    · rw [e]; exact hp'.1
    · exact pures_mem hp'.2 x h
theorem toPy_T {d : D} (h : pure' d = true) : toPy d = some (pyT d) := by
  obtain ⟨p, e⟩ := toPy_pure d h
  unfold pyT
  rw [e]; rfl
def rSortedDat (K : PySem.W.Frag) : List V → Hp → VK → Prop := fun vs H Q => ∃ (a : Addr) (bs : List (V × PyData)), vs = [V.ref a] ∧ SqL K H a (bs.map (·.1)) ∧ (∀ b ∈ bs, Dp K H b.1 b.2) ∧ PySem.W.AllAlike (bs.map (·.2)) ∧ PySem.W.Sortable (bs.map (·.2)) ∧ (∀ b ∈ bs, b.2.depth ≤ 20) ∧
  ∀ p, H p = none → Q (.ref p) (upd H p (.lst ((bs.mergeSort (PySem.W.dataLe false (·.2))).map (·.1))))
section
variable {X : Cx}
theorem each_zip {pins : List (Addr × Obj)} {σ : L2.St} {H : Hp} {s : Shared} (I : L2.Inv X pins σ H s) : ∀ {bs : List (V × PyData)} {us : List Value}, Vals (bs.map (·.1)) us → (∀ b ∈ bs, Dp X.K H b.1 b.2) →
    PySem.W.EachIs (fun u (b : V × PyData) => RelV b.1 u) us bs ∧ PySem.W.EachIs (fun u (b : V × PyData) => ∃ as, Reads s.heap u b.2 as) us bs
  | [], _, .nil, _ => ⟨.nil, .nil⟩
  | b :: bs, _, .cons r t, h => by
    obtain ⟨e1, e2⟩ := each_zip I t fun c hc => h c (List.mem_cons_of_mem _ hc)
    exact ⟨.cons r e1, .cons (Dp.reads I b.2 b.1 _ (h b List.mem_cons_self) r) e2⟩
theorem each_vals : ∀ {bs : List (V × PyData)} {us : List Value}, PySem.W.EachIs (fun u (b : V × PyData) => RelV b.1 u) us bs → Vals (bs.map (·.1)) us
  | _, _, .nil => .nil
  | _, _, .cons h t => .cons h (each_vals t)
theorem cr_sortedDat (hu : X.A.units + 64 < cLine) : CallR X (.builtin "sorted") (rSortedDat X.K) := by
  intro pins s σ H vs us Q I r h
  obtain ⟨a, bs, rfl, hs, hd, hal, hso, hdp, q⟩ := h
  obtain ⟨its, rv, hl, hz⟩ := I.list hs
  obtain ⟨u, rfl, ru⟩ := vals1 r
  obtain rfl : u = Value.ref a := ru
  obtain ⟨e1, e2⟩ := each_zip I rv hd
  have hlen : bs.length ≤ sizeLine := by
    have := rv.length
    rw [List.length_map] at this
    rw [List.length_map] at hz
    omega
  refine PySem.W.sorted_data hl.isList e1 e2 hal hso hlen (fun b hb => by have := hdp b hb; omega) fun out ho eo => ?_
  obtain ⟨ep, he'⟩ := PyProof.Rows.sortedAll_at s.heap its out.toArray
  have hv := each_vals eo
  refine ⟨.ref _, upd H (s.heap.objs.size + 1) (.lst ((bs.mergeSort (PySem.W.dataLe false (·.2))).map (·.1))), I.laid (t' := s.toks) (fun _ _ => PyProof.Rows.sortedAll_old) (Nat.le_succ _) ⟨?_, _, ep, hv, he'⟩, rfl, q _ (I.hok.fresh (Nat.le_succ _))⟩
  rw [List.length_map, (List.mergeSort_perm _ _).length_eq]
  exact hlen
end
section
variable {K : PySem.W.Frag} {mg : Str → Option Value} {X : Cx} {hot : Pr} {H : Hp}
theorem Reps.triples : ∀ {ds : List D} {vs : List V}, Reps K mg hot H vs ds → ∃ ts : List (V × D), vs = ts.map (·.1) ∧ ds = ts.map (·.2) ∧ ∀ t ∈ ts, Rep K mg hot H t.1 t.2
  | _, _, .nil => ⟨[], rfl, rfl, fun _ h => nomatch h⟩
  | _, _, .cons h t => by
    obtain ⟨ts, rfl, rfl, e⟩ := Reps.triples t
    refine ⟨(_, _) :: ts, rfl, rfl, fun t ht => ?_⟩
    rcases List.mem_cons.mp ht with rfl | ht
    · exact h
    · exact e t ht
theorem reps_of : ∀ {ts : List (V × D)}, (∀ t ∈ ts, Rep K mg hot H t.1 t.2) → Reps K mg hot H (ts.map (·.1)) (ts.map (·.2))
  | [], _ => .nil
  | t :: ts, h => .cons (h t List.mem_cons_self) (reps_of fun u hu => h u (List.mem_cons_of_mem _ hu))
theorem okSort_data {xs : List D} (h : okSort xs = true) : pures xs = true ∧ PySem.W.AllAlike (xs.map pyT) ∧ PySem.W.Sortable (xs.map pyT) ∧ ∀ x ∈ xs, (pyT x).depth ≤ 20 := by
  unfold okSort at h
  simp only [Bool.and_eq_true, Bool.or_eq_true, List.all_eq_true, decide_eq_true_eq] at h
  obtain ⟨⟨⟨h1, h2⟩, h3⟩, h4⟩ := h
  refine ⟨h1, fun d hd d' hd' => ?_, ?_, fun x hx => ?_⟩
  · obtain ⟨x, hx, rfl⟩ := List.mem_map.mp hd
    obtain ⟨y, hy, rfl⟩ := List.mem_map.mp hd'
    unfold alikeD at h2
    exact List.all_eq_true.mp (List.all_eq_true.mp h2 x hx) y hy
  · rcases h3 with h3 | h3
    · refine .inl fun d hd => ?_
      obtain ⟨x, hx, rfl⟩ := List.mem_map.mp hd
      have h := h3 x hx
      have hp := pures_mem h1 x hx
      have e := toPy_T hp
      cases x with
      | tup ys =>
        obtain ⟨ps, e1, e2⟩ := toPy_tup e
        cases ys with
        | nil => cases h
        | cons y ys =>
          obtain ⟨q, qs, _, _, rfl⟩ := toPys_cons e1
          exact ⟨q, qs, e2⟩
      | _ => cases h
    · refine .inr fun d hd => ?_
      obtain ⟨x, hx, rfl⟩ := List.mem_map.mp hd
      have h := h3 x hx
      have hp := pures_mem h1 x hx
      have e := toPy_T hp
      cases x with
      | lst ys =>
        obtain ⟨ps, e1, e2⟩ := toPy_lst e
        rw [e2]
        exact ⟨fun z => (nomatch z), fun _ z => (nomatch z)⟩
      | bl b => exact ⟨fun z => (nomatch (show PyData.bool b = .none from z)), fun _ z => (nomatch (show PyData.bool b = .tuple _ from z))⟩
      | int b => exact ⟨fun z => (nomatch (show PyData.int b = .none from z)), fun _ z => (nomatch (show PyData.int b = .tuple _ from z))⟩
      | str b => exact ⟨fun z => (nomatch (show PyData.str b = .none from z)), fun _ z => (nomatch (show PyData.str b = .tuple _ from z))⟩
      | tup _ => cases h
      | non => cases h
      | dic _ _ => cases hp
      | fn _ => cases hp
      | lse _ => cases hp
      | own _ _ => cases hp
      | ldc _ _ => cases hp
      | box _ => cases hp
      | al => cases hp
      | ins => cases hp
      | dkt => cases hp
  · rw [depth_toPy _ _ (toPy_T (pures_mem h1 x hx))]
    exact h4 x hx
theorem sort_trip {ts : List (V × D)} : ((ts.map fun t => (t.1, pyT t.2)).mergeSort (PySem.W.dataLe false (·.2))).map (·.1) = (ts.mergeSort fun a b => leS a.2 b.2).map (·.1) ∧ sortD (ts.map (·.2)) = (ts.mergeSort fun a b => leS a.2 b.2).map (·.2) := by
  constructor
  · rw [← List.map_mergeSort (r := fun a b : V × D => leS a.2 b.2) (s := PySem.W.dataLe false (fun p : V × PyData => p.2)) (f := fun t : V × D => (t.1, pyT t.2)) (fun a _ b _ => rfl), List.map_map]
    rfl
  · unfold sortD
    rw [List.map_mergeSort (r := fun a b : V × D => leS a.2 b.2) (s := leS) (f := fun t : V × D => t.2) (fun a _ b _ => rfl)]
def sSorted1 : SN
  | [.lst xs], P => okSort xs = true ∧ P ⟨true, .lst (sortD xs)⟩
  | _, _ => False
theorem cl_sorted1 : CallL K mg (rSortedDat K) sSorted1 := by
  intro hot H xs ds P Q hh rx q k
  unfold sSorted1 at q
  split at q
  · obtain ⟨x, rfl, r⟩ := rx.one
    obtain ⟨ok, q⟩ := q
    obtain ⟨a, vs, rfl, hs, r1⟩ := r.lst
    obtain ⟨ts, rfl, rfl, rt⟩ := Reps.triples r1
    obtain ⟨o1, o2, o3, o4⟩ := okSort_data ok
    obtain ⟨s1, s2⟩ := sort_trip (ts := ts)
    refine ⟨a, ts.map fun t => (t.1, pyT t.2), rfl, by rw [List.map_map]; exact hs, fun b hb => ?_, by rw [List.map_map]; rw [List.map_map] at o2; exact o2, by rw [List.map_map]; rw [List.map_map] at o3; exact o3, fun b hb => ?_, fun p n => ?_⟩
    · obtain ⟨t, ht, rfl⟩ := List.mem_map.mp hb
      exact (Rep.dp _ _ _ (rt t ht) (toPy_T (pures_mem o1 _ (List.mem_map.mpr ⟨t, ht, rfl⟩)))).1
    · obtain ⟨t, ht, rfl⟩ := List.mem_map.mp hb
      exact o4 _ (List.mem_map.mpr ⟨t, ht, rfl⟩)
    · rw [s1]
      refine post_lst hh k n (reps_of (ts := ts.mergeSort fun a b => leS a.2 b.2) fun t ht => rt t ((List.mergeSort_perm _ _).mem_iff.mp ht)) ?_
      rw [← s2]
      exact q
  · exact q.elim
end
end TL
namespace TL
open PySem PySem.Spec PyProof.Rows L2
section
variable {prog : Program} {w : World} {A : Around} {E : Value → Shared → Prop}
theorem walk_tup {s0 : Shared} {it t : Addr} {items : Array Value} (hh : A.handled = none) (hne : t ≠ it) (i : Nat) (hi : i ≤ items.size) :
    WalksS prog w A it [it, t] [it] (fun a b => a = b) (items.size - i) (fun j v => items[i + j]? = some v) (fun j s => IsTupIter s.heap it t (i + j) ∧ IsTup s.heap t items) where
  sub := fun b hb => by rw [List.mem_singleton.mp hb]; exact List.mem_cons_self
  grefl := fun _ => rfl
  gtrans := fun _ _ _ h1 h2 => h1.trans h2
  frame := fun j s h' tk st _ hk => by
    obtain ⟨⟨o, ho, r⟩, ⟨o2, ho2, r2⟩⟩ := st
    exact ⟨⟨o, hk it List.mem_cons_self _ ho, r⟩, ⟨o2, hk t (List.mem_cons_of_mem _ List.mem_cons_self) _ ho2, r2⟩⟩
  item := fun j s Q E hj st hQ => by
    have hlt : i + j < items.size := by omega
    refine next_tuple_item st.1 st.2 (x := items[i + j]) (by simp [hlt]) fun h' hit' hs' => ?_
    exact hQ _ _ (by simp [hlt]) ⟨hit', st.2.extBut hs'.extBut hne⟩ ⟨fun b o hb e => (hs'.2 b (fun z => hb (by rw [z]; exact List.mem_cons_self))).trans e, rfl, rfl, rfl, Nat.le_refl _⟩
  done := fun s Q E st hQ => by
    refine next_tuple_end hh st.1 st.2 (by simp; omega) fun h' he => ?_
    exact hQ _ ⟨fun b o hb e => he b o (fun z => hb (by rw [z]; exact List.mem_cons_self)) e, rfl, rfl, rfl, Nat.le_refl _⟩
  self := fun j s Q E st hQ => wpAny_pyIter_tupleiter st.1 hQ
theorem star_items {s : Shared} {t : Addr} {us : List Value} {n i : Nat} {Q : List Value → Shared → Prop} (hh : A.handled = none) (ht : IsTup s.heap t us.toArray) (hn : n = i + 1) (hi : i ≤ us.length) (hz : us.length ≤ sizeLine)
    (hQ : ∀ (h' : Heap) (tk : Nat), (∀ b o, s.heap.get? b = some o → h'.get? b = some o) → s.toks ≤ tk → Q (us.take i ++ [.ref h'.objs.size]) { s with heap := h'.push { cls := .type "list", data := .seq (us.drop i).toArray }, toks := tk }) :
    wpAny (model prog w) A (unpackItems (.ref t) n (some i)) Q E s := by
  have hlt : t ≠ s.heap.objs.size := by obtain ⟨o, ho, _⟩ := ht; exact Nat.ne_of_lt (Heap.lt_size ho)
  have hus : us.toArray.size = us.length := by simp
  subst hn
  unfold unpackItems
  refine wpAny_bind ?_
  unfold notIterableAtAll
  refine wpAny_bind (wpAny_specialOf ht.typeIs slot_tuple_iter.lookup (wpAny_pure ?_))
  simp only [Bool.false_eq_true, if_false]
  refine wpAny_bind (wpAny_holding (iter_tuple ht ?_))
  refine wpAny_bind (wpAny_holding (draw_tuple hlt i 0 _ _ ⟨_, Heap.get?_push_size _ rfl, rfl, rfl⟩ (ht.push _) (by omega) fun h1 hit1 hs1 => ?_))
  rw [List.drop_zero, Nat.zero_add] at *
  have hl : (us.toArray.toList.take i).length = i := by simp; omega
  rw [if_neg (by rw [hl]; omega)]
  have ht1 : IsTup h1 t us.toArray := (ht.push _).extBut hs1.extBut hlt
  have hk1 : ∀ b o, s.heap.get? b = some o → h1.get? b = some o := fun b o e => (hs1.2 b (Nat.ne_of_lt (Heap.lt_size e))).trans (Heap.get?_push_of_some _ e)
  refine wpAny_bind (wpAny_holding (wpAny_collect_iter (T := "tuple_iterator") (n := us.toArray.size - i) (.inr (.inr (.inr rfl))) (walk_tup (A := A.in1) (s0 := s) hh hlt i (by omega)) (fun j s' st => ⟨_, st.1.choose_spec.1, st.1.choose_spec.2.1⟩) ⟨hit1, ht1⟩ (fun b hb => ?_) List.mem_cons_self (fun s' acc hm hacc => ?_) (by omega)))
  · rcases List.mem_cons.mp hb with rfl | hb
    · obtain ⟨o, ho, _⟩ := hit1; exact Heap.lt_size ho
    · rw [List.mem_singleton.mp hb]; obtain ⟨o, ho, _⟩ := ht1; exact Heap.lt_size ho
  · obtain ⟨h2, g2, d2, tk2, os2⟩ := s'
    obtain ⟨m1, m2, m3, m4, m5⟩ := hm
    simp only at m1 m2 m3 m4 m5
    subst m2 m3 m4
    have e1 : acc.toList = us.drop i := by
      apply List.ext_getElem?
      intro j
      rw [List.getElem?_drop, Array.getElem?_toList]
      by_cases hj : j < acc.size
      · have := hacc.2 j acc[j] (by simp [hj])
        simp only [List.getElem?_toArray] at this
        rw [this]; simp [hj]
      · have h3 := hacc.1
        rw [Array.getElem?_eq_none (by omega), List.getElem?_eq_none (by omega)]
    rw [e1]
    have h4 : ¬ ((us.drop i).length < i + 1 - 1 - i) := by omega
    rw [if_neg h4]
    have e2 : (us.drop i).length - (i + 1 - 1 - i) = (us.drop i).length := by omega
    simp only [e2]
    rw [List.take_length, List.drop_length]
    refine wpAny_bind (wpAny_newList ?_ (by rw [List.length_drop]; omega))
    refine wpAny_pure ?_
    rw [List.append_nil]
    have hkeep : ∀ b o, s.heap.get? b = some o → h2.get? b = some o := fun b o e => m1 b o (fun z => Nat.ne_of_lt (Heap.lt_size e) (List.mem_singleton.mp z)) (hk1 b o e)
    exact hQ h2 tk2 hkeep m5
end
section
variable {X : Cx}
def gStarT (K : PySem.W.Frag) (n : Nat) (t : TGs) : TG := fun v σ H Q => ∃ a xs, v = .ref a ∧ SqT K H a xs ∧ n ≤ xs.length ∧ ∀ p, H p = none → t (xs.take n ++ [.ref p]) σ (upd H p (.lst (xs.drop n))) Q
theorem pg_star {es : List Expr} {k n : Nat} {pos : Pos} {t : TGs} (hc : X.calm = true) (h : PGs X es t) (hn : (assignEach es X.env).length = n + 1) (hst : (assignEach es X.env).findIdx? (·.1) = some n) : PG X (.Tuple es k pos) (gStarT X.K n t) := by
  refine ⟨fun pins s σ H v u Q I r hw => ?_⟩
  obtain ⟨a, xs, rfl, hq, hl, hw⟩ := hw
  cases r
  obtain ⟨us, rv, ht, hz⟩ := I.tuple hq
  have hlen := rv.length
  rw [assign_Tuple]
  refine wpAny_bind (wpAny_standAt ?_)
  unfold unpack
  rw [hn, hst]
  refine wpAny_bind (wpAny_holding (star_items (I.ok.hd hc) ht rfl (by omega) (by omega) fun h' tk kp _ => ?_))
  have J0 : L2.Inv X pins σ H { s with heap := h', toks := tk } := I.kept (t' := tk) kp
  have hf : H h'.objs.size = none := J0.hok.fresh (Nat.le_refl _)
  have J : L2.Inv X pins σ (upd H h'.objs.size (.lst (xs.drop n))) { s with heap := h'.push { cls := .type "list", data := .seq (us.drop n).toArray }, toks := tk } :=
    J0.laid (t' := tk) (fun b u e => Heap.get?_push_of_some _ e) (Nat.le_refl _) ⟨by rw [List.length_drop]; omega, us.drop n, 0, rv.drop n, Heap.get?_push_size _ rfl⟩
  exact h.run pins _ σ _ _ _ Q J ((rv.take n).append (.cons (show RelV (.ref h'.objs.size) (.ref h'.objs.size) from rfl) .nil)) (hw _ hf)
theorem pgs_star1 {e : Expr} {t : TG} {p : Pos} (h : PG X e t) : PGs X [.Starred e p] (gCons t gNil) := by
  refine ⟨fun pins s σ H vs us Q I r hq => ?_⟩
  obtain ⟨v, vr, rfl, hq⟩ := hq
  cases r with
  | cons r rr =>
    show wpAny _ _ (assignInOrder [assign e X.env] _) _ _ _
    refine assignInOrder_cons (thn (h.run pins s σ H _ _ _ I r hq) fun _ s1 ⟨σ1, H1, I1, q1⟩ => ?_)
    obtain ⟨rfl, q1⟩ := q1
    cases rr
    exact assignInOrder_nil ⟨σ1, H1, I1, q1⟩
end
def gwTupS (n : Nat) (g : WGs) : WG := fun val env P => ∃ ds, (val.d = .tup ds ∨ val.d = .lse ds) ∧ n ≤ ds.length ∧ g ds env P
def gwStL (i : Nat) : WGs := fun ds env P => i < env.length ∧ P (env.set i (some ⟨true, .lst ds⟩))
def liftGsS (K : PySem.W.Frag) (mg : Str → Option Value) (lent : List Nat) (n : Nat) (g : WGs) : TGs := fun vs σ H Q => ∃ (oh : Pr) (τ : Lay) (env : EnvD) (ds rest : List D) (p : Addr) (vs0 : List V) (P : EnvD → Prop), vs = vs0 ++ [.ref p] ∧ vs0.length = n ∧ σ.length = env.length ∧
  StR K mg oh H ((some (.ref p), some ⟨true, .lst rest⟩) :: (τ ++ σ.zip env)) ∧ Reps K mg (hotL oh ((some (.ref p), some ⟨true, .lst rest⟩) :: (τ ++ σ.zip env))) H vs0 ds ∧ g (ds ++ rest) env P ∧
  ∀ σ' env' H', σ'.length = env'.length → σ'.length = σ.length → LentEq lent σ σ' → StR K mg oh H' (τ ++ σ'.zip env') → Step ((some (.ref p), some ⟨true, .lst rest⟩) :: (τ ++ σ.zip env)) H (τ ++ σ'.zip env') H' → P env' → Q σ' H'
section
variable {K : PySem.W.Frag} {mg : Str → Option Value} {lent : List Nat} {X : Cx}
theorem pgs_starLast {i : Nat} {x : Str} {p p2 : Pos} (hi : i ∉ lent) (h : PG X (.Name x p2) (gName i)) : PGs X [.Starred (.Name x p2) p] (liftGsS X.K X.mg lent 0 (gwStL i)) := by
  refine PGsimp (pgs_star1 h) fun vs σ H Q w => ?_
  obtain ⟨oh, τ, env, ds, rest, q, vs0, P, rfl, hl, e0, S, r, g, k⟩ := w
  obtain rfl := List.length_eq_zero_iff.mp hl
  cases r
  refine ⟨.ref q, [], rfl, ?_⟩
  have w2 : liftG X.K X.mg lent (gwName i) (.ref q) σ H (fun σ' H' => gNil [] σ' H' Q) := by
    refine ⟨oh, τ, env, ⟨true, .lst rest⟩, P, e0, S, g, fun σ' env' H' a1 a2 a3 a4 a5 a6 => ⟨rfl, k σ' env' H' a1 a2 a3 a4 a5 a6⟩⟩
  exact gname_lift hi w2
theorem pgs_consS {e : Expr} {es : List Expr} {g : WG} {gs : WGs} {n : Nat} (h1 : PG X e (liftG X.K X.mg lent g)) (h2 : PGs X es (liftGsS X.K X.mg lent n gs)) (hn : noStar e = true) : PGs X (e :: es) (liftGsS X.K X.mg lent (n + 1) (gwCons g gs)) := by
  refine PGsimp (pgs_cons h1 h2 (by rw [assign_of hn]; rfl)) fun vs σ H Q w => ?_
  obtain ⟨oh, τ, env, ds, rest, p, vs0, P, rfl, hl, e0, S, r, gg, k⟩ := w
  cases r with
  | nil => cases hl
  | cons r1 r2 =>
    rename_i v vr d dr
    obtain ⟨d', dr', hd, gg⟩ := gg
    simp only [List.cons_append, List.cons.injEq] at hd
    obtain ⟨rfl, rfl⟩ := hd
    refine ⟨v, vr ++ [.ref p], rfl, oh, (some (.ref p), some ⟨true, .lst rest⟩) :: τ, env, fz d, _, e0, S.push (StR.one_fro S.hots r1) Step.one_fro, gg, fun σ1 env1 H1 e1 l1 t1 S1 s1 q => ?_⟩
    have s1' : Step ((some (.ref p), some ⟨true, .lst rest⟩) :: (τ ++ σ.zip env)) H ((some (.ref p), some ⟨true, .lst rest⟩) :: (τ ++ σ1.zip env1)) H1 := s1.coreL' (by rw [roots_fro]; rfl)
    have kp := s1'.keeps (oh := oh) (B := [])
    rw [List.append_nil, List.append_nil] at kp
    exact ⟨oh, τ, env1, dr, rest, p, vr, P, rfl, Nat.succ.inj hl, e1, S1, r2.mono kp, q, fun σ2 env2 H2 e2 l2 t2 S2 s2 q2 => k σ2 env2 H2 e2 (l2.trans l1) (t1.trans t2) S2 (s1'.trans s2) q2⟩
def starLast : Nat → List Expr → Bool
  | 0, [.Starred _ _] => true
  | n + 1, e :: es => noStar e && starLast n es
  | _, _ => false
theorem starLast_find {env : Env} : ∀ {n : Nat} {es : List Expr}, starLast n es = true → (assignEach es env).findIdx? (·.1) = some n ∧ (assignEach es env).length = n + 1
  | 0, es, h => by
    unfold starLast at h
    split at h
    · exact ⟨rfl, rfl⟩
    · rename_i q; cases q
    · cases h
  | n + 1, [], h => by simp [starLast] at h
  | n + 1, e :: es, h => by
    simp only [starLast, Bool.and_eq_true] at h
    obtain ⟨a, b⟩ := starLast_find (env := env) h.2
    rw [assign_of h.1]
    exact ⟨by rw [List.findIdx?_cons]; simp [a], by rw [List.length_cons, b]⟩
theorem pg_starD {es : List Expr} {k n : Nat} {pos : Pos} {gs : WGs} (hc : X.calm = true) (h : PGs X es (liftGsS X.K X.mg lent n gs)) (hn : starLast n es = true) : PG X (.Tuple es k pos) (liftG X.K X.mg lent (gwTupS n gs)) := by
  obtain ⟨f1, f2⟩ := starLast_find (env := X.env) hn
  refine PGimp (pg_star hc h f2 f1) fun v σ H Q w => ?_
  obtain ⟨oh, τ, env, val, P, e0, S, ⟨ds, hd, hl, p⟩, kk⟩ := w
  have S0 := S.freeze
  have r0 := S0.head_fro
  have fin : ∀ {vs : List V}, Reps X.K X.mg (hotL oh (τ ++ σ.zip env)) H vs ds → ∀ q, H q = none → liftGsS X.K X.mg lent n gs (vs.take n ++ [.ref q]) σ (upd H q (.lst (vs.drop n))) Q := fun {vs} r q nq => by
    have T := StR.new_lst (K := X.K) (mg := X.mg) (hot := hotL oh (τ ++ σ.zip env)) S.tail.hots nq (r.drop n)
    have S1 := S.tail.push T (Step.new_lst nq)
    refine ⟨oh, τ, env, ds.take n, ds.drop n, q, vs.take n, P, rfl, by rw [List.length_take, r.length]; omega, e0, S1, ?_, by rw [List.take_append_drop]; exact p, fun σ' env' H' a1 a2 a3 a4 a5 a6 => kk σ' env' H' a1 a2 a3 a4 ?_ a6⟩
    · refine (r.take n).mono ⟨fun a o e nh _ => ?_, fun a o e nh z => ?_⟩
      · rw [upd_ne (ne_of_none e nq)]; exact e
      · rcases z with z | z
        · exact nh (.inl z)
        · rw [roots_own] at z
          rcases List.mem_cons.mp z with z | z
          · rw [z, nq] at e; cases e
          · exact nh (.inr z)
    · have s0 : Step ((some v, some val) :: (τ ++ σ.zip env)) H (τ ++ σ.zip env) H := Step.refl.lessR fun a ha => roots_cons_sub a ha
      exact (s0.trans (Step.new_lst nq).push).trans a5
  rcases hd with hd | hd
  · rw [hd] at r0
    cases r0 with
    | tup ht rs => exact ⟨_, _, rfl, ht.sq, by rw [rs.length]; exact hl, fun q nq => fin rs q nq⟩
  · rw [hd] at r0
    cases r0 with
    | lse hn ht rs => exact ⟨_, _, rfl, .inl ht, by rw [rs.length]; exact hl, fun q nq => fin rs q nq⟩
end
end TL
namespace TL
open PySem PySem.Spec PyProof.Rows L2
section
variable {X : Cx}
mutual
theorem Reads.there {h : Heap} : ∀ {v : Value} {d : PyData} {as : List Addr}, Reads h v d as → ∀ a ∈ as, a < h.objs.size
  | _, _, _, .none, _, z => nomatch z
  | _, _, _, .bool _, _, z => nomatch z
  | _, _, _, .int _ _, _, z => nomatch z
  | _, _, _, .str _ _, _, z => nomatch z
  | _, _, _, .list h1 _ _ h4, a, z => by
    rcases List.mem_cons.mp z with rfl | z
    · exact Heap.lt_size h1
    · exact ReadsAll.there h4 a z
  | _, _, _, .tuple _ _ _ h4, a, z => ReadsAll.there h4 a z
  | _, _, _, .dict h1 _ _ h4 h5, a, z => by
    rcases List.mem_cons.mp z with rfl | z
    · exact Heap.lt_size h1
    · rcases List.mem_append.mp z with z | z
      · exact ReadsAll.there h4 a z
      · exact ReadsAll.there h5 a z
theorem ReadsAll.there {h : Heap} : ∀ {v : List Value} {d : List PyData} {as : List Addr}, ReadsAll h v d as → ∀ a ∈ as, a < h.objs.size
  | _, _, _, .nil, _, z => nomatch z
  | _, _, _, .cons h1 h2, a, z => (List.mem_append.mp z).elim (Reads.there h1 a) (ReadsAll.there h2 a)
end
section
variable {K : Type} [DecidableEq K] {P : Program} {w : World} {knd : PySem.KeyKind P w K}
end
theorem pairs_of2 {pins : List (Addr × Obj)} {σ : L2.St} {H : Hp} {s : Shared} (I : L2.Inv X pins σ H s) : ∀ {ps : List Addr} {kvs : List (Key × V)}, Paired (fun p kv => SqT X.K H p [kV kv.1, kv.2]) ps kvs →
    ∃ uv : List (Value × Value), uv.length = ps.length ∧ kvs.length = ps.length ∧ ∀ (j : Nat) (x : Value × Value), uv[j]? = some x → ∃ (b : Addr) (kv : Key × V), ps[j]? = some b ∧ kvs[j]? = some kv ∧ IsTup s.heap b #[x.1, x.2] ∧ RelV (kV kv.1) x.1 ∧ RelV kv.2 x.2
  | _, _, .nil => ⟨[], rfl, rfl, fun j x e => by simp at e⟩
  | _, _, .cons (a := p) (b := kv) h t => by
    obtain ⟨uv, l1, l2, k⟩ := pairs_of2 I t
    obtain ⟨its, rv, ht, _⟩ := I.tuple h
    obtain ⟨u, y, rfl, ru, ry⟩ := vals2 rv
    refine ⟨(u, y) :: uv, by rw [List.length_cons, List.length_cons, l1], by rw [List.length_cons, List.length_cons, l2], fun j x e => ?_⟩
    cases j with
    | zero =>
      obtain rfl := (Option.some.inj e : (u, y) = x)
      exact ⟨p, kv, rfl, rfl, ht, ru, ry⟩
    | succ j =>
      obtain ⟨b, kv', e1, e2, e3⟩ := k j x (by simpa using e)
      exact ⟨b, kv', by simpa using e1, by simpa using e2, e3⟩
theorem kv_zip : ∀ {kvs : List (Key × V)} {uv : List (Value × Value)}, kvs.length = uv.length → (∀ (j : Nat) kv x, kvs[j]? = some kv → uv[j]? = some x → RelV kv.2 x.2) → KV kvs ((kvs.map (·.1)).zip (uv.map (·.2)))
  | [], [], _, _ => .nil
  | [], _ :: _, h, _ => by cases h
  | _ :: _, [], h, _ => by cases h
  | kv :: kvs, x :: uv, h, k => .cons ⟨rfl, k 0 _ _ rfl rfl⟩ (kv_zip (Nat.succ.inj h) fun j a b e1 e2 => k (j + 1) a b (by simpa using e1) (by simpa using e2))
def rDictT (K : PySem.W.Frag) : List V → Hp → VK → Prop := fun xs H Q => ∃ (a : Addr) (ps : List Addr) (kvs : List (Key × V)), xs = [.ref a] ∧ (FzT H a (ps.map V.ref) ∨ KTp K a (ps.map V.ref)) ∧ Paired (fun p kv => SqT K H p [kV kv.1, kv.2]) ps kvs ∧
  ∀ p, H p = none → Q (.ref p) (upd H p (.dK (mergeK [] kvs)))
theorem call_dictT (hcalm : X.calm = true) : CallR X (.type "dict") (rDictT X.K) := by
  intro pins s σ H xs us Q I r q
  obtain ⟨a, ps, kvs, rfl, hq, hp, q⟩ := q
  obtain rfl := Vals.ref1 r
  have hpl : ∃ its : List Value, Vals (ps.map V.ref) its ∧ PySem.PlainSeq "tuple" s.heap a its.toArray ∧ its.length ≤ sizeLine := by
    rcases hq with ⟨o, po, e⟩ | ⟨o, its, n, lk, hc, hd, hdat, hz, hv⟩
    · obtain ⟨g, hz, its, rv, o2, ho2, _, n, hdat⟩ := (show ObjOk X.prog X.w H s.heap a (.frz o (.tup (ps.map V.ref))) from I.hok a _ e)
      rw [g] at ho2
      cases ho2
      exact ⟨its, rv, ⟨o, n, g, po.1, po.2, hdat⟩, by rw [← rv.length]; exact hz⟩
    · refine ⟨its.toList, hv, ⟨o, n, I.kIn _ _ lk, hc, hd, by simpa using hdat⟩, by simpa using hz⟩
  obtain ⟨its, rv, pl, hz⟩ := hpl
  obtain rfl := refs_at rv
  obtain ⟨uv, l1, l2, huv⟩ := pairs_of2 I hp
  rw [List.length_map] at hz
  have hm : (s.heap.objs.size == sysModules) = false := beq_eq_false_iff_ne.mpr (Nat.ne_of_gt I.big)
  have items : PySem.PairItems s.heap (ps.map Value.ref).toArray (fun j => ps.getD j 0) uv := by
    refine ⟨by simp [l1], fun j k v e => ?_⟩
    obtain ⟨b, kv, e1, e2, ht, _, _⟩ := huv j (k, v) e
    have e3 : ps.getD j 0 = b := by rw [List.getD_eq_getElem?_getD, e1]; rfl
    refine ⟨by simp [e1], ?_⟩
    show PairAt s.heap (ps.getD j 0) k v
    rw [e3]
    exact .inl ht
  have kvz : KV kvs ((kvs.map (·.1)).zip (uv.map (·.2))) := kv_zip (by omega) fun j kv x e1 e2 => by
    obtain ⟨b, kv', _, e3, _, _, r2⟩ := huv j x e2
    rw [e1] at e3
    cases e3
    exact r2
  refine PySem.call_dict_pairs (knd := mixKind X.prog X.w) (kvs := (kvs.map (·.1)).zip (uv.map (·.2))) (PySem.PairArg.tuple a (ps.map Value.ref).toArray (fun j => ps.getD j 0) uv) (I.ok.hd hcalm) ⟨pl, items⟩ ⟨by simp; omega, fun i key v e => ?_⟩ (by omega) fun h' tk hd' k => ?_
  · obtain ⟨b, kv, e1, e2, _, r1, r2⟩ := huv i (key, v) e
    refine ⟨kv.1, ?_, kV_is (P := X.prog) (w := X.w) r1⟩
    rw [List.getElem?_zip_eq_some]
    exact ⟨by rw [List.getElem?_map, e2]; rfl, by rw [List.getElem?_map, show uv[i]? = some (key, v) from e]; rfl⟩
  · have hlen : (mergeK [] kvs).length ≤ sizeLine := by
      refine Nat.le_trans (length_mergeK kvs []) ?_
      rw [List.length_nil]; omega
    exact ⟨.ref s.heap.objs.size, _, I.laid (t' := tk) (fun b u e => k b u (fun z => nomatch z) e) (Nat.le_refl _) (show ObjOk X.prog X.w _ _ _ (.dK (mergeK [] kvs)) from ⟨hlen, hm, _, KV.merge kvz .nil, hd'⟩), rfl, q _ (I.hok.fresh (Nat.le_refl _))⟩
end
end TL
namespace TL
open PySem PySem.Spec PyProof.Rows L2
section
variable {K : PySem.W.Frag} {mg : Str → Option Value} {hot : Pr} {H : Hp} {P : Val → Prop} {Q : VK}
theorem StR.new_dic {hot : Pr} (hh : Hh K hot H) {p : Addr} (n : H p = none) {kvs : List (Key × V)} {ks ds : List D} (e : KsOf kvs ks) (r : Reps K mg hot H (kvs.map (·.2)) ds) :
    StR K mg hot (upd H p (.dK kvs)) [(some (.ref p), some ⟨true, .dic ks ds⟩)] := by
  refine ⟨fun q hq x hx => ?_, ?_, fun a ha => ?_, hot_upd hh (.new n)⟩
  · obtain rfl := List.mem_singleton.mp hq
    cases hx
    refine ⟨_, rfl, .dicK (.inr (by rw [roots_ownD]; exact List.mem_cons_self)) upd_same e (r.mono (keeps_newH n fun a q => ?_))⟩
    rcases q with q | q
    · exact .inl q
    · rw [roots_ownD] at q; exact .inr (by simpa [roots] using q)
  · rw [roots_ownD]; exact List.nodup_cons.mpr ⟨by simp [roots], List.nodup_nil⟩
  · rw [roots_ownD] at ha
    have e : a = p := by simpa [roots] using ha
    subst e
    exact fun q => hh.tr a q n
theorem post_dic (hh : Hh K hot H) (k : PostF K mg hot H P Q) {p : Addr} (n : H p = none) {kvs : List (Key × V)} {ks ds : List D} (e : KsOf kvs ks) (r : Reps K mg hot H (kvs.map (·.2)) ds) (q : P ⟨true, .dic ks ds⟩) : Q (.ref p) (upd H p (.dK kvs)) :=
  k _ _ _ (StR.new_dic hh n e r) (Step.new_lst n) q
end
def unPair : D → Option (Key × D)
  | .tup [k, v] => (keyU k).map fun x => (x, v)
  | _ => none
def unPairs : List D → Option (List (Key × D))
  | [] => some []
  | d :: ds => match unPair d, unPairs ds with
    | some x, some xs => some (x :: xs)
    | _, _ => none
def dmerge (acc : List D × List D) (l : List (Key × D)) : List D × List D := l.foldl (fun a kv => dput a.1 a.2 kv.1 kv.2) acc
def sDict : SN
  | [.tup xs], P => ∃ l, unPairs xs = some l ∧ P ⟨true, .dic (dmerge ([], []) l).1 (dmerge ([], []) l).2⟩
  | [.lst xs], P => ∃ l, unPairs xs = some l ∧ P ⟨true, .dic (dmerge ([], []) l).1 (dmerge ([], []) l).2⟩
  | [.dic ks ds], P => P ⟨true, .dic ks ds⟩
  | _, _ => False
def rDictA (K : PySem.W.Frag) : List V → Hp → VK → Prop := fun xs H Q => rDictT K xs H Q ∨ ((∃ (a : Addr) (ps : List Addr) (kvs : List (Key × V)), xs = [.ref a] ∧ SqL K H a (ps.map V.ref) ∧ Paired (fun p kv => SqT K H p [kV kv.1, kv.2]) ps kvs ∧
    ∀ p, H p = none → Q (.ref p) (upd H p (.dK (mergeK [] kvs)))) ∨ (∃ (a : Addr) (kvs : List (Key × V)), xs = [.ref a] ∧ Rd H a (.dK kvs) ∧ ∀ p, H p = none → Q (.ref p) (upd H p (.dK kvs))))
theorem cr_dictA {X : Cx} (hc : X.calm = true) : CallR X (.type "dict") (rDictA X.K) := CallR.or (call_dictT hc) (CallR.or (call_dictP hc) call_dictD)
section
variable {K : PySem.W.Frag} {mg : Str → Option Value} {hot : Pr} {H : Hp}
theorem unPairs_rep : ∀ {xs : List D} {l : List (Key × D)} {vs : List V}, unPairs xs = some l → Reps K mg hot H vs xs → ∃ (ps : List Addr) (kvs : List (Key × V)), vs = ps.map V.ref ∧ Paired (fun p kv => SqT K H p [kV kv.1, kv.2]) ps kvs ∧ kvs.map (·.1) = l.map (·.1) ∧ Reps K mg hot H (kvs.map (·.2)) (l.map (·.2)) ∧ ∀ p ∈ kvs, keyOk p.1
  | [], l, _, h, .nil => by cases h; exact ⟨[], [], rfl, .nil, rfl, .nil, fun _ z => nomatch z⟩
  | d :: ds, l, _, h, .cons r rs => by
    unfold unPairs at h
    split at h
    · rename_i x xs e1 e2
      cases h
      obtain ⟨ps, kvs, rfl, hp, h3, h4, h5⟩ := unPairs_rep e2 rs
      unfold unPair at e1
      split at e1
      · rename_i k v
        rw [Option.map_eq_some_iff] at e1
        obtain ⟨key, hk, rfl⟩ := e1
        cases r with
        | tup ht r2 =>
          rename_i a _
          cases r2 with
          | cons ra rb =>
            cases rb with
            | cons rb rc =>
              cases rc
              have ek := key_V hk (VRo.of ra)
              subst ek
              exact ⟨a :: ps, (key, _) :: kvs, rfl, .cons ht.sq hp, by simp [h3], .cons rb h4, fun p hp => (List.mem_cons.mp hp).elim (fun z => by rw [z]; exact key_ok hk (VRo.of ra)) (h5 p)⟩
      · cases e1
    · cases h
theorem dmerge_rep : ∀ {l : List (Key × D)} {kvs acc : List (Key × V)} {ds : List D}, kvs.map (·.1) = l.map (·.1) → Reps K mg hot H (kvs.map (·.2)) (l.map (·.2)) → Reps K mg hot H (acc.map (·.2)) ds →
    (dmerge (acc.map (fun p => keyD p.1), ds) l).1 = ((mergeK acc kvs).map fun p => keyD p.1) ∧ Reps K mg hot H ((mergeK acc kvs).map (·.2)) (dmerge (acc.map (fun p => keyD p.1), ds) l).2
  | [], [], acc, ds, _, _, r => ⟨rfl, r⟩
  | [], _ :: _, _, _, h, _, _ => by cases h
  | _ :: _, [], _, _, h, _, _ => by cases h
  | (x, d) :: l, (y, v) :: kvs, acc, ds, h, .cons r1 r2, r => by
    simp only [List.map_cons, List.cons.injEq] at h
    obtain ⟨rfl, h⟩ := h
    obtain ⟨q1, q2⟩ := dput_rep (x := y) r r1
    have ih := dmerge_rep (acc := putK acc y v) (ds := (dput (acc.map fun p => keyD p.1) ds y d).2) h r2 q2
    have e : dmerge (acc.map (fun p => keyD p.1), ds) ((y, d) :: l) = dmerge ((putK acc y v).map (fun p => keyD p.1), (dput (acc.map fun p => keyD p.1) ds y d).2) l := by
      show dmerge (dput (acc.map fun p => keyD p.1) ds y d) l = _
      rw [← q1]
    rw [e]
    exact ih
theorem mergeK_ok : ∀ {more acc : List (Key × V)}, (∀ p ∈ more, keyOk p.1) → (∀ p ∈ acc, keyOk p.1) → ∀ p ∈ mergeK acc more, keyOk p.1
  | [], _, _, h => h
  | q :: more, acc, h1, h2 => mergeK_ok (more := more) (acc := putK acc q.1 q.2) (fun p hp => h1 p (List.mem_cons_of_mem _ hp)) (putK_ok h2 (h1 q List.mem_cons_self))
theorem cl_dict : CallL K mg (rDictA K) sDict := by
  intro hot H xs ds P Q hh rx q k
  unfold sDict at q
  split at q
  · obtain ⟨l, hl, q⟩ := q
    obtain ⟨x, rfl, r⟩ := rx.one
    cases r.rep_tup with
    | tup ht rs =>
      obtain ⟨ps, kvs, rfl, hp, h3, h4, h5⟩ := unPairs_rep hl rs
      obtain ⟨m1, m2⟩ := dmerge_rep (acc := []) (ds := []) h3 h4 .nil
      exact .inl ⟨_, ps, kvs, rfl, ht.imp (fun z => z.2) id, hp, fun p n => post_dic hh k n ⟨m1, mergeK_ok h5 fun _ z => nomatch z⟩ m2 q⟩
  · obtain ⟨l, hl, q⟩ := q
    obtain ⟨x, rfl, r⟩ := rx.one
    obtain ⟨a, vs, rfl, hs, rs⟩ := r.lst
    obtain ⟨ps, kvs, rfl, hp, h3, h4, h5⟩ := unPairs_rep hl rs
    obtain ⟨m1, m2⟩ := dmerge_rep (acc := []) (ds := []) h3 h4 .nil
    exact .inr (.inl ⟨_, ps, kvs, rfl, hs, hp, fun p n => post_dic hh k n ⟨m1, mergeK_ok h5 fun _ z => nomatch z⟩ m2 q⟩)
  · obtain ⟨x, rfl, r⟩ := rx.one
    obtain ⟨a, kvs, rfl, hd, e, rs⟩ := r.dicO
    exact .inr (.inr ⟨a, kvs, rfl, .inl hd, fun p n => post_dic hh k n e rs q⟩)
  · exact q.elim
end
section
variable {K : PySem.W.Frag} {mg : Str → Option Value}
end
end TL
namespace TL
open PySem PySem.Spec PyProof.Rows L2
abbrev SM := D → List D → (Val → Prop) → Prop
abbrev SMu := D → List D → (D → Val → Prop) → Prop
def tyM : D → String
  | .str _ => "str" | .lst _ => "list" | .dic _ _ => "dict" | _ => ""
def MethL (K : PySem.W.Frag) (mg : Str → Option Value) (r : V → List V → Hp → VK → Prop) (s : SM) : Prop :=
  ∀ (hot : Pr) (H : Hp) (x : V) (xs : List V) (dx : D) (ds : List D) (P : Val → Prop) (Q : VK), (Hh K hot H) → VRo K mg hot H x dx → VRos K mg hot H xs ds → s dx ds P → PostF K mg hot H P Q → r x xs H Q
def MutL (K : PySem.W.Frag) (mg : Str → Option Value) (r : V → List V → Hp → VK → Prop) (s : SMu) : Prop :=
  (∀ (c : D) (ds : List D) (P : D → Val → Prop), ¬ s (.box c) ds P) ∧ ∀ (hot : Pr) (H : Hp) (a : Addr) (xs : List V) (d : D) (ds : List D) (P : D → Val → Prop) (Q : VK), (Hh K hot H) → VR K mg hot H (.ref a) ⟨true, d⟩ → Reps K mg hot H xs ds → s d ds P →
    (∀ d' o' v dv, bx d' = [] → P d' (fz dv) → (∀ (hot' : Pr) (H' : Hp), Keeps hot hot' H H' → hot' a → H' a = some o' → VR K mg hot' H' (.ref a) ⟨true, d'⟩) → (∀ (hot' : Pr) (H' : Hp), Keeps hot hot' H H' → Rep K mg hot' H' v dv) → Q v (upd H a o')) → r (.ref a) xs H Q
section
variable {K : PySem.W.Frag} {mg : Str → Option Value} {hot : Pr} {H : Hp}
theorem tyV_of {v : V} {d : D} {T : String} (r : VRo K mg hot H v d) (h : tyM d = T) (ht : T = "str" ∨ T = "list" ∨ T = "dict") : tyV K T v H := by
  cases d with
  | str s => obtain ⟨rfl, _⟩ := r.str; exact h.symm
  | lst xs => obtain ⟨a, vs, rfl, hs, _⟩ := r.lst; exact .inl ⟨h.symm, vs, hs⟩
  | dic ks ds => obtain ⟨a, kvs, rfl, hd, _⟩ := r.dic; exact .inr (.inr (.inl ⟨h.symm, .inl ⟨kvs, hd⟩⟩))
  | _ => exfalso; have h2 : "" = T := h; subst h2; rcases ht with h | h | h <;> exact absurd h (by decide)
end
def wMeth (T : String) (s : SM) (to : WX) (ts : WXs) : WE := fun env P => to env fun o env1 => (∃ x, o.res env1 = some x ∧ tyM x = T) ∧ ts env1 fun os env2 => ∃ x ds, o.res env2 = some x ∧ resAll env2 os = some ds ∧ s x ds fun val => P val env2
section
variable {K : PySem.W.Frag} {mg : Str → Option Value} {oh : Pr} {H : Hp} {Q : VK} {r : V → List V → Hp → VK → Prop} {T : String}
theorem meth_lift {s : SM} (ht : T = "str" ∨ T = "list" ∨ T = "dict") (hl : MethL K mg r s) {to : WX} {ts : WXs} {σ : L2.St} (h : liftE K mg (wMeth T s to ts) σ H Q) : tBM K T r (liftX K mg to) (liftXs K mg ts) σ H Q := by
  obtain ⟨oh, τ, env, P, e0, S, t, k⟩ := h
  refine ⟨oh, τ, env, _, e0, S, t, fun v o env1 H1 e1 a1 S1 s1 ⟨⟨x, rx, hx⟩, t1⟩ => ?_⟩
  have hO : ∀ {L : Lay}, hotL oh ([o.cell v] ++ L) = hotL oh L := by intro L; exact hot_cell
  refine ⟨tyV_of (opd_reads e1 hO (A := [o.cell v]) S1 a1 (by simp) rx) hx ht, ?_⟩
  refine ⟨oh, o.cell v :: τ, env1, _, e1, S1, t1, fun vs os env2 H2 e2 a2 S2 s2 ⟨x2, ds, rx2, rs, q⟩ => ?_⟩
  have hA : ∀ {L : Lay}, roots ((cells vs os ++ [o.cell v]) ++ L) = roots L := by
    intro L
    rw [List.append_assoc]
    show roots (cells vs os ++ (o.cell v :: L)) = _
    rw [roots_cells, roots_cell]
  have hA2 : ∀ {L : Lay}, hotL oh ((cells vs os ++ [o.cell v]) ++ L) = hotL oh L := by intro L; unfold hotL; rw [hA]
  have S2' : StR K mg oh H2 ((cells vs os ++ [o.cell v]) ++ (τ ++ σ.zip env2)) := by rw [List.append_assoc]; exact S2
  have s2' : Step ((o.cell v :: τ) ++ σ.zip env1) H1 ((cells vs os ++ [o.cell v]) ++ (τ ++ σ.zip env2)) H2 := by rw [List.append_assoc]; exact s2
  refine hl _ H2 v vs x2 ds _ Q S2'.right.hots (opd_reads e2 hA2 S2' a1 (by simp) rx2) (opds_read e2 hA2 S2' a2 (fun c hc => List.mem_append_left _ hc) rs) q fun w val H3 T3 st p => ?_
  obtain ⟨S3, s3⟩ := over_cells hA S2' (s1.trans s2') T3 st
  exact k w val env2 H3 e2 S3 s3 p
end
end TL
namespace TL
open PySem PySem.Spec PyProof.Rows L2
section
variable {K : PySem.W.Frag} {mg : Str → Option Value} {X : Cx}
def sJoin : SM
  | .str a, [.lst xs], P => ∃ ss, unStrs xs = some ss ∧ (ss.map (·.length)).sum + ss.length * a.length ≤ 16777216 ∧ P (fz (.str (Str.join a ss)))
  | .str a, [.tup xs], P => ∃ ss, unStrs xs = some ss ∧ (ss.map (·.length)).sum + ss.length * a.length ≤ 16777216 ∧ P (fz (.str (Str.join a ss)))
  | _, _, _ => False
def rJoin (K : PySem.W.Frag) : V → List V → Hp → VK → Prop := fun x xs H Q => ∃ a p, ∃ ys : List Str, x = .str a ∧ xs = [.ref p] ∧ (SqL K H p (ys.map V.str) ∨ SqT K H p (ys.map V.str)) ∧ (ys.map (·.length)).sum + ys.length * a.length ≤ 16777216 ∧ Q (.str (Str.join a ys)) H
theorem mt_joinD : MtR X "str.join" (rJoin X.K) := by
  intro pins s σ H x xs v us Q I rx rs h
  obtain ⟨a, p, ys, h1, h2, h3, h4, h5⟩ := h
  exact mt_join pins s σ H x xs v us Q I rx rs ⟨a, p, ys, h1, h2, h3, h4, by rw [join_eq]; exact h5⟩
theorem ml_join : MethL K mg (rJoin K) sJoin := by
  intro hot H x xs dx ds P Q hh rx rs q k
  unfold sJoin at q
  split at q
  · obtain ⟨ss, h1, h2, q⟩ := q
    obtain ⟨rfl, ok⟩ := rx.str
    obtain ⟨y, rfl, ry⟩ := rs.one
    obtain ⟨p, vs, rfl, hs, rv⟩ := ry.lst
    rw [unStrs_eq h1] at rv
    obtain ⟨rfl, oks⟩ := rv.strs
    exact ⟨_, p, ss, rfl, rfl, .inl hs, h2, post_fz hh k (.str _ (ok_join _ ok _ oks)) q⟩
  · obtain ⟨ss, h1, h2, q⟩ := q
    obtain ⟨rfl, ok⟩ := rx.str
    obtain ⟨y, rfl, ry⟩ := rs.one
    obtain ⟨p, vs, rfl, hs, rv⟩ := ry.tup
    rw [unStrs_eq h1] at rv
    obtain ⟨rfl, oks⟩ := rv.strs
    exact ⟨_, p, ss, rfl, rfl, .inr hs, h2, post_fz hh k (.str _ (ok_join _ ok _ oks)) q⟩
  · exact q.elim
def suRev : SMu
  | .lst xs, [], P => P (.lst xs.reverse) (fz .non)
  | _, _, _ => False
def suClear : SMu
  | .lst xs, [], P => P (.lst []) (fz .non)
  | _, _, _ => False
def suPop : SMu
  | .lst xs, [], P => ∃ d, xs[xs.length - 1]? = some d ∧ P (.lst xs.dropLast) (fz d)
  | _, _, _ => False
def suPopAt : SMu
  | .lst xs, [.int i], P => ∃ k d, (-(2 ^ 63) ≤ i ∧ i < 2 ^ 63) ∧ seqIndex? i xs.length = some k ∧ xs[k]? = some d ∧ P (.lst (xs.eraseIdx k)) (fz d)
  | _, _, _ => False
def suIns : SMu
  | .lst xs, [.int i, d], P => (xs.length < 16777216 ∧ 0 ≤ i ∧ i < 2 ^ 63) ∧ P (.lst (xs.take i.toNat ++ [d] ++ xs.drop i.toNat)) (fz .non)
  | _, _, _ => False
def suApp : SMu
  | .lst xs, [d], P => xs.length < 16777216 ∧ P (.lst (xs ++ [d])) (fz .non)
  | _, _, _ => False
theorem Reps.dropLast {hot : Pr} {H : Hp} {vs : List V} {ds : List D} (r : Reps K mg hot H vs ds) : Reps K mg hot H vs.dropLast ds.dropLast := by
  rw [List.dropLast_eq_take, List.dropLast_eq_take, r.length]
  exact r.take _
theorem Reps.eraseIdx {hot : Pr} {H : Hp} : ∀ {vs : List V} {ds : List D} (k : Nat), Reps K mg hot H vs ds → Reps K mg hot H (vs.eraseIdx k) (ds.eraseIdx k)
  | _, _, _, .nil => .nil
  | _, _, 0, .cons _ t => t
  | _, _, k + 1, .cons h t => .cons h (Reps.eraseIdx k t)
theorem lst_mk {hot : Pr} {H : Hp} {a : Addr} {vs : List V} {ds : List D} (r : Reps K mg hot H vs ds) : ∀ (hot' : Pr) (H' : Hp), Keeps hot hot' H H' → hot' a → H' a = some (.lst vs) → VR K mg hot' H' (.ref a) ⟨true, .lst ds⟩ := fun _ _ kp hh e => .lst hh e (r.mono kp)
theorem mu_rev : MutL K mg rReverse suRev := by
  refine ⟨fun c ds P h => h, ?_⟩
  intro hot H a xs d ds P Q hh ra rs q k
  unfold suRev at q
  split at q
  · cases rs
    obtain ⟨b, vs, e, _, h2, r⟩ := own_lst ra
    cases e
    exact ⟨a, vs, rfl, rfl, h2, k _ _ _ _ rfl q (lst_mk r.reverse) fun _ _ _ => .non⟩
  · exact q.elim
theorem mu_clear : MutL K mg rClear suClear := by
  refine ⟨fun c ds P h => h, ?_⟩
  intro hot H a xs d ds P Q hh ra rs q k
  unfold suClear at q
  split at q
  · cases rs
    obtain ⟨b, vs, e, _, h2, r⟩ := own_lst ra
    cases e
    exact ⟨a, vs, rfl, rfl, h2, k _ _ _ _ rfl q (lst_mk .nil) fun _ _ _ => .non⟩
  · exact q.elim
theorem mu_pop : MutL K mg rPop suPop := by
  refine ⟨fun c ds P h => h, ?_⟩
  intro hot H a xs d ds P Q hh ra rs q k
  unfold suPop at q
  split at q
  · cases rs
    obtain ⟨b, vs, e, _, h2, r⟩ := own_lst ra
    cases e
    obtain ⟨d, hd, q⟩ := q
    obtain ⟨v, hv, rv⟩ := r.get hd
    exact ⟨a, vs, v, rfl, rfl, h2, by rw [r.length]; exact hv, k _ _ _ _ rfl q (lst_mk r.dropLast) fun _ _ kp => rv.mono kp⟩
  · exact q.elim
theorem mu_popAt : MutL K mg rPopAt suPopAt := by
  refine ⟨fun c ds P h => h, ?_⟩
  intro hot H a xs d ds P Q hh ra rs q k
  unfold suPopAt at q
  split at q
  · cases rs with
    | cons ri rn =>
      cases ri
      cases rn
      obtain ⟨b, vs, e, _, h2, r⟩ := own_lst ra
      cases e
      obtain ⟨j, d, ⟨b1, b2⟩, hk, hd, q⟩ := q
      obtain ⟨v, hv, rv⟩ := r.get hd
      exact ⟨a, vs, _, j, v, rfl, rfl, h2, b1, b2, by rw [r.length]; exact hk, hv, k _ _ _ _ rfl q (lst_mk (r.eraseIdx j)) fun _ _ kp => rv.mono kp⟩
  · exact q.elim
def rIns : V → List V → Hp → VK → Prop := fun x vs H Q => ∃ (l : Addr) (xs : List V) (i : Int) (y : V), x = .ref l ∧ vs = [.int i, y] ∧ H l = some (.lst xs) ∧ xs.length < sizeLine ∧ 0 ≤ i ∧ i < 2 ^ 63 ∧ Q .non (upd H l (.lst (xs.take i.toNat ++ [y] ++ xs.drop i.toNat)))
theorem mt_insD : MtR X "list.insert" rIns := mt_insert
theorem mu_ins : MutL K mg rIns suIns := by
  refine ⟨fun c ds P h => h, ?_⟩
  intro hot H a xs d ds P Q hh ra rs q k
  unfold suIns at q
  split at q
  · cases rs with
    | cons ri rn =>
      cases ri
      cases rn with
      | cons rd rn =>
        cases rn
        obtain ⟨b, vs, e, _, h2, r⟩ := own_lst ra
        cases e
        obtain ⟨⟨b0, b1, b2⟩, q⟩ := q
        exact ⟨a, vs, _, _, rfl, rfl, h2, by rw [slen, r.length]; exact b0, b1, b2, k _ _ _ _ rfl q (lst_mk (((r.take _).append (.cons rd .nil)).append (r.drop _))) fun _ _ _ => .non⟩
  · exact q.elim
theorem mu_app : MutL K mg rAppend suApp := by
  refine ⟨fun c ds P h => h, ?_⟩
  intro hot H a xs d ds P Q hh ra rs q k
  unfold suApp at q
  split at q
  · cases rs with
    | cons rd rn =>
      cases rn
      obtain ⟨b, vs, e, _, h2, r⟩ := own_lst ra
      cases e
      exact ⟨a, vs, _, rfl, rfl, h2, by rw [slen, r.length]; exact q.1, k _ _ _ _ rfl q.2 (lst_mk (r.append (.cons rd .nil))) fun _ _ _ => .non⟩
  · exact q.elim
end
section
variable {K : PySem.W.Frag} {mg : Str → Option Value} {H : Hp}
end
end TL
namespace TL
open PySem PySem.Spec PyProof.Rows L2
def lookS (s : Str) : List (Str × D) → Option D
  | [] => none
  | p :: ps => if s = p.1 then some p.2 else lookS s ps
section
variable {K : PySem.W.Frag} {mg : Str → Option Value} {w : World} {H : Hp} {Q : VK}
end
section
variable {X : Cx} {i : Nat}
end
end TL
namespace TL
open PySem PySem.Spec PyProof.Rows L2
def repS (s : Str) (n : Int) : Str := if n < 1 then Str.empty else if (n == 1 || s.length == 0) = true then s else ⟨(List.replicate n.toNat s.cps).foldl (· ++ ·) #[]⟩
theorem foldl_app {α : Type} (c : Array α) : ∀ (k : Nat) (acc : Array α), ((List.replicate k c).foldl (· ++ ·) acc).toList = acc.toList ++ (List.replicate k c.toList).flatten
  | 0, acc => by simp
  | k + 1, acc => by
    rw [List.replicate_succ, List.foldl_cons, foldl_app c k, Array.toList_append, List.replicate_succ, List.flatten_cons, List.append_assoc]
theorem repS_ok {s : Str} {n : Int} (h : PyData.strOk s = true) : PyData.strOk (repS s n) = true := by
  unfold repS
  split
  · decide +kernel
  · split
    · exact h
    · refine ok_of_mem fun c hc => ?_
      have h2 : c ∈ ((List.replicate n.toNat s.cps).foldl (· ++ ·) #[]).toList := hc
      rw [foldl_app] at h2
      simp only [List.mem_append, List.mem_flatten, List.mem_replicate] at h2
      rcases h2 with h2 | ⟨l, ⟨_, rfl⟩, h2⟩
      · simp at h2
      · have h3 : s.cps.all (· < 0x110000) = true := h
        rw [Array.all_eq_true'] at h3
        simpa using h3 c (by simpa using h2)
def rMulS : R2 := fun x y H Q => ∃ s n, x = .str s ∧ y = .int n ∧ (-(2 ^ 62) ≤ n ∧ n < 2 ^ 62 ∧ s.length * n.toNat ≤ 16777216) ∧ Q (.str (repS s n)) H
theorem op_mulS {X : Cx} : OpR X (binaryOp .Mult) rMulS := by
  intro pins s σ H x y v u Q I rx ry h
  obtain ⟨a, n, rfl, rfl, ⟨h1, h2, h3⟩, q⟩ := h
  obtain ⟨t, rfl⟩ := rx
  obtain ⟨t', rfl⟩ := ry
  have big : n.toNat = n ∨ n < 0 := by omega
  refine PySem.P.mul_str (by rw [decide_eq_false (by omega), decide_eq_false (by omega)]; rfl) (fun c1 c2 => ?_) (fun c1 c2 => ?_) ?_
  · have h4 : ((a.length * n.toNat : Nat) : Int) ≤ 16777216 := Int.ofNat_le.mpr h3
    have h5 : (n.toNat : Int) = n := by omega
    rw [Int.natCast_mul, h5] at h4
    intro c
    have h6 : (2 ^ 63 - 1) / n * n ≥ (2 ^ 63 - 1) - n + 1 := by
      have := Int.emod_add_mul_ediv (2 ^ 63 - 1) n
      have h7 := Int.emod_lt_of_pos (2 ^ 63 - 1) (show 0 < n by omega)
      rw [Int.mul_comm] at this
      omega
    have h8 : ((2 ^ 63 - 1) / n) * n ≤ (a.length : Int) * n := Int.mul_le_mul_of_nonneg_right (by omega) (by omega)
    omega
  · show decide (_ > sizeLine) = false
    rw [slen]
    exact decide_eq_false (by omega)
  · unfold repS at q
    split
    · rename_i c
      rw [if_pos c] at q
      exact ⟨by decide, .str _, H, I.tok _, ⟨_, rfl⟩, q⟩
    · rename_i c
      rw [if_neg c] at q
      split
      · rename_i c2
        rw [if_pos c2] at q
        exact ⟨.str _, H, I, ⟨_, rfl⟩, q⟩
      · rename_i c2
        rw [if_neg c2] at q
        refine ⟨?_, .str _, H, I.tok _, ⟨_, rfl⟩, q⟩
        have e : Str.length ⟨(List.replicate n.toNat a.cps).foldl (· ++ ·) #[]⟩ = n.toNat * a.length := by
          show Array.size _ = _
          rw [← Array.length_toList, foldl_app, List.length_append, PyProof.Rows.lm_len_rep_flat]
          simp; rfl
        rw [e, slen, Nat.mul_comm]; exact h3
def rMulA : R2 := fun x y H Q => rI CMul (fun i j => .int (i * j)) x y H Q ∨ rMulS x y H Q
theorem or_mulA {X : Cx} : OpR X (binaryOp .Mult) rMulA := OpR.or op_mul op_mulS
def sMulA : S2
  | .int i, .int j, P => ((-(2 ^ 64) < i ∧ i < 2 ^ 64) ∨ (-(2 ^ 64) < j ∧ j < 2 ^ 64)) ∧ P (fz (.int (i * j)))
  | .str s, .int n, P => (-(2 ^ 62) ≤ n ∧ n < 2 ^ 62 ∧ s.length * n.toNat ≤ 16777216) ∧ P (fz (.str (repS s n)))
  | _, _, _ => False
section
variable {K : PySem.W.Frag} {mg : Str → Option Value}
theorem bl_mulA : BinL K mg rMulA sMulA := by
  intro hot H x y dx dy P Q hh rx ry q k
  unfold sMulA at q
  split at q
  · exact .inl ⟨_, _, rx.int, ry.int, q.1, post_fz hh k (.int _) q.2⟩
  · obtain ⟨rfl, ok⟩ := rx.str
    exact .inr ⟨_, _, rfl, ry.int, q.1, post_fz hh k (.str _ (repS_ok ok)) q.2⟩
  · exact q.elim
def sDivA : S2
  | .int i, .int j, P => (0 < j ∧ j < 1208925819614629174706176) ∧ P (fz (.int (i / j)))
  | _, _, _ => False
theorem bl_divA : BinL K mg (rI CDivW fun i j => .int (i / j)) sDivA := by
  intro hot H x y dx dy P Q hh rx ry q k
  unfold sDivA at q
  split at q
  · rename_i i j
    obtain ⟨⟨q1, q2⟩, q⟩ := q
    refine ⟨_, _, rx.int, ry.int, ⟨q1, ?_⟩, post_fz hh k (.int _) q⟩
    have h1 : j.natAbs < 2 ^ 80 := by omega
    have h2 : j.natAbs ≠ 0 := by omega
    have := (Nat.log2_lt h2).mpr h1
    omega
  · exact q.elim
def rIsA : R2 := fun x y H Q => (y = .non ∧ Q (.bl (decide (x = .non))) H) ∨ rIsB x y H Q
def rIsNA : R2 := fun x y H Q => (y = .non ∧ Q (.bl (!decide (x = .non))) H) ∨ rNotB x y H Q
theorem or_isA {X : Cx} : OpR X (compareOp .Is) rIsA := OpR.or or_is op_isBl
theorem or_isNA {X : Cx} : OpR X (compareOp .IsNot) rIsNA := OpR.or or_isnot op_notBl
def sIsA (neg : Bool) : S2
  | x, .non, P => P (fz (.bl (if neg then !isNonD x else isNonD x)))
  | .bl a, .bl b, P => P (fz (.bl (if neg then !decide (a = b) else decide (a = b))))
  | _, _, _ => False
theorem bl_isA : BinL K mg rIsA (sIsA false) := by
  intro hot H x y dx dy P Q hh rx ry q k
  unfold sIsA at q
  split at q
  · exact .inl (bl_is hot H x y dx .non P Q hh rx ry q k)
  · cases rx.bl
    cases ry.bl
    exact .inr ⟨_, _, rfl, rfl, post_fz hh k (.bl _) q⟩
  · exact q.elim
theorem bl_isNA : BinL K mg rIsNA (sIsA true) := by
  intro hot H x y dx dy P Q hh rx ry q k
  unfold sIsA at q
  split at q
  · exact .inl (bl_isnot hot H x y dx .non P Q hh rx ry q k)
  · cases rx.bl
    cases ry.bl
    exact .inr ⟨_, _, rfl, rfl, post_fz hh k (.bl _) q⟩
  · exact q.elim
end
def wLrep (ts : WXs) (tb : WX) : WE := fun env P => wLst ts env fun val env1 => ∃ ds, val = ⟨true, .lst ds⟩ ∧ tb env1 fun o env2 => ∃ k, o.res env2 = some (.int k) ∧ (-(2 ^ 63) ≤ k ∧ k < 2 ^ 63 ∧ ds.length * k.toNat ≤ 16777216) ∧ P ⟨true, .lst (List.replicate k.toNat ds).flatten⟩ env2
section
variable {K : PySem.W.Frag} {mg : Str → Option Value} {H : Hp} {Q : VK}
theorem Reps.rep {hot : Pr} {vs : List V} {ds : List D} (r : Reps K mg hot H vs ds) : ∀ k : Nat, Reps K mg hot H (List.replicate k vs).flatten (List.replicate k ds).flatten
  | 0 => .nil
  | k + 1 => by
    rw [List.replicate_succ, List.replicate_succ, List.flatten_cons, List.flatten_cons]
    exact r.append (Reps.rep r k)
theorem lrep_lift {ts : WXs} {tb : WX} {σ : L2.St} (h : liftE K mg (wLrep ts tb) σ H Q) : liftE K mg (wLst ts) σ H fun x H1 => liftX K mg tb σ H1 fun y H2 => rRep x y H2 Q := by
  obtain ⟨oh, τ, env, P, e0, S, t, k⟩ := h
  refine ⟨oh, τ, env, _, e0, S, t, fun v val env1 H1 e1 S1 s1 ⟨ds, hv, t1⟩ => ?_⟩
  subst hv
  refine ⟨oh, (some v, some ⟨true, .lst ds⟩) :: τ, env1, _, e1, S1, t1, fun vb o env2 H2 e2 a2 S2 s2 ⟨n, rn, ⟨b1, b2, b3⟩, p⟩ => ?_⟩
  have hO : ∀ {L : Lay}, hotL oh ([o.cell vb] ++ L) = hotL oh L := by intro L; exact hot_cell
  have S2' : StR K mg oh H2 ([o.cell vb] ++ (((some v, some ⟨true, .lst ds⟩) :: τ) ++ σ.zip env2)) := S2
  obtain rfl := (opd_reads e2 hO S2' a2 (by simp) rn).int
  have S3 : StR K mg oh H2 ((some v, some ⟨true, .lst ds⟩) :: (τ ++ σ.zip env2)) := S2'.right
  obtain ⟨a, vs, rfl, ha, hl, rs⟩ := own_lst S3.head
  have rs2 : Reps K mg (hotL oh (τ ++ σ.zip env2)) H2 vs ds := rs.mono ⟨fun b o e _ _ => e, fun b o e nh z => nh (by
    rcases z with z | z
    · exact .inl z
    · exact .inr (by rw [roots_own]; exact List.mem_cons_of_mem _ z))⟩
  refine ⟨a, n, vs, rfl, rfl, hl, b1, b2, by rw [slen, rs2.length]; exact b3, fun q nq => ?_⟩
  have T := StR.new_lst (K := K) (mg := mg) (hot := hotL oh (τ ++ σ.zip env2)) S3.tail.hots nq (rs2.rep n.toNat)
  have S4 := S3.tail.push T (Step.new_lst nq)
  refine k _ _ env2 _ e2 S4 ?_ p
  have s3 : Step (τ ++ σ.zip env) H (τ ++ σ.zip env2) H2 := (s1.trans s2).lessR fun b hb => by
    show b ∈ roots (o.cell (.int n) :: ((some (.ref a), some ⟨true, .lst ds⟩) :: (τ ++ σ.zip env2)))
    rw [roots_cell, roots_own]
    exact List.mem_cons_of_mem _ hb
  exact s3.trans (Step.new_lst nq).push
end
end TL
namespace TL
open PySem PySem.Spec PyProof.Rows L2
set_option maxHeartbeats 4000000 in
theorem enum_new {v : Value} {o : Obj} {B : Heap → Prop} (b : Begins v o B) : Meets (Builtin.«enumerate.__new__» ⟨[.type "enumerate", v], []⟩) (fun _ R s => B s.heap ∧
      R (.ok (.ret (.ref (s.heap.push o).objs.size))) { s with heap := (s.heap.push o).push { cls := .type "enumerate", data := .fields #[.none, .bool false, .ref s.heap.objs.size, rawInt 0, .none, .none] } }) :=
  .of_wp fun prog w A R s h => by
    obtain ⟨hp, gs, dl, tk, os⟩ := s
    obtain ⟨hb, h⟩ := h
    have sub := sub_enumerate
    have go : ∀ {A' : Around} {E : Value → Shared → Prop} {Q : Value → Shared → Prop}, Q (.ref hp.objs.size) ⟨hp.push o, gs, dl, tk, os⟩ → wpAny (model prog w) A' (pyIter v) Q E ⟨hp, gs, dl, tk, os⟩ := fun q => b.iter prog w _ _ ⟨hp, gs, dl, tk, os⟩ _ hb q
    wp_walk using go
    refine wpAny_stack_any fun st => wpAny_pure ?_
    split
    · rename_i c _ _ _ _ _
      cases (c == Value.type "enumerate") <;> (wp_walk using go; exact ⟨_, rfl, h⟩)
    · wp_walk using go
      exact ⟨_, rfl, h⟩
theorem call_enumT {prog : Program} {w : World} {A : Around} {E : Value → Shared → Prop} {s : Shared} {t : Addr} {items : Array Value} {Q : Value → Shared → Prop} (ht : s.heap.IsTuple t items)
    (h : ∀ h', IsEnum h' (s.heap.objs.size + 1) s.heap.objs.size 0 .none → h'.IsTupleIter s.heap.objs.size t 0 → h'.objs.size = s.heap.objs.size + 2 → (∀ b o, s.heap.get? b = some o → h'.get? b = some o) → Q (.ref (s.heap.objs.size + 1)) { s with heap := h' }) :
    wpAny (model prog w) A (call (.type "enumerate") [.ref t]) Q E s := by
  have b := begins_tuple t items
  refine callType_new F.called_enumerate (by decide) (F.typeCall_enumerate_1 _) (F.newCall_enumerate_1 _) (fun obj => F.args_object_init_2 obj _) F.entry_enumerate_new (enum_new b) ⟨ht, ?_⟩
  have sz : (s.heap.push { cls := .type "tuple_iterator", data := .fields #[.ref t, .int 0 0] }).objs.size = s.heap.objs.size + 1 := Heap.size_push ..
  show _ ∧ _
  rw [sz]
  have he : IsEnum ((s.heap.push { cls := .type "tuple_iterator", data := .fields #[.ref t, .int 0 0] }).push { cls := .type "enumerate", data := .fields #[.none, .bool false, .ref s.heap.objs.size, rawInt 0, .none, .none] }) (s.heap.objs.size + 1) s.heap.objs.size 0 .none := by
    have e := Heap.get?_push_size (s.heap.push { cls := .type "tuple_iterator", data := .fields #[.ref t, .int 0 0] }) (o := { cls := .type "enumerate", data := .fields #[.none, .bool false, .ref s.heap.objs.size, rawInt 0, .none, .none] }) rfl
    rw [sz] at e
    exact e
  exact ⟨⟨_, he, rfl⟩, h _ he ⟨_, Heap.get?_push_of_some _ (Heap.get?_push_size _ rfl), rfl, rfl⟩ (by rw [Heap.size_push, sz]) fun b o x => Heap.get?_push_of_some _ (Heap.get?_push_of_some _ x)⟩
def IteT (K : PySem.W.Frag) (a : Addr) : It :=
  ⟨fun i H => ∃ (xs : List V) (x : V), SqT K H a xs ∧ xs[i]? = some x, fun i H v H' => ∃ T x, v = .ref T ∧ H T = none ∧ H' = upd H T (.tup [.int (i : Nat), x]) ∧ ∀ xs, SqT K H a xs → xs[i]? = some x, fun i H => ∃ xs : List V, SqT K H a xs ∧ xs.length ≤ i⟩
theorem turn_enumT {P : Program} {w : World} {K : PySem.W.Frag} {elts : List Expr} {kk : Nat} {tpos : Pos} (a e it : Addr) :
    Turn P w K (.Tuple elts kk tpos) (IteT K a) [e, it] e (fun i h => (∃ old, IsEnum h e it ((i : Nat) : Int) old) ∧ h.IsTupleIter it a i ∧ e ≠ it) where
  mem := by simp
  obj := fun i h st b hb => by
    obtain ⟨⟨old, he⟩, ⟨o, ho, hc, hd⟩, _⟩ := st
    have z : b = e ∨ b = it := by simpa using hb
    rcases z with rfl | rfl
    · exact ⟨_, he, fun v q => nomatch q⟩
    · exact ⟨o, ho, fun v q => by rw [hd] at q; cases q⟩
  keep := fun i h h' st k => let ⟨⟨old, he⟩, hi, hne⟩ := st; ⟨⟨old, k e (by simp) _ he⟩, hi.at fun o q => k it (by simp) o q, hne⟩
  item := by
    intro X hP hw hK hc i pins s σ H E I hf st hg
    subst hP hw hK
    obtain ⟨⟨old, he⟩, hit, hne⟩ := st
    obtain ⟨xs, x, hq, hx⟩ := hg
    obtain ⟨its, rv, ht, hz⟩ := I.tuple hq
    obtain ⟨u, hu, ru⟩ := rv.get hx
    have hel : e < s.heap.objs.size := Heap.lt_size he
    have hil : it < s.heap.objs.size := by obtain ⟨_, q, _⟩ := hit; exact Heap.lt_size q
    have hai : a ≠ it := by
      rintro rfl
      obtain ⟨o1, e1, c1, _⟩ := ht
      obtain ⟨o2, e2, c2, _⟩ := hit
      rw [e1] at e2; cases e2
      rw [c1] at c2
      exact absurd (Value.type.inj c2) (by decide)
    have hae : e ∉ [it, a] := by
      intro z
      rcases List.mem_cons.mp z with z | z
      · exact hne z
      · have z := List.mem_singleton.mp z
        subst z
        obtain ⟨o1, e1, c1, _⟩ := ht
        have e2 := he
        unfold IsEnum at e2
        rw [e1] at e2
        cases e2
        exact absurd (Value.type.inj c1) (by decide)
    refine wpAny_pyNext_enum_itemD (Draws.tuple (A := X.A.in1) (I.ok.hd hc) it a hai its.toArray) he ⟨hit, ht⟩ (by
      have := (List.getElem?_eq_some_iff.mp hu).1
      simpa using this) hne hae fun x2 h' tk hx2 ho hst hT hsz hk => ?_
    have ex : x2 = u := by
      have hx2 : its.toArray[i]? = some x2 := hx2
      rw [List.getElem?_toArray, hu] at hx2
      exact (Option.some.inj hx2).symm
    subst ex
    refine ⟨_, rfl, wpAny_letOwnedTupleGo_enum (s := { s with heap := h', toks := tk + 1 }) ho fun h'' he' sb => ?_⟩
    have hT2 : h''.get? s.heap.objs.size = some { cls := .type "tuple", data := .seq #[.int i tk, x2] } := (sb.2 _ (Nat.ne_of_gt hel)).trans hT
    have new : ObjOk X.prog X.w (upd H s.heap.objs.size (.tup [.int (i : Nat), x])) h'' s.heap.objs.size (.tup [.int (i : Nat), x]) :=
      ⟨by show 2 ≤ sizeLine; decide, [.int i tk, x2], .cons ⟨_, rfl⟩ (.cons ru .nil), ⟨_, hT2, rfl, _, rfl⟩⟩
    have I1 : L2.Inv X pins σ (upd H s.heap.objs.size (.tup [.int (i : Nat), x])) { s with heap := h'', toks := tk + 1 } :=
      I.turnedNew (ch := [e, it]) (fun b ob hb q => (sb.2 b (fun z => hb (by simp [z]))).trans (hk b ob (fun z => hb (by simp [z])) (fun z => hb (by simp [z])) q)) hf (Nat.le_refl _) new
    refine ⟨.ref s.heap.objs.size, _, I1, rfl, ⟨_, x, rfl, I.hok.fresh (Nat.le_refl _), rfl, fun ys hy => ?_⟩, ⟨⟨x2, ?_⟩, hst.1.at fun o q => (sb.2 it (Ne.symm hne)).trans q, hne⟩, fun b hb => ?_⟩
    · obtain ⟨its2, rv2, ht2, _⟩ := I.tuple hy
      have e1 : its = its2 := by
        obtain ⟨o1, a1, _, n1, d1⟩ := ht
        obtain ⟨o2, a2, _, n2, d2⟩ := ht2
        rw [a1] at a2; cases a2
        rw [d1] at d2
        simpa using (Data.seq.inj d2).1
      subst e1
      rw [rv2.inj rv]; exact hx
    · have e1 : ((i + 1 : Nat) : Int) = (i : Int) + 1 := by omega
      rw [e1]; exact he'
    · have hb' : b < s.heap.objs.size := by
        have z : b = e ∨ b = it := by simpa using hb
        rcases z with rfl | rfl
        · exact hel
        · exact hil
      rw [upd_ne (Nat.ne_of_lt hb')]
      exact (hf b hb).1
  done := by
    intro X hP hw hK hc i pins s σ H E I hf st hg
    subst hP hw hK
    obtain ⟨⟨old, he⟩, hit, hne⟩ := st
    obtain ⟨xs, hq, hx⟩ := hg
    obtain ⟨its, rv, ht, hz⟩ := I.tuple hq
    obtain ⟨f0, f1, f2, f3, f4, f5⟩ := hf it (by simp)
    have hl := rv.length
    have D : Draws X.prog X.w X.A.in1 it [it, a] i (fun _ _ => True) (fun j h => j = i ∧ h.IsTupleIter it a i ∧ h.IsTuple a its.toArray) :=
      ⟨fun j h st => let ⟨o, ho, _⟩ := st.2.1; ⟨o, ho⟩, fun j h h' st k => ⟨st.1, st.2.1.at fun o q => k it (by simp) o q, st.2.2.at fun o q => k a (by simp) o q⟩, fun j s' Q' E' hj st _ => absurd st.1 (Nat.ne_of_lt hj), fun s' Q' E' st k => wpAny_nextOf_tuple_end (I.ok.hd hc) st.2.1 st.2.2 (by simp; omega) k⟩
    exact wpAny_pyNext_enum_endD D he ⟨rfl, hit, ht⟩ fun h' eb => ⟨rfl, I.turned (t' := s.toks) (fun b o hb q => eb b o hb q) f0 f1 f3 f4 f5⟩
  self := fun A i s Q E st h => let ⟨⟨_, he⟩, _⟩ := st; wpAny_pyIter_enum he h
def iEnumA (K : PySem.W.Frag) (ta : TA) : TI := fun σ H R => ta σ H fun vs H1 => (∃ a xs, vs = [.ref a] ∧ SqL K H1 a xs ∧ R (Ite K a) H1) ∨ ∃ a xs, vs = [.ref a] ∧ SqT K H1 a xs ∧ R (IteT K a) H1
theorem pi_enumA {X : Cx} {e : Expr} {ta : TA} {p pos tpos : Pos} {elts : List Expr} {kk : Nat} (hg : Gl X "enumerate") (hm : X.mg "enumerate" = none) (ha : PA X [e] ta) (hs : starEach [e] X.env = [(false, eval e X.env)] := by rfl) :
    PI X (.Tuple elts kk tpos) (.Call (.Name "enumerate" p) [e] [] pos) (iEnumA X.K ta) := by
  refine ⟨fun pins s σ H R I h => ?_⟩
  refine Call_ (ld_blt I hg hm boot_enumerate (PyProof.Rows.callWith_type1 (thn (ha.run pos pins s σ H _ I h) fun us s1 ⟨vs, H1, I1, r1, q1⟩ => ?_) hs rfl))
  have fp : ∀ b ∈ [s1.heap.objs.size + 1, s1.heap.objs.size], s1.heap.objs.size ≤ b := fun b hb => by
    have z : b = s1.heap.objs.size + 1 ∨ b = s1.heap.objs.size := by simpa using hb
    omega
  rcases q1 with ⟨a, xs, ex, hq, q⟩ | ⟨a, xs, ex, hq, q⟩
  · subst ex
    obtain rfl := Vals.ref1 r1
    obtain ⟨its, rv, p', hz⟩ := I1.list hq
    refine call_enumerate_list p'.isList fun h' he hit hsz hk => wpAny_pyIter_enum he ?_
    exact ⟨s1.heap.objs.size + 1, _, _, _, H1, rfl, I1.kept (t' := s1.toks) hk, turn_enum a (s1.heap.objs.size + 1) s1.heap.objs.size, ⟨⟨.none, he⟩, hit, Nat.succ_ne_self _⟩, fun b hb => I1.fpOk (fp b hb) (I1.hok.fresh (fp b hb)), q⟩
  · subst ex
    obtain rfl := Vals.ref1 r1
    obtain ⟨its, rv, p', hz⟩ := I1.tuple hq
    refine call_enumT p' fun h' he hit hsz hk => wpAny_pyIter_enum he ?_
    exact ⟨s1.heap.objs.size + 1, _, _, _, H1, rfl, I1.kept (t' := s1.toks) hk, turn_enumT a (s1.heap.objs.size + 1) s1.heap.objs.size, ⟨⟨.none, he⟩, hit, Nat.succ_ne_self _⟩, fun b hb => I1.fpOk (fp b hb) (I1.hok.fresh (fp b hb)), q⟩
def wiEnumA (t : WXs) : WI := fun env P => t env fun os env1 => ∃ d ds, tms os = some [d] ∧ (d = .lst ds ∨ d = .tup ds) ∧ P (enumD ds) env1
section
variable {K : PySem.W.Frag} {mg : Str → Option Value} {hot : Pr} {H : Hp}
theorem items_enumT {a : Addr} {vs : List V} {ds : List D} (h : TpF K hot H a vs) (r : Reps K mg hot H vs ds) : ItemsOk K mg hot H (IteT K a) (enumD ds) where
  turn := fun hot' H' i d kp hh hd => by
    obtain ⟨y, hy, rfl⟩ := enumD_get hd
    have h' := (kp.tp h).sq
    obtain ⟨v, hv, rv⟩ := r.get hy
    refine ⟨⟨vs, v, h', hv⟩, fun x H2 q => ?_⟩
    obtain ⟨T, z, rfl, n, rfl, q⟩ := q
    have e := q vs h'
    rw [hv] at e
    cases e
    exact ⟨StR.new_lse hh n (.cons (.int _) (.cons (rv.mono kp) .nil)), Step.new_fro n⟩
  stop := fun hot' H' i kp hi => ⟨vs, (kp.tp h).sq, by rw [r.length]; unfold enumD at hi; simpa using hi⟩
theorem enumA_items {t : WXs} {σ : L2.St} {H : Hp} {R : It → Hp → Prop} (h : liftI K mg (wiEnumA t) σ H R) : iEnumA K (liftXs K mg t) σ H R := by
  obtain ⟨oh, τ, env, P, e0, S, t1, k⟩ := h
  refine ⟨oh, τ, env, _, e0, S, t1, fun vs os env1 H1 e1 a1 S1 s1 ⟨d, ds, hr, hd, p⟩ => ?_⟩
  have r := tms_reps S1 a1 hr fun c hc => List.mem_append_left _ hc
  rw [hot_cells] at r
  cases r with
  | cons r1 r2 =>
    cases r2
    rcases hd with rfl | rfl
    · cases r1 with
      | lst hl rs => exact .inl ⟨_, _, rfl, hl.sq, k _ env1 H1 _ e1 S1.right (s1.lessR fun a ha => roots_app_sub a ha) (items_enum hl rs) p⟩
    · cases r1 with
      | tup hl rs => exact .inr ⟨_, _, rfl, hl.sq, k _ env1 H1 _ e1 S1.right (s1.lessR fun a ha => roots_app_sub a ha) (items_enumT hl rs) p⟩
end
end TL
namespace TL
open PySem PySem.Spec PyProof.Rows L2
section
variable {K : PySem.W.Frag} {mg : Str → Option Value} {lent : List Nat}
end
end TL
namespace TL
open PySem PySem.Spec PyProof.Rows L2
section
variable {K : PySem.W.Frag} {mg : Str → Option Value}
end
def charsD (s : Str) : List D := s.cps.toList.map fun c => .str ⟨#[c]⟩
section
variable {K : PySem.W.Frag} {mg : Str → Option Value} {hot : Pr} {H : Hp} {X : Cx}
theorem strOk_one {s : Str} (h : PyData.strOk s = true) {c : Nat} (hc : c ∈ s.cps.toList) : PyData.strOk ⟨#[c]⟩ = true :=
  ok_of_mem fun d hd => by
    have : d = c := by simpa using hd
    rw [this]; exact ok_mem h c hc
theorem items_str {x : Str} (h : PyData.strOk x = true) : ItemsOk K mg hot H (Its x) (charsD x) where
  turn := fun hot' H' i d kp hh hd => by
    unfold charsD at hd
    rw [List.getElem?_map] at hd
    obtain ⟨c, hc, rfl⟩ := Option.map_eq_some_iff.mp hd
    obtain ⟨h1, h2⟩ := List.getElem?_eq_some_iff.mp hc
    refine ⟨(by show i < x.cps.size; simpa using h1), fun v H2 y => ?_⟩
    obtain ⟨rfl, c', hc', rfl⟩ := y
    have e : c' = c := by
      rw [← Array.getElem?_toList] at hc'
      rw [hc] at hc'
      exact (Option.some.inj hc').symm
    subst e
    exact ⟨StR.one_fro hh (.str _ (strOk_one h (by rw [← h2]; exact List.getElem_mem h1))), Step.one_fro⟩
  stop := fun hot' H' i kp hi => by
    unfold charsD at hi
    rw [List.length_map] at hi
    show x.cps.size ≤ i
    simpa using hi
def wiSeqA (t : WE) : WI := fun env P => t env fun val env1 => (∃ ds, (val.d = .lst ds ∨ val.d = .tup ds) ∧ P ds env1) ∨ ∃ s, val.d = .str s ∧ P (charsD s) env1
def iSeqA (K : PySem.W.Frag) (tl : TE) : TI := fun σ H R => tl σ H fun x H1 => ((∃ a, x = .ref a ∧ (∃ xs, SqL K H1 a xs) ∧ R (Itl K a) H1) ∨ ∃ a, x = .ref a ∧ (∃ xs, SqT K H1 a xs) ∧ R (Itt K a) H1) ∨ ∃ s, x = .str s ∧ R (Its s) H1
theorem pi_seqA {tg l : Expr} {tl : TE} (hl : PE X l tl) : PI X tg l (iSeqA X.K tl) := by
  refine ⟨fun pins s σ H R I h => thn (hl.run pins s σ H _ I h) fun v s1 ⟨x, H1, I1, r1, q1⟩ => ?_⟩
  have fresh : ∀ b ∈ [s1.heap.objs.size], FpOk X pins H1 b := fun b hb => by
    obtain rfl := List.mem_singleton.mp hb
    exact I1.fpOk (Nat.le_refl _) (I1.hok.fresh (Nat.le_refl _))
  rcases q1 with (⟨a, rfl, ⟨xs, hq⟩, q⟩ | ⟨a, rfl, ⟨xs, hq⟩, q⟩) | ⟨x, rfl, q⟩
  · cases r1
    obtain ⟨its, rv, p, hz⟩ := I1.list hq
    exact wpAny_pyIter_list p.isList ⟨s1.heap.objs.size, [s1.heap.objs.size], _, _, H1, rfl, I1.kept (t' := s1.toks) fun b o e => Heap.get?_push_of_some _ e, turn_list a _, ⟨_, Heap.get?_push_size _ rfl, rfl, rfl⟩, fresh, q⟩
  · cases r1
    obtain ⟨its, rv, p, hz⟩ := I1.tuple hq
    exact wpAny_pyIter_tuple (show s1.heap.IsTuple a its.toArray from p) ⟨s1.heap.objs.size, [s1.heap.objs.size], _, _, H1, rfl, I1.kept (t' := s1.toks) fun b o e => Heap.get?_push_of_some _ e, turn_tuple a _, ⟨_, Heap.get?_push_size _ rfl, rfl, rfl⟩, fresh, q⟩
  · obtain ⟨t, rfl⟩ := r1
    cases ha : x.cps.all (· < 128)
    · exact wpAny_pyIter_wide ha (pi_one (tk := s1.toks) I1 _ (turn_str _ x t "str_iterator" (.inr rfl)) ⟨_, Heap.get?_push_size _ rfl, rfl, rfl⟩ q)
    · exact wpAny_pyIter_ascii ha (pi_one (tk := s1.toks) I1 _ (turn_str _ x t "str_ascii_iterator" (.inl rfl)) ⟨_, Heap.get?_push_size _ rfl, rfl, rfl⟩ q)
theorem seqA_items {t : WE} {σ : L2.St} {R : It → Hp → Prop} (h : liftI K mg (wiSeqA t) σ H R) : iSeqA K (liftE K mg t) σ H R := by
  obtain ⟨oh, τ, env, P, e0, S, t1, k⟩ := h
  refine ⟨oh, τ, env, _, e0, S, t1, fun v val env1 H1 e1 S1 s1 q => ?_⟩
  have S1f := S1.freeze
  have r := S1f.head_fro
  have s1' : Step (τ ++ σ.zip env) H (τ ++ σ.zip env1) H1 := s1.lessR fun a ha => roots_cons_sub a ha
  rcases q with ⟨ds, hd | hd, p⟩ | ⟨x, hd, p⟩
  · rw [hd] at r
    cases r with
    | lst hl rs => exact .inl (.inl ⟨_, rfl, ⟨_, hl.sq⟩, k ds env1 H1 _ e1 S1.tail s1' (items_lst hl rs) p⟩)
  · rw [hd] at r
    cases r with
    | tup hl rs => exact .inl (.inr ⟨_, rfl, ⟨_, hl.sq⟩, k ds env1 H1 _ e1 S1.tail s1' (items_tup hl rs) p⟩)
  · rw [hd] at r
    cases r with
    | str _ ok => exact .inr ⟨_, rfl, k _ env1 H1 _ e1 S1.tail s1' (items_str ok) p⟩
end
end TL
namespace TL
open PySem PySem.Spec PyProof.Rows L2
def opnV : Val → Val
  | ⟨true, .box (.tup ds)⟩ => fz (.tup (ds.map cl1))
  | ⟨true, .box (.lst ds)⟩ => ⟨true, .lst (ds.map cl1)⟩
  | ⟨true, .box (.dic ks ds)⟩ => ⟨true, .dic ks (ds.map cl1)⟩
  | x => x
section
variable {K : PySem.W.Frag} {mg : Str → Option Value} {hot hot' oh : Pr} {H H' : Hp} {L : Lay}
theorem RepBs.get : ∀ {vs : List V} {ds : List D} {i : Nat} {d : D}, RepBs K mg hot H vs ds → ds[i]? = some d → ∃ v, vs[i]? = some v ∧ RepB K mg hot H v d
  | _, _, _, _, .nil, e => by simp at e
  | _, _, 0, _, .cons h _, e => by simp at e; subst e; exact ⟨_, rfl, h⟩
  | _, _, i + 1, _, .cons _ t, e => by
    obtain ⟨v, e1, r⟩ := RepBs.get (i := i) t (by simpa using e)
    exact ⟨v, by simpa using e1, r⟩
theorem StR.opn {v : V} {x : Val} (S : StR K mg oh H ((some v, some x) :: L)) : StR K mg oh H ((some v, some (opnV x)) :: L) ∧ ∀ a ∈ roots ((some v, some (opnV x)) :: L), a ∈ roots ((some v, some x) :: L) := by
  unfold opnV
  split
  · rename_i ds
    have r := S.head
    cases r with
    | boxT h1 h2 rs =>
      rename_i a vs
      have nd := S.nd
      rw [roots_ownG] at nd
      obtain ⟨n1, n3⟩ := List.nodup_cons.mp nd
      obtain ⟨n4, n2, n5⟩ := List.nodup_append.mp n3
      have S0 := S.tail
      have cool : ∀ b ∈ a :: ds.flatMap TL.own1, ¬ hotL oh L b := by
        rintro b hb (q | q)
        · exact S.dj b (by rw [roots_ownG]; exact (List.mem_cons.mp hb).elim (fun e => by rw [e]; exact List.mem_cons_self) fun z => List.mem_cons_of_mem _ (List.mem_append_left _ z)) q
        · rcases List.mem_cons.mp hb with e | z
          · rw [e] at q; exact n1 (List.mem_append_right _ q)
          · exact n5 b z b q rfl
      have kp : Keeps (hotL oh ((some (V.ref a), some ⟨true, .box (.tup ds)⟩) :: L)) (hotL oh L) H H :=
        ⟨fun _ _ e _ _ => e, fun b o _ n q => n (q.elim .inl fun q => .inr (by rw [roots_ownG]; exact List.mem_cons_of_mem _ (List.mem_append_right _ q)))⟩
      obtain ⟨o, po, h2⟩ := h2
      refine ⟨S0.push (StR.one_fro S0.hots (.tup (.inl ⟨cool a List.mem_cons_self, o, po, h2⟩) (rs.cool kp fun b hb => cool b (List.mem_cons_of_mem _ hb)))) Step.one_fro, fun b hb => ?_⟩
      rw [roots_fro] at hb
      exact roots_cons_sub b hb
  · rename_i ds
    have r := S.head
    cases r with
    | boxL h1 h2 rs =>
      rename_i a vs
      have nd := S.nd
      rw [roots_ownG] at nd
      obtain ⟨n1, n3⟩ := List.nodup_cons.mp nd
      obtain ⟨n4, n2, n5⟩ := List.nodup_append.mp n3
      have sub : ∀ b ∈ roots ((some (V.ref a), some ⟨true, .lst (ds.map cl1)⟩) :: L), b ∈ roots ((some (V.ref a), some ⟨true, .box (.lst ds)⟩) :: L) := fun b hb => by
        rw [roots_own] at hb
        rw [roots_ownG]
        exact (List.mem_cons.mp hb).elim (fun e => by rw [e]; exact List.mem_cons_self) fun z => List.mem_cons_of_mem _ (List.mem_append_right _ z)
      have cool : ∀ b ∈ ds.flatMap TL.own1, ¬ hotL oh ((some (V.ref a), some ⟨true, .lst (ds.map cl1)⟩) :: L) b := by
        rintro b hb (q | q)
        · exact S.dj b (by rw [roots_ownG]; exact List.mem_cons_of_mem _ (List.mem_append_left _ hb)) q
        · rw [roots_own] at q
          rcases List.mem_cons.mp q with e | z
          · rw [e] at hb; exact n1 (List.mem_append_left _ hb)
          · exact n5 b hb b z rfl
      have kp : Keeps (hotL oh ((some (V.ref a), some ⟨true, .box (.lst ds)⟩) :: L)) (hotL oh ((some (V.ref a), some ⟨true, .lst (ds.map cl1)⟩) :: L)) H H :=
        ⟨fun _ _ e _ _ => e, fun b o _ n q => n (q.elim .inl fun q => .inr (sub b q))⟩
      refine ⟨⟨fun p hp x hx => ?_, by rw [roots_own]; exact List.nodup_cons.mpr ⟨fun z => n1 (List.mem_append_right _ z), n2⟩, fun b hb => S.dj b (sub b hb), S.tr⟩, sub⟩
      rcases List.mem_cons.mp hp with rfl | hp
      · cases hx
        exact ⟨_, rfl, .lst (.inr (by rw [roots_own]; exact List.mem_cons_self)) h2 (rs.cool kp cool)⟩
      · obtain ⟨w, e, q⟩ := S.all p (List.mem_cons_of_mem _ hp) x hx
        exact ⟨w, e, q.mono kp fun b hb => ⟨.inr (roots_cons_sub b (mem_roots.mpr ⟨p, hp, by rw [cell_eq hx e]; exact hb⟩)), rfl⟩⟩
  · rename_i ks ds
    have r := S.head
    cases r with
    | boxD h1 h2 ek rs =>
      rename_i a kvs
      have nd := S.nd
      rw [roots_ownG] at nd
      obtain ⟨n1, n3⟩ := List.nodup_cons.mp nd
      obtain ⟨n4, n2, n5⟩ := List.nodup_append.mp n3
      have sub : ∀ b ∈ roots ((some (V.ref a), some ⟨true, .dic ks (ds.map cl1)⟩) :: L), b ∈ roots ((some (V.ref a), some ⟨true, .box (.dic ks ds)⟩) :: L) := fun b hb => by
        rw [roots_ownD] at hb
        rw [roots_ownG]
        exact (List.mem_cons.mp hb).elim (fun e => by rw [e]; exact List.mem_cons_self) fun z => List.mem_cons_of_mem _ (List.mem_append_right _ z)
      have cool : ∀ b ∈ ds.flatMap TL.own1, ¬ hotL oh ((some (V.ref a), some ⟨true, .dic ks (ds.map cl1)⟩) :: L) b := by
        rintro b hb (q | q)
        · exact S.dj b (by rw [roots_ownG]; exact List.mem_cons_of_mem _ (List.mem_append_left _ hb)) q
        · rw [roots_ownD] at q
          rcases List.mem_cons.mp q with e | z
          · rw [e] at hb; exact n1 (List.mem_append_left _ hb)
          · exact n5 b hb b z rfl
      have kp : Keeps (hotL oh ((some (V.ref a), some ⟨true, .box (.dic ks ds)⟩) :: L)) (hotL oh ((some (V.ref a), some ⟨true, .dic ks (ds.map cl1)⟩) :: L)) H H :=
        ⟨fun _ _ e _ _ => e, fun b o _ n q => n (q.elim .inl fun q => .inr (sub b q))⟩
      refine ⟨⟨fun p hp x hx => ?_, by rw [roots_ownD]; exact List.nodup_cons.mpr ⟨fun z => n1 (List.mem_append_right _ z), n2⟩, fun b hb => S.dj b (sub b hb), S.tr⟩, sub⟩
      rcases List.mem_cons.mp hp with rfl | hp
      · cases hx
        exact ⟨_, rfl, .dicK (.inr (by rw [roots_ownD]; exact List.mem_cons_self)) h2 ek (rs.cool kp cool)⟩
      · obtain ⟨w, e, q⟩ := S.all p (List.mem_cons_of_mem _ hp) x hx
        exact ⟨w, e, q.mono kp fun b hb => ⟨.inr (roots_cons_sub b (mem_roots.mpr ⟨p, hp, by rw [cell_eq hx e]; exact hb⟩)), rfl⟩⟩
  · exact ⟨S, fun a h => h⟩
theorem RepBs.set {b : Addr} {ws : List V} {xs ys : List D} (k : ∀ a o, H a = some o → a ≠ b → H' a = some o) (cool : ∀ a o, H a = some o → ¬ hot a → ¬ hot' a) (hb0 : hot b) (keepHot : ∀ a, hot a → hot' a) (hb : hot' b) (he : H' b = some (.lst ws)) (rw' : Reps K mg hot' H' ws ys) :
    ∀ {vs : List V} {ds : List D} (j : Nat), RepBs K mg hot H vs ds → ds[j]? = some (.own b xs) → (ds.flatMap TL.own1).Nodup → RepBs K mg hot' H' vs (ds.set j (.own b ys))
  | _, _, _, .nil, h, _ => by simp at h
  | _, _, 0, .cons (vs := vs) (ds := ds) r t, h, nd => by
    simp at h
    subst h
    rw [List.flatMap_cons] at nd
    obtain ⟨n1, n2, n3⟩ := List.nodup_append.mp nd
    have kp : Keeps hot hot' H H' := ⟨fun a o e n _ => k a o e fun z => n (z ▸ hb0), cool⟩
    refine .cons ?_ (t.mono kp fun c hc => ?_)
    · cases r with
      | fro r => cases r
      | own h1 h2 r => exact .own hb he rw'
    · obtain ⟨q1, q2⟩ := t.isHot c hc
      refine ⟨keepHot c q1, ?_⟩
      cases e : H c with
      | none => exact absurd e q2
      | some o => exact k c o e fun z => n3 b (by simp [TL.own1]) c hc z.symm
  | _, _, j + 1, .cons (d := d) (ds := ds) r t, h, nd => by
    rw [List.flatMap_cons] at nd
    obtain ⟨n1, n2, n3⟩ := List.nodup_append.mp nd
    have hj : _ := h
    simp only [List.getElem?_cons_succ] at hj
    have hbm : b ∈ ds.flatMap TL.own1 := List.mem_flatMap.mpr ⟨D.own b xs, List.mem_of_getElem? hj, List.mem_cons_self (a := b) (l := [])⟩
    have kp : Keeps hot hot' H H' := ⟨fun a o e n _ => k a o e fun z => n (z ▸ hb0), cool⟩
    refine .cons (r.mono kp fun c hc => ?_) (RepBs.set k cool hb0 keepHot hb he rw' j t hj n2)
    obtain ⟨q1, q2⟩ := r.isHot c hc
    refine ⟨keepHot c q1, ?_⟩
    cases e : H c with
    | none => exact absurd e q2
    | some o => exact k c o e fun z => n3 c hc b hbm z
theorem own1_set {b : Addr} {xs ys : List D} : ∀ {ds : List D} (j : Nat), ds[j]? = some (.own b xs) → (ds.set j (.own b ys)).flatMap TL.own1 = ds.flatMap TL.own1
  | [], _, h => by simp at h
  | d :: ds, 0, h => by
    simp at h
    subst h
    rfl
  | d :: ds, j + 1, h => by
    rw [List.set_cons_succ, List.flatMap_cons, List.flatMap_cons, own1_set j (by simpa using h)]
def bwith : D → List D → D
  | .tup _, ds => .tup ds
  | .lst _, ds => .lst ds
  | .dic ks _, ds => .dic ks ds
  | .ins C ns _, ds => .ins C ns ds
  | d, _ => d
inductive BoxOf : D → List D → Prop
  | tup {ds} : BoxOf (.tup ds) ds
  | lst {ds} : BoxOf (.lst ds) ds
  | dic {ks ds} : BoxOf (.dic ks ds) ds
  | ins {C ns ds} : BoxOf (.ins C ns ds) ds
theorem BoxOf.bx {c : D} {ds : List D} (h : BoxOf c ds) : TL.bx (.box c) = ds.flatMap TL.own1 := by cases h <;> rfl
theorem BoxOf.wth {c : D} {ds es : List D} (h : BoxOf c ds) : BoxOf (bwith c es) es := by cases h <;> constructor
theorem VR.box_items {v : V} {c : D} {ds : List D} (hc : BoxOf c ds) (r : VR K mg hot H v ⟨true, .box c⟩) : ∃ a vs, v = .ref a ∧ RepBs K mg hot H vs ds := by
  cases hc with
  | tup => cases r with | boxT h1 h2 rs => exact ⟨_, _, rfl, rs⟩
  | lst => cases r with | boxL h1 h2 rs => exact ⟨_, _, rfl, rs⟩
  | dic => cases r with | boxD h1 h2 ek rs => exact ⟨_, _, rfl, rs⟩
  | ins => cases r with | boxI h1 h2 ek rs => exact ⟨_, _, rfl, rs⟩
theorem VR.box_with {a : Addr} {c : D} {ds es : List D} (hc : BoxOf c ds) (r : VR K mg hot H (.ref a) ⟨true, .box c⟩) (ha : hot' a) (he : H' a = H a) (k : ∀ vs, RepBs K mg hot H vs ds → RepBs K mg hot' H' vs es) : VR K mg hot' H' (.ref a) ⟨true, .box (bwith c es)⟩ := by
  cases hc with
  | tup => cases r with | boxT h1 h2 rs => obtain ⟨o, po, h2⟩ := h2; exact .boxT ha ⟨o, po, he.trans h2⟩ (k _ rs)
  | lst => cases r with | boxL h1 h2 rs => exact .boxL ha (he.trans h2) (k _ rs)
  | dic => cases r with | boxD h1 h2 ek rs => exact .boxD ha (he.trans h2) ek (k _ rs)
  | ins => cases r with | boxI h1 h2 ek rs => exact .boxI ha (he.trans h2) ek (k _ rs)
theorem StR.put_in {a b : Addr} {c : D} {ds : List D} {xs : List D} {j : Nat} (S : StR K mg oh H ((some (.ref a), some ⟨true, .box c⟩) :: L)) (hc : BoxOf c ds) (hj : ds[j]? = some (.own b xs)) :
    hotL oh ((some (.ref a), some ⟨true, .box c⟩) :: L) b ∧ (∃ vs0, H b = some (.lst vs0) ∧ Reps K mg (hotL oh ((some (.ref a), some ⟨true, .box c⟩) :: L)) H vs0 xs) ∧ ∀ (ws : List V) (ys : List D), Reps K mg (hotL oh ((some (.ref a), some ⟨true, .box c⟩) :: L)) (upd H b (.lst ws)) ws ys →
      StR K mg oh (upd H b (.lst ws)) ((some (.ref a), some ⟨true, .box (bwith c (ds.set j (.own b ys)))⟩) :: L) ∧ Step ((some (.ref a), some ⟨true, .box c⟩) :: L) H ((some (.ref a), some ⟨true, .box (bwith c (ds.set j (.own b ys)))⟩) :: L) (upd H b (.lst ws)) := by
  have r := S.head
  obtain ⟨a', vs, e, rs⟩ := r.box_items hc
  cases e
  obtain ⟨v, hv, rb⟩ := rs.get hj
  have nd := S.nd
  rw [roots_ownG, hc.bx] at nd
  obtain ⟨n1, n3⟩ := List.nodup_cons.mp nd
  obtain ⟨n4, n2, n5⟩ := List.nodup_append.mp n3
  have hbm : b ∈ ds.flatMap TL.own1 := List.mem_flatMap.mpr ⟨D.own b xs, List.mem_of_getElem? hj, List.mem_cons_self (a := b) (l := [])⟩
  have hbr : b ∈ roots ((some (V.ref a), some ⟨true, .box c⟩) :: L) := by rw [roots_ownG, hc.bx]; exact List.mem_cons_of_mem _ (List.mem_append_left _ hbm)
  have nab : a ≠ b := fun e => n1 (by rw [e]; exact List.mem_append_left _ hbm)
  refine ⟨.inr hbr, ?_, fun ws ys rw' => ?_⟩
  · cases rb with
    | fro r => cases r
    | own h1 h2 r => exact ⟨_, h2, r⟩
  · have hr : roots ((some (V.ref a), some ⟨true, .box (bwith c (ds.set j (.own b ys)))⟩) :: L) = roots ((some (V.ref a), some ⟨true, .box c⟩) :: L) := by
      rw [roots_ownG, roots_ownG, hc.bx, (BoxOf.wth hc).bx, own1_set j hj]
    have hh : hotL oh ((some (V.ref a), some ⟨true, .box (bwith c (ds.set j (.own b ys)))⟩) :: L) = hotL oh ((some (V.ref a), some ⟨true, .box c⟩) :: L) := by unfold hotL; rw [hr]
    have kk : ∀ x o, H x = some o → x ≠ b → upd H b (.lst ws) x = some o := fun x o e n => by rw [upd_ne n]; exact e
    have kp : Keeps (hotL oh ((some (V.ref a), some ⟨true, .box c⟩) :: L)) (hotL oh ((some (V.ref a), some ⟨true, .box c⟩) :: L)) H (upd H b (.lst ws)) := ⟨fun x o e n _ => kk x o e fun z => n (by rw [z]; exact .inr hbr), fun _ _ _ n => n⟩
    refine ⟨⟨fun p hp x hx => ?_, by rw [hr]; exact S.nd, fun x hx => S.dj x (by rw [hr] at hx; exact hx), hot_upd S.tr (S.root_pl hbr)⟩, ⟨fun x o e n _ => kk x o e fun z => n (by rw [z]; exact hbr), fun x hx => .inl (by rw [hr] at hx; exact hx), fun x e => by
      by_cases q : x = b
      · subst q; rw [upd_same]; simp
      · rw [upd_ne q]; exact e⟩⟩
    rw [hh]
    rcases List.mem_cons.mp hp with rfl | hp
    · cases hx
      exact ⟨_, rfl, r.box_with hc (.inr (by rw [roots_ownG]; exact List.mem_cons_self)) (upd_ne nab) fun vs rs => rs.set kk (fun _ _ _ n => n) (.inr hbr) (fun _ h => h) (.inr hbr) upd_same rw' j hj n4⟩
    · obtain ⟨w, e, q⟩ := S.all p (List.mem_cons_of_mem _ hp) x hx
      refine ⟨w, e, q.mono kp fun x hb => ?_⟩
      have hx2 : x ∈ roots L := mem_roots.mpr ⟨p, hp, by rw [cell_eq hx e]; exact hb⟩
      exact ⟨.inr (roots_cons_sub x hx2), upd_ne fun z => n5 b hbm x hx2 z.symm⟩
theorem slot_box {σ : L2.St} {env : EnvD} {τ : Lay} {i j : Nat} {c : D} {ds xs : List D} {b : Addr} (e0 : σ.length = env.length) (S : StR K mg oh H (τ ++ σ.zip env)) (hx : env[i]? = some (some ⟨true, .box c⟩)) (hc : BoxOf c ds) (hj : ds[j]? = some (.own b xs)) :
    ∃ a, σ[i]? = some (some (.ref a)) ∧ VR K mg (hotL oh (τ ++ σ.zip env)) H (.ref a) ⟨true, .box c⟩ ∧ hotL oh (τ ++ σ.zip env) b ∧ (∃ vs0, H b = some (.lst vs0) ∧ Reps K mg (hotL oh (τ ++ σ.zip env)) H vs0 xs) ∧ ∀ (ws : List V) (ys : List D), Reps K mg (hotL oh (τ ++ σ.zip env)) (upd H b (.lst ws)) ws ys →
      StR K mg oh (upd H b (.lst ws)) (τ ++ σ.zip (env.set i (some ⟨true, .box (bwith c (ds.set j (.own b ys)))⟩))) ∧ Step (τ ++ σ.zip env) H (τ ++ σ.zip (env.set i (some ⟨true, .box (bwith c (ds.set j (.own b ys)))⟩))) (upd H b (.lst ws)) := by
  obtain ⟨v, hv, r⟩ := get_slot e0 S hx
  obtain ⟨a, rfl, _, _⟩ := r.own_root
  obtain ⟨A, B, e1, e2⟩ := zip_split e0 hv hx
  have hset : σ.set i (some (.ref a)) = σ := by
    obtain ⟨hi, he⟩ := List.getElem?_eq_some_iff.mp hv
    rw [← he]; exact List.set_getElem_self hi
  have p1 : (τ ++ σ.zip env).Perm ((some (.ref a), some ⟨true, .box c⟩) :: (τ ++ (A ++ B))) := by rw [e1]; exact perm_mid
  have eh : hotL oh (τ ++ σ.zip env) = hotL oh ((some (.ref a), some ⟨true, .box c⟩) :: (τ ++ (A ++ B))) := by
    funext b
    apply propext
    unfold hotL
    rw [roots_perm p1]
  obtain ⟨g1, g2, g3⟩ := (S.perm p1).put_in hc hj
  rw [← eh] at g1 g2 g3
  refine ⟨a, hv, r, g1, g2, fun ws ys rw' => ?_⟩
  obtain ⟨S2, s2⟩ := g3 ws ys rw'
  have e3 := e2 (some (.ref a)) (some ⟨true, .box (bwith c (ds.set j (.own b ys)))⟩)
  rw [hset] at e3
  have p2 : (τ ++ σ.zip (env.set i (some ⟨true, .box (bwith c (ds.set j (.own b ys)))⟩))).Perm ((some (.ref a), some ⟨true, .box (bwith c (ds.set j (.own b ys)))⟩) :: (τ ++ (A ++ B))) := by rw [e3]; exact perm_mid
  exact ⟨S2.perm p2.symm, (s2.permL p1.symm).permR p2.symm⟩
def wMutB (s : SMu) (i j : Nat) (ts : WXs) : WE := fun env P => ∃ b, (∃ c ds xs, env[i]? = some (some ⟨true, .box c⟩) ∧ (c = .tup ds ∨ c = .lst ds) ∧ ds[j]? = some (.own b xs)) ∧
  ts env fun os env1 => ∃ c ds xs as, env1[i]? = some (some ⟨true, .box c⟩) ∧ (c = .tup ds ∨ c = .lst ds) ∧ ds[j]? = some (.own b xs) ∧ tms os = some as ∧ s (.lst xs) as fun d' val => ∃ ys, d' = .lst ys ∧ P val (env1.set i (some ⟨true, .box (bwith c (ds.set j (.own b ys)))⟩))
theorem box_of {c : D} {ds : List D} (h : c = .tup ds ∨ c = .lst ds) : BoxOf c ds := by rcases h with rfl | rfl <;> constructor
theorem atI_natV {α : Type} (xs : List α) (i : Nat) : atI xs (i : Int) = xs[i]? := by
  unfold atI ixN
  rw [if_pos (by omega)]
  by_cases h : (i : Int) < xs.length
  · rw [if_pos h]; rfl
  · rw [if_neg h]; simp; omega
def tIxJ (K : PySem.W.Frag) (i j : Nat) : TE := tOp (rIx K) (tVar i) (tC (.int (j : Int)))
theorem ixJ_to {σ : L2.St} {env : EnvD} {τ : Lay} {i j : Nat} {c : D} {ds xs : List D} {b : Addr} (e0 : σ.length = env.length) (S : StR K mg oh H (τ ++ σ.zip env)) (hx : env[i]? = some (some ⟨true, .box c⟩)) (hc : c = .tup ds ∨ c = .lst ds) (hj : ds[j]? = some (.own b xs)) {Q : VK} (q : Q (.ref b) H) : tIxJ K i j σ H Q := by
  obtain ⟨v, hv, r⟩ := get_slot e0 S hx
  refine ⟨v, hv, ?_⟩
  show rIx K v (.int (j : Int)) H Q
  rcases hc with rfl | rfl
  · cases r with
    | boxT h1 h2 rs =>
      obtain ⟨w, hw, rb⟩ := rs.get hj
      cases rb with
      | fro r => cases r
      | own _ _ _ => exact .inr (.inl ⟨_, _, _, _, rfl, rfl, .inl h2.rd, by rw [atI_natV]; exact hw, q⟩)
  · cases r with
    | boxL h1 h2 rs =>
      obtain ⟨w, hw, rb⟩ := rs.get hj
      cases rb with
      | fro r => cases r
      | own _ _ _ => exact .inl ⟨_, _, _, _, rfl, rfl, .inl (.inl h2), by rw [atI_natV]; exact hw, q⟩
theorem mutB_fin {r : V → List V → Hp → VK → Prop} {s : SMu} (hl : MutL K mg r s) {τ L0 : Lay} {env1 : EnvD} {σ : L2.St} {i j : Nat} {c : D} {ds xs as : List D} {b : Addr} {vs : List V} {os : List Opd} {H0 H1 : Hp} {P : Val → EnvD → Prop} {Q : VK} (e1 : σ.length = env1.length) (a1 : OpdsAt σ vs os)
    (S1 : StR K mg oh H1 (cells vs os ++ (τ ++ σ.zip env1))) (s1 : Step L0 H0 (cells vs os ++ (τ ++ σ.zip env1)) H1) (hx : env1[i]? = some (some ⟨true, .box c⟩)) (hc : c = .tup ds ∨ c = .lst ds) (hj : ds[j]? = some (.own b xs)) (ht : tms os = some as)
    (q : s (.lst xs) as fun d' val => ∃ ys, d' = .lst ys ∧ P val (env1.set i (some ⟨true, .box (bwith c (ds.set j (.own b ys)))⟩)))
    (k : ∀ v val env' H', σ.length = env'.length → StR K mg oh H' ((some v, some val) :: (τ ++ σ.zip env')) → Step L0 H0 ((some v, some val) :: (τ ++ σ.zip env')) H' → P val env' → Q v H') : r (.ref b) vs H1 Q := by
  have rs := tms_reps S1 a1 ht fun c hc => List.mem_append_left _ hc
  rw [hot_cells] at rs
  obtain ⟨a, ha, rb, hb, ⟨vs0, hv0, r0⟩, put⟩ := slot_box (τ := τ) e1 S1.right hx (box_of hc) hj
  have s1' : Step L0 H0 (τ ++ σ.zip env1) H1 := s1.lessR fun a ha => by rw [roots_cells]; exact ha
  refine hl.2 _ H1 b vs (.lst xs) as _ Q S1.right.hots (.lst hb hv0 r0) rs q fun d' o' v dv hb2 ⟨ys, hd, p⟩ mk rv => ?_
  subst hd
  have kp0 : Keeps (hotL oh (τ ++ σ.zip env1)) (hotL oh (τ ++ σ.zip env1)) H1 (upd H1 b o') := ⟨fun x o e n _ => by rw [upd_ne fun z => n (by rw [z]; exact hb)]; exact e, fun _ _ _ n => n⟩
  have m := mk _ _ kp0 hb upd_same
  obtain ⟨b', ws, eb, _, h2, rws⟩ := own_lst m
  cases eb
  rw [upd_same] at h2
  cases h2
  obtain ⟨S2, s2⟩ := put ws ys rws
  have kp := s2.keeps (oh := oh) (B := [])
  rw [List.append_nil, List.append_nil] at kp
  exact k v (fz dv) _ _ (by rw [List.length_set]; exact e1) (S2.push (StR.one_fro S2.hots (rv _ _ kp)) Step.one_fro) ((s1'.trans s2).trans Step.one_fro.push) p
theorem mutB_ty {σ : L2.St} {env : EnvD} {τ : Lay} {i j : Nat} {c : D} {ds xs : List D} {b : Addr} (e0 : σ.length = env.length) (S : StR K mg oh H (τ ++ σ.zip env)) (hx : env[i]? = some (some ⟨true, .box c⟩)) (hc : c = .tup ds ∨ c = .lst ds) (hj : ds[j]? = some (.own b xs)) : tyV K "list" (.ref b) H := by
  obtain ⟨a, ha, rb, hb, ⟨vs0, hv0, r0⟩, put⟩ := slot_box (τ := τ) e0 S hx (box_of hc) hj
  exact .inl ⟨rfl, vs0, .inl (.inl hv0)⟩
theorem mutB_lift {r : V → List V → Hp → VK → Prop} {s : SMu} (hl : MutL K mg r s) {i j : Nat} {ts : WXs} {σ : L2.St} {Q : VK} (h : liftE K mg (wMutB s i j ts) σ H Q) : tBM K "list" r (tIxJ K i j) (liftXs K mg ts) σ H Q := by
  obtain ⟨oh, τ, env, P, e0, S, ⟨b, ⟨c0, ds0, xs0, hx0, hc0, hj0⟩, t⟩, k⟩ := h
  exact ixJ_to e0 S hx0 hc0 hj0 ⟨mutB_ty e0 S hx0 hc0 hj0, oh, τ, env, _, e0, S, t, fun vs os env1 H1 e1 a1 S1 s1 ⟨c, ds, xs, as, hx, hc, hj, hr, q⟩ => mutB_fin hl e1 a1 S1 s1 hx hc hj hr q k⟩
theorem mutB0_lift {r : V → List V → Hp → VK → Prop} {s : SMu} (hl : MutL K mg r s) {i j : Nat} {σ : L2.St} {Q : VK} (h : liftE K mg (wMutB s i j wXnil) σ H Q) : tBM0 K "list" r (tIxJ K i j) σ H Q := by
  obtain ⟨oh, τ, env, P, e0, S, ⟨b, ⟨c0, ds0, xs0, hx0, hc0, hj0⟩, c, ds, xs, as, hx, hc, hj, hr, q⟩, k⟩ := h
  exact ixJ_to e0 S hx0 hc0 hj0 ⟨mutB_ty e0 S hx0 hc0 hj0, mutB_fin (vs := []) (os := []) hl e0 .nil S Step.refl hx hc hj hr q k⟩
def wMv (i : Nat) : WA1 := fun env P => ∃ x, env[i]? = some (some x) ∧ P (.vl x) (env.set i none)
theorem p1_mv {X : Cx} {x : Str} {pos : Pos} {i : Nat} (h : PE X (.Name x pos) (tVar i)) : PE X (.Name x pos) (liftA1 K mg (wMv i)) := by
  refine PEimp h fun σ H Q w => ?_
  obtain ⟨oh, τ, env, P, e0, S, ⟨x, hx, p⟩, k⟩ := w
  obtain ⟨v, hv, _⟩ := get_slot e0 S hx
  have cp : (core (τ ++ σ.zip env)).Perm (core ((some v, some x) :: (τ ++ σ.zip (env.set i none))) ++ []) := by
    rw [List.append_nil, core_append, core_cons_some, core_append]
    exact (List.Perm.append_left _ (core_slot e0 hv hx)).trans List.perm_middle
  exact ⟨v, hv, k v (.vl x) _ H (by rw [List.length_set]; exact e0) trivial (S.core cp) (Step.refl.coreR cp) p⟩
def sB : List Val → (List D → Prop) → Prop
  | [], k => k []
  | ⟨false, d⟩ :: r, k => sB r fun ds => k (d :: ds)
  | ⟨true, .lst xs⟩ :: r, k => ∀ a, sB r fun ds => k (.own a xs :: ds)
  | _, _ => False
inductive BOf (K : PySem.W.Frag) (mg : Str → Option Value) (hot : Pr) (H : Hp) : List V → List Val → List D → Prop
  | nil : BOf K mg hot H [] [] []
  | fro {v d vs xs ds} : Rep K mg hot H v d → BOf K mg hot H vs xs ds → BOf K mg hot H (v :: vs) (⟨false, d⟩ :: xs) (d :: ds)
  | own {a ws l vs xs ds} : hot a → H a = some (.lst ws) → Reps K mg hot H ws l → BOf K mg hot H vs xs ds → BOf K mg hot H (.ref a :: vs) (⟨true, .lst l⟩ :: xs) (.own a l :: ds)
theorem BOf.reps : ∀ {vs xs ds}, BOf K mg hot H vs xs ds → RepBs K mg hot H vs ds
  | _, _, _, .nil => .nil
  | _, _, _, .fro r t => .cons (.fro r) (BOf.reps t)
  | _, _, _, .own h1 h2 r t => .cons (.own h1 h2 r) (BOf.reps t)
theorem BOf.roots : ∀ {vs xs ds}, BOf K mg hot H vs xs ds → TL.roots (zipA vs xs) = ds.flatMap TL.own1
  | _, _, _, .nil => rfl
  | _, _, _, .fro r t => by rw [zipA_cons, roots_fro, BOf.roots t, List.flatMap_cons, r.own1]; rfl
  | _, _, _, .own h1 h2 r t => by rw [zipA_cons, roots_own, BOf.roots t, List.flatMap_cons]; rfl
theorem sB_of : ∀ {vs : List V} {xs : List Val} {k : List D → Prop}, (∀ p ∈ zipA vs xs, SlotOk K mg hot H p) → vs.length = xs.length → sB xs k → ∃ ds, BOf K mg hot H vs xs ds ∧ k ds
  | [], [], k, _, _, h => ⟨[], .nil, h⟩
  | v :: vs, ⟨false, d⟩ :: xs, k, hp, hl, h => by
    obtain ⟨ds, h1, h2⟩ := sB_of (vs := vs) (xs := xs) (fun p q => hp p (List.mem_cons_of_mem _ q)) (by simpa using hl) h
    obtain ⟨w, e, r⟩ := hp (some v, some ⟨false, d⟩) List.mem_cons_self _ rfl
    cases e
    cases r with
    | fro r => exact ⟨d :: ds, .fro r h1, h2⟩
  | v :: vs, ⟨true, .lst l⟩ :: xs, k, hp, hl, h => by
    obtain ⟨w, e, r⟩ := hp (some v, some ⟨true, .lst l⟩) List.mem_cons_self _ rfl
    cases e
    obtain ⟨a, ws, rfl, h1, h2, rs⟩ := own_lst r
    obtain ⟨ds, g1, g2⟩ := sB_of (vs := vs) (xs := xs) (fun p q => hp p (List.mem_cons_of_mem _ q)) (by simpa using hl) (h a)
    exact ⟨_, .own h1 h2 rs g1, g2⟩
  | _ :: _, ⟨true, .non⟩ :: _, _, _, _, h => h.elim
  | _ :: _, ⟨true, .bl _⟩ :: _, _, _, _, h => h.elim
  | _ :: _, ⟨true, .int _⟩ :: _, _, _, _, h => h.elim
  | _ :: _, ⟨true, .str _⟩ :: _, _, _, _, h => h.elim
  | _ :: _, ⟨true, .tup _⟩ :: _, _, _, _, h => h.elim
  | _ :: _, ⟨true, .dic _ _⟩ :: _, _, _, _, h => h.elim
  | _ :: _, ⟨true, .fn _⟩ :: _, _, _, _, h => h.elim
  | _ :: _, ⟨true, .lse _⟩ :: _, _, _, _, h => h.elim
  | _ :: _, ⟨true, .own _ _⟩ :: _, _, _, _, h => h.elim
  | _ :: _, ⟨true, .ldc _ _⟩ :: _, _, _, _, h => h.elim
  | _ :: _, ⟨true, .box _⟩ :: _, _, _, _, h => h.elim
  | _ :: _, ⟨true, .al _⟩ :: _, _, _, _, h => h.elim
  | _ :: _, ⟨true, .ins _ _ _⟩ :: _, _, _, _, h => h.elim
  | _ :: _, ⟨true, .dkt _ _⟩ :: _, _, _, _, h => h.elim
def unb : D → D
  | .box c => opnD c
  | d => d
def flatR : D → Bool
  | .non => true | .bl _ => true | .int _ => true | .str _ => true | _ => false
def wCallR (n : Nat) (t : DSpec) (ts : WXs) : WE := fun env P => ts env fun os env1 => ∃ ds, resAll env1 os = some ds ∧ os.length = n ∧ t (ds.map fun d => fz (unb d)) fun v xs => flatR v.d = true ∧ P (fz v.d) env1
theorem VRo.bare {v : V} {d : D} (r : VRo K mg hot H v d) : Rep K mg (fun _ => False) H v (unb d) := by
  have kp : Keeps hot (fun _ => False) H H := ⟨fun _ _ e _ _ => e, fun _ _ _ _ z => z⟩
  obtain ⟨o, r⟩ := r
  cases r with
  | fro r =>
    have r' := r.mono kp
    cases r with
    | box _ => cases r' with | box r => exact r
    | _ => exact r'
  | lst h1 h2 r => exact .lst (.inl ⟨fun z => z, .inl h2⟩) (r.mono kp)
  | dicK h1 h2 e r => exact .dicK (fun z => z) h2 e (r.mono kp)
  | boxT h1 h2 rs => obtain ⟨o, po, h2⟩ := h2; exact .tup (.inl ⟨fun z => z, o, po, h2⟩) (rs.cool kp fun _ _ z => z)
  | boxL h1 h2 rs => exact .lst (.inl ⟨fun z => z, .inl h2⟩) (rs.cool kp fun _ _ z => z)
  | boxD h1 h2 e rs => exact .dicK (fun z => z) h2 e (rs.cool kp fun _ _ z => z)
  | ins h1 h2 e r => exact .ins (fun z => z) h2 e (r.mono kp)
  | dkt h1 h2 e v r t => exact .dkt (fun z => z) h2 e v (r.mono kp) (t.mono kp)
  | boxI h1 h2 e rs => exact .ins (fun z => z) h2 e (rs.cool kp fun _ _ z => z)
theorem StR.grow (S : StR K mg oh H L) (g : ∀ a o, H a = some o → NT o → H' a = some o) (dom : ∀ a, H a ≠ none → H' a ≠ none) (tb : LamX.Tabs (tabsOf K) H') : StR K mg oh H' L := by
  have kp : Keeps (hotL oh L) (hotL oh L) H H' := ⟨fun a o e _ nt => g a o e nt, fun _ _ _ n => n⟩
  refine ⟨fun p hp x hx => ?_, S.nd, S.dj, fun a ha => dom a (S.tr.tr a ha), tb⟩
  obtain ⟨v, e, r⟩ := S.all p hp x hx
  refine ⟨v, e, r.mono kp fun b hb => ?_⟩
  have hb2 : b ∈ roots L := mem_roots.mpr ⟨p, hp, by rw [cell_eq hx e]; exact hb⟩
  obtain ⟨o, e2, nw⟩ := S.root_nw hb2
  exact ⟨.inr hb2, by rw [e2]; exact g b o e2 nw.nt⟩
theorem flat_any {v : V} {x : Val} (r : VR K mg hot H v x) (h : flatR x.d = true) : Rep K mg hot' H' v x.d := by
  cases r with
  | fro r =>
    cases r with
    | non => exact .non
    | bl b => exact .bl b
    | int i => exact .int i
    | str x ok => exact .str x ok
    | _ => cases h
  | _ => cases h
theorem callR_lift {n : Nat} {t : DSpec} {ts : WXs} {σ : L2.St} {Q : VK} (h : liftE K mg (wCallR n t ts) σ H Q) : liftXs K mg ts σ H fun vs H1 => spT K mg n t vs H1 Q E0 := by
  obtain ⟨oh, τ, env, P, e0, S, t1, k⟩ := h
  refine ⟨oh, τ, env, _, e0, S, t1, fun vs os env1 H1 e1 a1 S1 s1 ⟨ds, hr, hn, p⟩ => ?_⟩
  have rs := opds_read e1 hot_cells S1 a1 (fun _ h => h) hr
  have hl : vs.length = n := by
    have : ∀ {vs : List V} {os : List Opd}, OpdsAt σ vs os → vs.length = os.length := by
      intro vs os h
      induction h with
      | nil => rfl
      | cons _ _ ih => rw [List.length_cons, List.length_cons, ih]
    rw [this a1]; exact hn
  have key : ∀ {vs : List V} {ds : List D}, VRos K mg (hotL oh (τ ++ σ.zip env1)) H1 vs ds → vs.length = ds.length ∧ roots (zipA vs (ds.map fun d => fz (unb d))) = [] ∧ ∀ p ∈ zipA vs (ds.map fun d => fz (unb d)), ∃ v d, p = (some v, some (fz d)) ∧ Rep K mg (fun _ => False) H1 v d := by
    intro vs ds h
    induction h with
    | nil => exact ⟨rfl, rfl, fun p hp => nomatch hp⟩
    | cons r _ ih =>
      obtain ⟨i1, i2, i3⟩ := ih
      refine ⟨by rw [List.length_cons, List.length_cons, i1], ?_, fun p hp => ?_⟩
      · rw [List.map_cons, zipA_cons, roots_fro]; exact i2
      · rcases List.mem_cons.mp hp with rfl | hp
        · exact ⟨_, _, rfl, r.bare⟩
        · exact i3 p hp
  obtain ⟨k1, k2, k3⟩ := key rs
  have hot0 : hotL (fun _ => False) (zipA vs (ds.map fun d => fz (unb d))) = fun _ => False := by
    funext a
    apply propext
    unfold hotL
    rw [k2]
    exact ⟨fun h => h.elim (fun z => z) fun z => absurd z (List.not_mem_nil), fun h => False.elim h⟩
  have SA : StR K mg (fun _ => False) H1 (zipA vs (ds.map fun d => fz (unb d))) := by
    refine ⟨fun p hp x hx => ?_, by rw [k2]; exact List.nodup_nil, (fun a ha => by rw [k2] at ha; cases ha), fun a h => False.elim h, S1.tr.tb⟩
    obtain ⟨v, d, rfl, r⟩ := k3 p hp
    cases hx
    rw [hot0]
    exact ⟨v, rfl, .fro r⟩
  refine ⟨fun _ => False, ds.map fun d => fz (unb d), _, hl, by rw [List.length_map, ← k1]; exact hl, SA, p, fun v val xs H2 hx S3 s3 ⟨hf, q⟩ => ?_⟩
  have g : ∀ a o, H1 a = some o → NT o → H2 a = some o := fun a o e nt => s3.keep a o e (by rw [k2]; exact List.not_mem_nil) nt
  have S1r : StR K mg oh H1 (τ ++ σ.zip env1) := S1.right
  have S4 : StR K mg oh H2 (τ ++ σ.zip env1) := S1r.grow g s3.dom S3.tr.tb
  have rv : Rep K mg (hotL oh (τ ++ σ.zip env1)) H2 v val.d := flat_any S3.head hf
  have s4 : Step (τ ++ σ.zip env1) H1 (τ ++ σ.zip env1) H2 := ⟨fun a o e _ nt => g a o e nt, fun a ha => .inl ha, s3.dom⟩
  exact k v (fz val.d) env1 H2 e1 (S4.push (StR.one_fro S4.hots rv) Step.one_fro) (((s1.lessR fun a ha => roots_app_sub a ha).trans s4).trans Step.one_fro.push) q
end
end TL
namespace TL
open PySem PySem.Spec PyProof.Rows L2
section
variable {K : PySem.W.Frag} {mg : Str → Option Value} {hot : Pr} {H : Hp}
end
end TL
namespace TL
open PySem PySem.Spec PyProof.Rows L2
def lcO (vs : List Nat) (g : WG) (tt : WT) (it1 : WI) (vs1 : List Nat) (g1 : WG) (tt1 : WT) (te : WE) : List D → List D → EnvD → (List D → EnvD → Prop) → Prop
  | [], acc, env, C => C acc env
  | d :: ds, acc, env, C => g (fz d) env fun e1 => tt e1 fun b e2 => if b then it1 e2 fun ds1 e3 => lcD vs1 g1 tt1 te ds1 acc (wipeD e3 vs1) fun acc' e4 => lcO vs g tt it1 vs1 g1 tt1 te ds acc' (wipeD e4 vs) C
      else lcO vs g tt it1 vs1 g1 tt1 te ds acc (wipeD e2 vs) C
def wLc2 (it : WI) (vs : List Nat) (g : WG) (tt : WT) (it1 : WI) (vs1 : List Nat) (g1 : WG) (tt1 : WT) (te : WE) : WE := fun env P => it env fun ds env1 => lcO vs g tt it1 vs1 g1 tt1 te ds [] (wipeD env1 vs) fun acc env2 => P ⟨true, .lst acc⟩ (backD env1 env2 vs)
theorem wipe_wipe {σ : L2.St} {vs vs1 : List Nat} (h : ∀ i ∈ vs1, i ∈ vs) : wipe (wipe σ vs1) vs = wipe σ vs := by
  refine List.ext_getElem? fun i => ?_
  rw [wipe_get, wipe_get, wipe_get, wipe_length]
  by_cases hm : i ∈ vs
  · rw [if_pos hm, if_pos hm]
  · rw [if_neg hm, if_neg hm, if_neg fun z => hm (h i z)]
section
variable {K : PySem.W.Frag} {mg : Str → Option Value}
theorem lc_turns {vs : List Nat} {g : WG} {tt : WT} {te : WE} {σ : L2.St} {env1 : EnvD} {oh : Pr} {τ : Lay} {L : Addr} {ds acc0 : List D} {H1 : Hp} {J : It} {C : List D → EnvD → Prop} (e1 : σ.length = env1.length)
    (S1 : StR K mg oh H1 ((some (.ref L), some ⟨true, .lst acc0⟩) :: (τ ++ σ.zip env1))) (I : ItemsOk K mg (hotL oh ((some (.ref L), some ⟨true, .lst acc0⟩) :: (τ ++ σ.zip env1))) H1 J ds) (p : lcD vs g tt te ds acc0 (wipeD env1 vs) C) :
    ∃ W : Nat → Nat → Hp → Prop, (∃ m, W 0 m H1) ∧ ∀ i m H', W i m H' →
      (J.stop i H' ∧ ∃ c envB acc, envB.length = env1.length ∧ StR K mg oh H' ((some (.ref L), some ⟨true, .lst acc⟩) :: ((τ ++ c) ++ (wipe σ vs).zip envB)) ∧
        Step ((some (.ref L), some ⟨true, .lst acc0⟩) :: (τ ++ σ.zip env1)) H1 ((some (.ref L), some ⟨true, .lst acc⟩) :: ((τ ++ c) ++ (wipe σ vs).zip envB)) H' ∧ C acc envB) ∨
      (J.go i H' ∧ ∃ Nx : Hp → Prop, (∀ H', Nx H' → ∃ m', m' < m ∧ W (i + 1) m' H') ∧ ∀ x H2, J.yld i H' x H2 → liftG K mg (lentC σ.length vs) g x (wipe σ vs) H2 fun σ2 H3 => wipe σ2 vs = wipe σ vs ∧ liftT K mg tt σ2 H3 fun b H4 =>
        if b = true then liftE K mg te σ2 H4 fun y H5 => ∃ acc, H5 L = some (.lst acc) ∧ acc.length < sizeLine ∧ Nx (upd H5 L (.lst (acc ++ [y]))) else Nx H4) := by
  obtain ⟨c, pc, bc⟩ := wipe_out' e1 vs
  have cp : ∀ acc : List D, (core ((some (V.ref L), some (⟨true, .lst acc⟩ : Val)) :: (τ ++ σ.zip env1))).Perm (core ((some (V.ref L), some (⟨true, .lst acc⟩ : Val)) :: ((τ ++ c) ++ (wipe σ vs).zip (wipeD env1 vs))) ++ []) := by
    intro acc
    rw [core_cons_some, core_cons_some, List.append_nil]
    refine List.Perm.cons _ ?_
    rw [List.append_assoc, core_append, core_append (A := τ)]
    exact pc.append_left _
  refine ⟨fun i m H' => m = ds.length - i ∧ i ≤ ds.length ∧ ∃ envB acc, envB.length = env1.length ∧ StR K mg oh H' ((some (.ref L), some ⟨true, .lst acc⟩) :: ((τ ++ c) ++ (wipe σ vs).zip envB)) ∧
      Step ((some (.ref L), some ⟨true, .lst acc0⟩) :: (τ ++ σ.zip env1)) H1 ((some (.ref L), some ⟨true, .lst acc⟩) :: ((τ ++ c) ++ (wipe σ vs).zip envB)) H' ∧ lcD vs g tt te (ds.drop i) acc envB C,
    ⟨ds.length, by simp, Nat.zero_le _, wipeD env1 vs, acc0, wipeD_len, S1.core (cp _), Step.refl.coreR (cp _), p⟩, ?_⟩
  rintro i m H' ⟨rfl, hi, envB, acc, hb, S', s', q⟩
  have kp : Keeps (hotL oh ((some (.ref L), some ⟨true, .lst acc0⟩) :: (τ ++ σ.zip env1))) (hotL oh ((some (.ref L), some ⟨true, .lst acc⟩) :: ((τ ++ c) ++ (wipe σ vs).zip envB))) H1 H' := by
    have := s'.keeps (oh := oh) (B := [])
    rw [List.append_nil, List.append_nil] at this
    exact this
  by_cases hlt : i < ds.length
  · rw [drop_cons_get hlt] at q
    obtain ⟨go, yl⟩ := I.turn _ H' i ds[i] kp S'.hots (List.getElem?_eq_getElem hlt)
    refine .inr ⟨go, fun H2 => ∃ envB acc, envB.length = env1.length ∧ StR K mg oh H2 ((some (.ref L), some ⟨true, .lst acc⟩) :: ((τ ++ c) ++ (wipe σ vs).zip envB)) ∧
      Step ((some (.ref L), some ⟨true, .lst acc0⟩) :: (τ ++ σ.zip env1)) H1 ((some (.ref L), some ⟨true, .lst acc⟩) :: ((τ ++ c) ++ (wipe σ vs).zip envB)) H2 ∧ lcD vs g tt te (ds.drop (i + 1)) acc envB C,
      fun H2 n => ⟨ds.length - (i + 1), by omega, rfl, hlt, n⟩, fun x H2 y => ?_⟩
    obtain ⟨T, st⟩ := yl x H2 y
    have S3 := S'.push T st
    refine ⟨oh, (some (.ref L), some ⟨true, .lst acc⟩) :: (τ ++ c), envB, fz ds[i], _, by rw [wipe_length, hb]; exact e1, S3, q, fun σ2 env2 H3 a1 a2 a3 S4 s4 q4 => ?_⟩
    have s4' : Step ((some (.ref L), some ⟨true, .lst acc⟩) :: ((τ ++ c) ++ (wipe σ vs).zip envB)) H' ((some (.ref L), some ⟨true, .lst acc⟩) :: ((τ ++ c) ++ σ2.zip env2)) H3 := st.push.trans s4
    have hw : wipe σ2 vs = wipe σ vs := wipe_eq a2 a3
    have l2 : env2.length = env1.length := by rw [← a1, a2, wipe_length]; exact e1
    have fin : ∀ {acc' : List D} {env3 : EnvD} {H5 : Hp}, σ2.length = env3.length → StR K mg oh H5 ((some (.ref L), some ⟨true, .lst acc'⟩) :: ((τ ++ c) ++ σ2.zip env3)) →
        Step ((some (.ref L), some ⟨true, .lst acc⟩) :: ((τ ++ c) ++ (wipe σ vs).zip envB)) H' ((some (.ref L), some ⟨true, .lst acc'⟩) :: ((τ ++ c) ++ σ2.zip env3)) H5 →
        lcD vs g tt te (ds.drop (i + 1)) acc' (wipeD env3 vs) C →
        ∃ envB acc, envB.length = env1.length ∧ StR K mg oh H5 ((some (.ref L), some ⟨true, .lst acc⟩) :: ((τ ++ c) ++ (wipe σ vs).zip envB)) ∧
          Step ((some (.ref L), some ⟨true, .lst acc0⟩) :: (τ ++ σ.zip env1)) H1 ((some (.ref L), some ⟨true, .lst acc⟩) :: ((τ ++ c) ++ (wipe σ vs).zip envB)) H5 ∧ lcD vs g tt te (ds.drop (i + 1)) acc envB C := by
      intro acc' env3 H5 b1 S5 s5 q5
      obtain ⟨c2, p2, _⟩ := wipe_out' b1 vs
      rw [hw] at p2
      have cp2 : (core ((some (V.ref L), some (⟨true, .lst acc'⟩ : Val)) :: ((τ ++ c) ++ σ2.zip env3))).Perm (core ((some (V.ref L), some (⟨true, .lst acc'⟩ : Val)) :: ((τ ++ c) ++ (wipe σ vs).zip (wipeD env3 vs))) ++ core c2) := by
        rw [core_cons_some, core_cons_some, List.cons_append]
        refine List.Perm.cons _ ?_
        rw [core_append, core_append (B := (wipe σ vs).zip (wipeD env3 vs)), List.append_assoc]
        refine (p2.append_left _).trans ?_
        rw [core_append (A := c2)]
        exact List.Perm.append_left _ List.perm_append_comm
      exact ⟨wipeD env3 vs, acc', by rw [wipeD_len, ← b1, a1, l2], S5.core cp2, (s'.trans s5).coreR cp2, q5⟩
    refine ⟨hw, oh, (some (.ref L), some ⟨true, .lst acc⟩) :: (τ ++ c), env2, _, a1, S4, q4, fun b env3 H4 b1 S5 s5 q5 => ?_⟩
    have s45 := s4'.trans s5
    cases b with
    | false => exact iteF (fin b1 S5 s45 (by simpa using q5))
    | true =>
      have q5 : te env3 fun val e3 => acc.length < 16777216 ∧ lcD vs g tt te (ds.drop (i + 1)) (acc ++ [val.d]) (wipeD e3 vs) C := by simpa using q5
      refine iteT ⟨oh, (some (.ref L), some ⟨true, .lst acc⟩) :: (τ ++ c), env3, _, b1, S5, q5, fun v val env4 H5 c1 S6 s6 ⟨hz, q6⟩ => ?_⟩
      have S6f : StR K mg oh H5 ((some v, some (fz val.d)) :: (some (.ref L), some ⟨true, .lst acc⟩) :: ((τ ++ c) ++ σ2.zip env4)) := S6.freeze
      have S7 : StR K mg oh H5 ((some (.ref L), some ⟨true, .lst acc⟩) :: ((τ ++ c) ++ σ2.zip env4)) := S6f.tail
      obtain ⟨w, ws, ew, _, hw2, rs⟩ := own_lst S7.head
      cases ew
      refine ⟨ws, hw2, by rw [slen, rs.length]; exact hz, ?_⟩
      have rv : Rep K mg (hotL oh ((some (.ref L), some ⟨true, .lst acc⟩) :: ((τ ++ c) ++ σ2.zip env4))) H5 v val.d := S6f.head_fro
      obtain ⟨S8, s8⟩ := S7.put_lst (rs.append (.cons rv .nil))
      have s67 : Step ((some (.ref L), some ⟨true, .lst acc⟩) :: ((τ ++ c) ++ (wipe σ vs).zip envB)) H' ((some (.ref L), some ⟨true, .lst acc⟩) :: ((τ ++ c) ++ σ2.zip env4)) H5 :=
        s45.trans (s6.lessR fun a ha => roots_cons_sub a ha)
      exact fin c1 S8 (s67.trans s8) q6
  · have e : i = ds.length := by omega
    subst e
    rw [List.drop_length] at q
    exact .inl ⟨I.stop _ H' _ kp (Nat.le_refl _), c, envB, acc, hb, S', s', q⟩
theorem lc2_lift {it it1 : WI} {vs vs1 : List Nat} {g g1 : WG} {tt tt1 : WT} {te : WE} {σ : L2.St} {H : Hp} {Q : VK} (hv : ∀ i ∈ vs1, i ∈ vs) (h : liftE K mg (wLc2 it vs g tt it1 vs1 g1 tt1 te) σ H Q) :
    tLc2 (liftI K mg it) (liftG K mg (lentC σ.length vs) g) (liftT K mg tt) (liftI K mg it1) (liftG K mg (lentC σ.length vs1) g1) (liftT K mg tt1) (liftE K mg te) vs vs1 σ H Q := by
  obtain ⟨oh, τ, env, P, e0, S, t1, k⟩ := h
  refine ⟨oh, τ, env, _, e0, S, t1, fun ds env1 H1 J e1 S1 s1 I p => ?_⟩
  intro L hL
  obtain ⟨c, pc, bc⟩ := wipe_out' e1 vs
  have cp : (core (τ ++ σ.zip env1)).Perm (core ((τ ++ c) ++ (wipe σ vs).zip (wipeD env1 vs)) ++ []) := by
    rw [List.append_nil, List.append_assoc, core_append, core_append (A := τ)]
    exact pc.append_left _
  have S1' : StR K mg oh H1 ((τ ++ c) ++ (wipe σ vs).zip (wipeD env1 vs)) := S1.core cp
  have hh1 : Hh K (hotL oh ((τ ++ c) ++ (wipe σ vs).zip (wipeD env1 vs))) H1 := S1'.hots
  have S2 : StR K mg oh (upd H1 L (.lst [])) ((some (.ref L), some ⟨true, .lst []⟩) :: ((τ ++ c) ++ (wipe σ vs).zip (wipeD env1 vs))) :=
    S1'.push (StR.new_lst (vs := []) (ds := []) hh1 hL .nil) (Step.new_lst hL)
  have s2 : Step ((τ ++ c) ++ (wipe σ vs).zip (wipeD env1 vs)) H1 ((some (.ref L), some ⟨true, .lst []⟩) :: ((τ ++ c) ++ (wipe σ vs).zip (wipeD env1 vs))) (upd H1 L (.lst [])) := (Step.new_lst hL).push
  let C : List D → EnvD → Prop := fun acc env2 => P ⟨true, .lst acc⟩ (backD env1 env2 vs)
  refine ⟨fun i m H' => m = ds.length - i ∧ i ≤ ds.length ∧ ∃ c envB acc, (∀ envB : EnvD, envB.length = env1.length → ∃ E, (core (c ++ (wipe σ vs).zip envB)).Perm (core (σ.zip (backD env1 envB vs)) ++ E)) ∧ envB.length = env1.length ∧ StR K mg oh H' ((some (.ref L), some ⟨true, .lst acc⟩) :: ((τ ++ c) ++ (wipe σ vs).zip envB)) ∧
      Step (τ ++ σ.zip env1) H1 ((some (.ref L), some ⟨true, .lst acc⟩) :: ((τ ++ c) ++ (wipe σ vs).zip envB)) H' ∧ lcO vs g tt it1 vs1 g1 tt1 te (ds.drop i) acc envB C,
    ⟨ds.length, by simp, Nat.zero_le _, c, wipeD env1 vs, [], bc, wipeD_len, S2, ?_, p⟩, ?_⟩
  · exact s2.coreL (L' := τ ++ σ.zip env1) (by have := cp.symm; rw [List.append_nil] at this; exact this)
  clear S1' hh1 S2 s2 cp pc bc c
  rintro i m H' ⟨rfl, hi, c, envB, acc, bc, hb, S', s', q⟩
  have kp : Keeps (hotL oh (τ ++ σ.zip env1)) (hotL oh ((some (.ref L), some ⟨true, .lst acc⟩) :: ((τ ++ c) ++ (wipe σ vs).zip envB))) H1 H' := by
    have := s'.keeps (oh := oh) (B := [])
    rw [List.append_nil, List.append_nil] at this
    exact this
  by_cases hlt : i < ds.length
  · rw [drop_cons_get hlt] at q
    obtain ⟨go, yl⟩ := I.turn _ H' i ds[i] kp S'.hots (List.getElem?_eq_getElem hlt)
    refine .inr ⟨go, fun H2 => ∃ c envB acc, (∀ envB : EnvD, envB.length = env1.length → ∃ E, (core (c ++ (wipe σ vs).zip envB)).Perm (core (σ.zip (backD env1 envB vs)) ++ E)) ∧ envB.length = env1.length ∧ StR K mg oh H2 ((some (.ref L), some ⟨true, .lst acc⟩) :: ((τ ++ c) ++ (wipe σ vs).zip envB)) ∧
      Step (τ ++ σ.zip env1) H1 ((some (.ref L), some ⟨true, .lst acc⟩) :: ((τ ++ c) ++ (wipe σ vs).zip envB)) H2 ∧ lcO vs g tt it1 vs1 g1 tt1 te (ds.drop (i + 1)) acc envB C,
      fun H2 n => ⟨ds.length - (i + 1), by omega, rfl, hlt, n⟩, fun x H2 y => ?_⟩
    obtain ⟨T, st⟩ := yl x H2 y
    have S3 := S'.push T st
    refine ⟨oh, (some (.ref L), some ⟨true, .lst acc⟩) :: (τ ++ c), envB, fz ds[i], _, by rw [wipe_length, hb]; exact e1, S3, q, fun σ2 env2 H3 a1 a2 a3 S4 s4 q4 => ?_⟩
    have s4' : Step ((some (.ref L), some ⟨true, .lst acc⟩) :: ((τ ++ c) ++ (wipe σ vs).zip envB)) H' ((some (.ref L), some ⟨true, .lst acc⟩) :: ((τ ++ c) ++ σ2.zip env2)) H3 := st.push.trans s4
    have hw : wipe σ2 vs = wipe σ vs := wipe_eq a2 a3
    have l2 : env2.length = env1.length := by rw [← a1, a2, wipe_length]; exact e1
    have ls : σ2.length = σ.length := by rw [a2, wipe_length]
    have fin : ∀ {c' : Lay} {σ3 : L2.St} {acc' : List D} {env3 : EnvD} {H5 : Hp}, σ3.length = env3.length → σ3.length = σ2.length → wipe σ3 vs = wipe σ vs → StR K mg oh H5 ((some (.ref L), some ⟨true, .lst acc'⟩) :: ((τ ++ c ++ c') ++ σ3.zip env3)) →
        Step ((some (.ref L), some ⟨true, .lst acc⟩) :: ((τ ++ c) ++ (wipe σ vs).zip envB)) H' ((some (.ref L), some ⟨true, .lst acc'⟩) :: ((τ ++ c ++ c') ++ σ3.zip env3)) H5 →
        lcO vs g tt it1 vs1 g1 tt1 te (ds.drop (i + 1)) acc' (wipeD env3 vs) C →
        ∃ c envB acc, (∀ envB : EnvD, envB.length = env1.length → ∃ E, (core (c ++ (wipe σ vs).zip envB)).Perm (core (σ.zip (backD env1 envB vs)) ++ E)) ∧ envB.length = env1.length ∧ StR K mg oh H5 ((some (.ref L), some ⟨true, .lst acc⟩) :: ((τ ++ c) ++ (wipe σ vs).zip envB)) ∧
          Step (τ ++ σ.zip env1) H1 ((some (.ref L), some ⟨true, .lst acc⟩) :: ((τ ++ c) ++ (wipe σ vs).zip envB)) H5 ∧ lcO vs g tt it1 vs1 g1 tt1 te (ds.drop (i + 1)) acc envB C := by
      intro c' σ3 acc' env3 H5 b1 b2 hw3 S5 s5 q5
      obtain ⟨c2, p2, _⟩ := wipe_out' b1 vs
      rw [hw3] at p2
      have cp2 : (core ((some (V.ref L), some (⟨true, .lst acc'⟩ : Val)) :: ((τ ++ c ++ c') ++ σ3.zip env3))).Perm (core ((some (V.ref L), some (⟨true, .lst acc'⟩ : Val)) :: ((τ ++ c) ++ (wipe σ vs).zip (wipeD env3 vs))) ++ core (c' ++ c2)) := by
        rw [core_cons_some, core_cons_some, List.cons_append]
        refine List.Perm.cons _ ?_
        rw [core_append, core_append (A := τ ++ c), core_append (A := τ ++ c) (B := (wipe σ vs).zip (wipeD env3 vs)), core_append (A := c'), List.append_assoc, List.append_assoc]
        refine List.Perm.append_left _ ?_
        rw [core_append (A := c2)] at p2
        refine (p2.append_left _).trans ?_
        rw [← List.append_assoc]
        exact List.perm_append_comm
      exact ⟨c, wipeD env3 vs, acc', bc, by rw [wipeD_len, ← b1, b2, a1, l2], S5.core cp2, (s'.trans s5).coreR cp2, q5⟩
    refine ⟨hw, oh, (some (.ref L), some ⟨true, .lst acc⟩) :: (τ ++ c), env2, _, a1, S4, q4, fun b env3 H4 b1 S5 s5 q5 => ?_⟩
    have s45 := s4'.trans s5
    cases b with
    | false =>
      refine iteF (fin (c' := []) b1 rfl hw ?_ ?_ (by simpa using q5))
      · rw [List.append_nil]; exact S5
      · rw [List.append_nil]; exact s45
    | true =>
      have q5 : it1 env3 fun ds1 e3 => lcD vs1 g1 tt1 te ds1 acc (wipeD e3 vs1) fun acc' e4 => lcO vs g tt it1 vs1 g1 tt1 te (ds.drop (i + 1)) acc' (wipeD e4 vs) C := by simpa using q5
      refine iteT ⟨oh, (some (.ref L), some ⟨true, .lst acc⟩) :: (τ ++ c), env3, _, b1, S5, q5, fun ds1 env4 H5 J1 d1 S6 s6 I1 p1 => ?_⟩
      have S6' : StR K mg oh H5 ((some (.ref L), some ⟨true, .lst acc⟩) :: ((τ ++ c) ++ σ2.zip env4)) := S6
      have s6' : Step ((some (.ref L), some ⟨true, .lst acc⟩) :: ((τ ++ c) ++ (wipe σ vs).zip envB)) H' ((some (.ref L), some ⟨true, .lst acc⟩) :: ((τ ++ c) ++ σ2.zip env4)) H5 := s45.trans s6
      obtain ⟨W1, w0, turn⟩ := lc_turns (vs := vs1) d1 S6' I1 p1
      refine ⟨W1, w0, fun j k H7 w1 => ?_⟩
      rcases turn j k H7 w1 with ⟨st1, c', envC, acc', hl, S7, s7, q7⟩ | ⟨go1, Nx1, n1, t⟩
      · refine .inl ⟨st1, fin (c' := c') (σ3 := wipe σ2 vs1) (by rw [wipe_length, hl]; exact d1) (wipe_length _ _) (by rw [wipe_wipe hv, hw]) S7 (s6'.trans s7) q7⟩
      · rw [← ls]
        exact .inr ⟨go1, Nx1, n1, t⟩
  · have e : i = ds.length := by omega
    subst e
    rw [List.drop_length] at q
    refine .inl ⟨I.stop _ H' _ kp (Nat.le_refl _), ?_⟩
    obtain ⟨E, pb⟩ := bc envB hb
    have cpb : (core ((some (V.ref L), some (⟨true, .lst acc⟩ : Val)) :: ((τ ++ c) ++ (wipe σ vs).zip envB))).Perm (core ((some (V.ref L), some (⟨true, .lst acc⟩ : Val)) :: (τ ++ σ.zip (backD env1 envB vs))) ++ E) := by
      rw [core_cons_some, core_cons_some, List.cons_append]
      refine List.Perm.cons _ ?_
      rw [List.append_assoc, core_append, core_append (A := τ), List.append_assoc]
      exact pb.append_left _
    exact k _ _ (backD env1 envB vs) H' (by rw [backD_len, hb]; exact e1) (S'.core cpb) ((s1.trans s').coreR cpb) q
end
end TL
namespace TL
open PySem PySem.Spec PyProof.Rows L2
section
variable {K : PySem.W.Frag} {mg : Str → Option Value} {hot hot' oh : Pr} {H H' : Hp} {L : Lay}
theorem RepBs.snoc {v : V} {d : D} (h : RepB K mg hot H v d) : ∀ {vs : List V} {ds : List D}, RepBs K mg hot H vs ds → RepBs K mg hot H (vs ++ [v]) (ds ++ [d])
  | _, _, .nil => .cons h .nil
  | _, _, .cons r t => .cons r (RepBs.snoc h t)
theorem mutG_fin {r : V → List V → Hp → VK → Prop} {s : SMu} (hl : MutL K mg r s) {τ L0 : Lay} {env1 : EnvD} {σ : L2.St} {i j : Nat} {c : D} {ds xs as : List D} {b : Addr} {vs : List V} {os : List Opd} {H0 H1 : Hp} {P : Val → EnvD → Prop} {Q : VK} (e1 : σ.length = env1.length) (a1 : OpdsAt σ vs os)
    (S1 : StR K mg oh H1 (cells vs os ++ (τ ++ σ.zip env1))) (s1 : Step L0 H0 (cells vs os ++ (τ ++ σ.zip env1)) H1) (hx : env1[i]? = some (some ⟨true, .box c⟩)) (hc : BoxOf c ds) (hj : ds[j]? = some (.own b xs)) (ht : tms os = some as)
    (q : s (.lst xs) as fun d' val => ∃ ys, d' = .lst ys ∧ P val (env1.set i (some ⟨true, .box (bwith c (ds.set j (.own b ys)))⟩)))
    (k : ∀ v val env' H', σ.length = env'.length → StR K mg oh H' ((some v, some val) :: (τ ++ σ.zip env')) → Step L0 H0 ((some v, some val) :: (τ ++ σ.zip env')) H' → P val env' → Q v H') : r (.ref b) vs H1 Q := by
  have rs := tms_reps S1 a1 ht fun c hc => List.mem_append_left _ hc
  rw [hot_cells] at rs
  obtain ⟨a, ha, rb, hb, ⟨vs0, hv0, r0⟩, put⟩ := slot_box (τ := τ) e1 S1.right hx hc hj
  have s1' : Step L0 H0 (τ ++ σ.zip env1) H1 := s1.lessR fun a ha => by rw [roots_cells]; exact ha
  refine hl.2 _ H1 b vs (.lst xs) as _ Q S1.right.hots (.lst hb hv0 r0) rs q fun d' o' v dv hb2 ⟨ys, hd, p⟩ mk rv => ?_
  subst hd
  have kp0 : Keeps (hotL oh (τ ++ σ.zip env1)) (hotL oh (τ ++ σ.zip env1)) H1 (upd H1 b o') := ⟨fun x o e n _ => by rw [upd_ne fun z => n (by rw [z]; exact hb)]; exact e, fun _ _ _ n => n⟩
  have m := mk _ _ kp0 hb upd_same
  obtain ⟨b', ws, eb, _, h2, rws⟩ := own_lst m
  cases eb
  rw [upd_same] at h2
  cases h2
  obtain ⟨S2, s2⟩ := put ws ys rws
  have kp := s2.keeps (oh := oh) (B := [])
  rw [List.append_nil, List.append_nil] at kp
  exact k v (fz dv) _ _ (by rw [List.length_set]; exact e1) (S2.push (StR.one_fro S2.hots (rv _ _ kp)) Step.one_fro) ((s1'.trans s2).trans Step.one_fro.push) p
end
end TL
namespace TL
open PySem PySem.Spec PyProof.Rows L2
def TabK (K : PySem.W.Frag) (w : World) (a : Addr) (tab : List (Str × D)) : Prop := ∃ es n, KDict K w a es n ∧ ∀ s, lookS s tab = none → PySem.W.nsIn K a s = some none
section
variable {K : PySem.W.Frag} {mg : Str → Option Value} {w : World} {H : Hp} {Q : VK}
end
end TL
namespace TL
open PySem PySem.Spec PyProof.Rows L2
section
variable {K : PySem.W.Frag} {mg : Str → Option Value}
end
end TL
namespace TL
open PySem PySem.Spec PyProof.Rows L2
section
variable {K : PySem.W.Frag} {mg : Str → Option Value} {hot oh : Pr} {H : Hp} {L : Lay}
end
end TL
namespace TL
open PySem PySem.Spec PyProof.Rows L2
section
variable {prog : Program} {w : World} {A : Around} {E : Value → Shared → Prop} {s : Shared} {it : Addr} {fp : List Addr} {n i : Nat} {P : Nat → Value → Prop} {St : Nat → Heap → Prop}
end
section
variable {prog : Program} {w : World} {A : Around} {E : Value → Shared → Prop} {s : Shared} {z TI TO i1 i2 : Addr} {fp1 fp2 : List Addr} {n1 n2 i : Nat} {P1 P2 : Nat → Value → Prop} {St1 St2 : Nat → Heap → Prop} {a1 a2 : Value}
end
section
variable {prog : Program} {w : World} {A : Around} {E : Value → Shared → Prop} {s : Shared}
end
def SqX (K : PySem.W.Frag) (H : Hp) : Bool → Addr → List V → Prop
  | true, a, xs => SqL K H a xs
  | false, a, xs => SqT K H a xs
def SeqAt (h : Heap) : Bool → Addr → Array Value → Prop
  | true, a, its => h.IsList a its
  | false, a, its => h.IsTuple a its
section
variable {K : PySem.W.Frag} {mg : Str → Option Value} {hot : Pr} {H : Hp}
def SqF (K : PySem.W.Frag) (hot : Pr) (H : Hp) : Bool → Addr → List V → Prop
  | true, a, vs => LsF K hot H a vs
  | false, a, vs => TpF K hot H a vs
theorem SqF.sq : ∀ {k : Bool} {a : Addr} {vs : List V}, SqF K hot H k a vs → SqX K H k a vs
  | true, _, _, h => LsF.sq h
  | false, _, _, h => TpF.sq h
theorem SqF.mono {hot' : Pr} {H' : Hp} (kp : Keeps hot hot' H H') : ∀ {k : Bool} {a : Addr} {vs : List V}, SqF K hot H k a vs → SqF K hot' H' k a vs
  | true, _, _, h => kp.ls h
  | false, _, _, h => kp.tp h
end
end TL
namespace TL
open PySem PySem.Spec PyProof.Rows L2
end TL
namespace TL
open PySem PySem.Spec PyProof.Rows L2
section
variable {K : PySem.W.Frag} {mg : Str → Option Value} {X : Cx}
def noBl : V → Bool
  | .non => true | .int _ => true | .str _ => true | .ref _ => true | _ => false
def rIsO (neg : Bool) : R2 := fun x y H Q => ∃ b, y = .bl b ∧ noBl x = true ∧ Q (.bl neg) H
theorem noBl_ne {x : V} {v : Value} (h : noBl x = true) (r : RelV x v) (b : Bool) : v ≠ .bool b ∧ plainIs v (.bool b) = true := by
  cases x <;> first | cases h | skip
  · obtain rfl : v = Value.none := r
    exact ⟨fun z => (nomatch z), rfl⟩
  · obtain ⟨t, rfl⟩ := r
    exact ⟨fun z => (nomatch z), rfl⟩
  · obtain ⟨t, rfl⟩ := r
    exact ⟨fun z => (nomatch z), rfl⟩
  · cases r
    exact ⟨fun z => (nomatch z), rfl⟩
theorem or_isO : OpR X (compareOp .Is) (rIsO false) := by
  intro pins s σ H x y v u Q I rx ry h
  obtain ⟨b, rfl, hx, q⟩ := h
  cases (show u = Value.bool b from ry)
  obtain ⟨n, p⟩ := noBl_ne hx rx b
  exact wpAny_is_other p n ⟨.bl false, H, I, rfl, q⟩
theorem or_isnO : OpR X (compareOp .IsNot) (rIsO true) := by
  intro pins s σ H x y v u Q I rx ry h
  obtain ⟨b, rfl, hx, q⟩ := h
  cases (show u = Value.bool b from ry)
  obtain ⟨n, p⟩ := noBl_ne hx rx b
  exact wpAny_isNot_other p n ⟨.bl true, H, I, rfl, q⟩
def oddB : D → Bool
  | .non => true | .int _ => true | .str _ => true | .lst _ => true | .tup _ => true | _ => false
def sIsO (neg : Bool) : S2
  | x, .bl _, P => oddB x = true ∧ P (fz (.bl neg))
  | _, _, _ => False
theorem bl_isO (neg : Bool) : BinL K mg (rIsO neg) (sIsO neg) := by
  intro hot H x y dx dy P Q hh rx ry q k
  cases dy <;> simp only [sIsO] at q <;> try exact q.elim
  refine ⟨_, ry.bl, ?_, post_fz hh k (.bl _) q.2⟩
  cases dx <;> first | (exact (Bool.false_ne_true q.1).elim) | skip
  · obtain rfl := rx.non; rfl
  · obtain rfl := rx.int; rfl
  · obtain ⟨rfl, _⟩ := rx.str; rfl
  · obtain ⟨a, vs, rfl, _⟩ := rx.lst; rfl
  · obtain ⟨a, vs, rfl, _⟩ := rx.tup; rfl
def rLeAll : R2 := fun x y H Q => rI0 (fun i j => .bl (decide (i ≤ j))) x y H Q ∨ ∃ i j, x = .str i ∧ y = .str j ∧ Q (.bl (!decide (j.cps.toList < i.cps.toList))) H
theorem or_leA : OpR X (compareOp .LtE) rLeAll := OpR.or op_le op_le_str
def sLeS : S2
  | .int i, .int j, P => P (fz (.bl (decide (i ≤ j))))
  | .str s, .str t, P => P (fz (.bl (!decide (t.cps.toList < s.cps.toList))))
  | _, _, _ => False
theorem bl_leA : BinL K mg rLeAll sLeS := by
  intro hot H x y dx dy P Q hh rx ry q k
  cases dx <;> cases dy <;> simp only [sLeS] at q <;> try exact q.elim
  · exact .inl ⟨_, _, rx.int, ry.int, post_fz hh k (.bl _) q⟩
  · exact .inr ⟨_, _, rx.str.1, ry.str.1, post_fz hh k (.bl _) q⟩
mutual
theorem plain_toPy : ∀ (d : D) (p : PyData), toPy d = some p → p.plain = true
  | .non, _, h => by cases h; rfl
  | .bl _, _, h => by cases h; rfl
  | .int _, _, h => by cases h; rfl
  | .str _, _, h => by cases h; rfl
  | .lst xs, p, h => by
    cases e : toPys xs with
    | none => simp [toPy, e] at h
    | some ps =>
      simp [toPy, e] at h
      subst h
      exact plains_toPy xs ps e
  | .tup xs, p, h => by
    cases e : toPys xs with
    | none => simp [toPy, e] at h
    | some ps =>
      simp [toPy, e] at h
      subst h
      exact plains_toPy xs ps e
  | .dic _ _, _, h => nomatch h
  | .fn _, _, h => nomatch h
  | .lse _, _, h => nomatch h
  | .own _ _, _, h => nomatch h
  | .ldc _ _, _, h => nomatch h
  | .box _, _, h => nomatch h
  | .al _, _, h => nomatch h
  | .ins _ _ _, _, h => nomatch h
  | .dkt _ _, _, h => nomatch h
theorem plains_toPy : ∀ (ds : List D) (ps : List PyData), toPys ds = some ps → PyData.plainAll ps = true
  | [], _, h => by cases h; rfl
  | d :: ds, ps, h => by
    cases e1 : toPy d with
    | none => simp [toPys, e1] at h
    | some p =>
      cases e2 : toPys ds with
      | none => simp [toPys, e1, e2] at h
      | some qs =>
        simp [toPys, e1, e2] at h
        subst h
        simp only [PyData.plainAll, plain_toPy d p e1, plains_toPy ds qs e2, Bool.and_self]
end
theorem any_toPys {x : D} {p : PyData} (hx : toPy x = some p) : ∀ {ds : List D} {ps : List PyData}, toPys ds = some ps → (ps.any fun y => PyData.eqv y p) = inD x ds
  | [], _, h => by cases h; rfl
  | d :: ds, ps, h => by
    cases e1 : toPy d with
    | none => simp [toPys, e1] at h
    | some q =>
      cases e2 : toPys ds with
      | none => simp [toPys, e1, e2] at h
      | some qs =>
        simp [toPys, e1, e2] at h
        subst h
        have := any_toPys hx e2
        unfold inD at this ⊢
        rw [List.any_cons, List.any_cons, this, eqv_toPy d x q p e1 hx]
def rInP (K : PySem.W.Frag) (neg : Bool) : R2 := fun x y H Q => ∃ d ps tp, Dp K H x d ∧ Dp K H y (if tp = true then .tuple ps else .list ps) ∧ d.plain = true ∧ PyData.plainAll ps = true ∧ min (PyData.depthAll ps) d.depth ≤ 60 ∧ Q (.bl (if neg then !(ps.any fun y => PyData.eqv y d) else ps.any fun y => PyData.eqv y d)) H
theorem or_inP (hu : X.A.units + 64 < cLine) : OpR X (compareOp .In) (rInP X.K false) := by
  intro pins s σ H x y v u Q I rx ry h
  obtain ⟨d, ps, tp, hd, he, sd, se, hm, q⟩ := h
  obtain ⟨as, r1⟩ := Dp.reads I d x v hd rx
  obtain ⟨bs, r2⟩ := Dp.reads I _ y u he ry
  cases tp with
  | true => exact SeqAt.in_tuple_data r2 r1 se sd (by omega) ⟨.bl _, H, I, rfl, q⟩
  | false => exact SeqAt.in_list_data r2 r1 se sd (by omega) ⟨.bl _, H, I, rfl, q⟩
theorem or_ninP (hu : X.A.units + 64 < cLine) : OpR X (compareOp .NotIn) (rInP X.K true) := by
  intro pins s σ H x y v u Q I rx ry h
  obtain ⟨d, ps, tp, hd, he, sd, se, hm, q⟩ := h
  obtain ⟨as, r1⟩ := Dp.reads I d x v hd rx
  obtain ⟨bs, r2⟩ := Dp.reads I _ y u he ry
  cases tp with
  | true => exact SeqAt.notIn_tuple_data r2 r1 se sd (by omega) ⟨.bl _, H, I, rfl, q⟩
  | false => exact SeqAt.notIn_list_data r2 r1 se sd (by omega) ⟨.bl _, H, I, rfl, q⟩
def sInP (neg : Bool) : S2
  | x, .lst xs, P => pure' x = true ∧ pures xs = true ∧ depthDs xs ≤ 60 ∧ P (fz (.bl (if neg then !inD x xs else inD x xs)))
  | x, .tup xs, P => pure' x = true ∧ pures xs = true ∧ depthDs xs ≤ 60 ∧ P (fz (.bl (if neg then !inD x xs else inD x xs)))
  | _, _, _ => False
theorem bl_inP (neg : Bool) : BinL K mg (rInP K neg) (sInP neg) := by
  intro hot H x y dx dy P Q hh rx ry q k
  have key : ∀ (xs : List D) (tp : Bool), dy = (if tp = true then .tup xs else .lst xs) → pure' dx = true → pures xs = true → depthDs xs ≤ 60 → P (fz (.bl (if neg then !inD dx xs else inD dx xs))) → rInP K neg x y H Q := by
    intro xs tp hdy p1 p2 p3 p
    obtain ⟨d, e1⟩ := toPy_pure dx p1
    have hy : pure' dy = true := by subst hdy; cases tp <;> exact p2
    obtain ⟨e, e2⟩ := toPy_pure dy hy
    obtain ⟨h1, c1⟩ := rx.dp e1
    obtain ⟨h2, c2⟩ := ry.dp e2
    have hps : ∃ ps, toPys xs = some ps ∧ e = (if tp = true then .tuple ps else .list ps) := by
      subst hdy
      cases h : toPys xs with
      | none => cases tp <;> simp [toPy, h] at e2
      | some ps => cases tp <;> simp [toPy, h] at e2 <;> exact ⟨ps, rfl, e2.symm⟩
    obtain ⟨ps, e3, rfl⟩ := hps
    refine ⟨d, ps, tp, h1, h2, plain_toPy _ _ e1, plains_toPy _ _ e3, ?_, ?_⟩
    · have hd : PyData.depth (.list ps) = depthD (.lst xs) := depth_toPy _ _ (by simp [toPy, e3])
      simp only [PyData.depth, depthD] at hd
      omega
    · rw [any_toPys e1 e3]
      exact post_fz hh k (.bl _) p
  cases dy <;> first | (cases dx <;> exact q.elim) | skip
  · rename_i xs
    have q : pure' dx = true ∧ pures xs = true ∧ depthDs xs ≤ 60 ∧ P (fz (.bl (if neg then !inD dx xs else inD dx xs))) := by cases dx <;> exact q
    exact key xs false rfl q.1 q.2.1 q.2.2.1 q.2.2.2
  · rename_i xs
    have q : pure' dx = true ∧ pures xs = true ∧ depthDs xs ≤ 60 ∧ P (fz (.bl (if neg then !inD dx xs else inD dx xs))) := by cases dx <;> exact q
    exact key xs true rfl q.1 q.2.1 q.2.2.1 q.2.2.2
end
end TL
namespace TL
open PySem PySem.Spec PyProof.Rows L2
section
variable {P : Program} {w : World}
end
section
variable {P : Program} {w : World} {A : Around} {E : Value → Shared → Prop} {s : Shared} {a : Addr} {L : List Str}
end
section
variable {P : Program} {w : World} {A : Around} {E : Value → Shared → Prop} {s : Shared}
end
end TL
namespace TL
open PySem PySem.Spec PyProof.Rows L2
end TL
namespace TL
open PySem PySem.Spec PyProof.Rows L2
section
variable {P : Program} {w : World} {A : Around} {E : Value → Shared → Prop} {s : Shared} {a : Addr} {L : List Str}
end
section
variable {X : Cx}
end
section
variable {K : PySem.W.Frag} {mg : Str → Option Value} {hot : Pr} {H : Hp}
end
end TL
namespace TL
open PySem PySem.Spec PyProof.Rows L2
def sStrp : SM
  | .str a, [.str b], P => a.length ≤ 16777216 ∧ P (fz (.str (Txt.stripChars a b)))
  | _, _, _ => False
def rStrp : V → List V → Hp → VK → Prop := fun x xs H Q => ∃ a b, x = .str a ∧ xs = [.str b] ∧ a.length ≤ sizeLine ∧ Q (.str (Txt.stripChars a b)) H
theorem mt_strp {X : Cx} : MtR X "str.strip" rStrp := mt_stripChars
theorem ok_strip (g : Nat → Bool) (l r : Bool) (x : Str) (h : PyData.strOk x = true) : PyData.strOk (Txt.stripBy g l r x) = true := by
  unfold Txt.stripBy
  split
  · exact h
  · unfold PyData.strOk at h ⊢
    rw [← Array.all_toList, List.all_eq_true] at h ⊢
    intro c hc
    refine h c ?_
    have h2 : c ∈ (x.cps.extract (PySem.stripLo g l x) (PySem.stripHi g r x (PySem.stripLo g l x))).toList := hc
    rw [Array.toList_extract] at h2
    rw [List.extract_eq_take_drop] at h2
    exact List.mem_of_mem_drop (List.mem_of_mem_take h2)
section
variable {K : PySem.W.Frag} {mg : Str → Option Value}
theorem ml_strp : MethL K mg rStrp sStrp := by
  intro hot H x xs dx ds P Q hh rx rs q k
  unfold sStrp at q
  split at q
  · obtain ⟨h1, q⟩ := q
    obtain ⟨rfl, ok⟩ := rx.str
    obtain ⟨y, rfl, ry⟩ := rs.one
    obtain ⟨rfl, ok2⟩ := ry.str
    exact ⟨_, _, rfl, rfl, by rw [slen]; exact h1, post_fz hh k (.str _ (ok_strip _ _ _ _ ok)) q⟩
  · exact q.elim
end
end TL
namespace TL
open PySem PySem.Spec PyProof.Rows L2
def rSortedTup (K : PySem.W.Frag) : List V → Hp → VK → Prop := fun vs H Q => ∃ (a : Addr) (bs : List (V × PyData)), vs = [V.ref a] ∧ SqT K H a (bs.map (·.1)) ∧ (∀ b ∈ bs, Dp K H b.1 b.2) ∧ PySem.W.AllAlike (bs.map (·.2)) ∧ PySem.W.Sortable (bs.map (·.2)) ∧ (∀ b ∈ bs, b.2.depth ≤ 20) ∧
  ∀ p, H p = none → Q (.ref p) (upd H p (.lst ((bs.mergeSort (PySem.W.dataLe false (·.2))).map (·.1))))
section
variable {X : Cx}
theorem cr_sortedTup (hu : X.A.units + 64 < cLine) : CallR X (.builtin "sorted") (rSortedTup X.K) := by
  intro pins s σ H vs us Q I r h
  obtain ⟨a, bs, rfl, hs, hd, hal, hso, hdp, q⟩ := h
  obtain ⟨its, rv, ⟨o, ho, hc, n, hdat⟩, hz⟩ := I.tuple hs
  obtain ⟨u, rfl, ru⟩ := vals1 r
  obtain rfl : u = Value.ref a := ru
  have hlb : its.length = bs.length := by
    have := rv.length
    rw [List.length_map] at this
    exact this.symm
  have hlen : its.length ≤ sizeLine := by
    rw [List.length_map] at hz
    omega
  refine Calls.call_function_entry kind_sorted plain_sorted entry_sorted (args_sorted1 _) ?_
  unfold Builtin.«sorted»
  refine wpAny_bind (m := checkCount "sorted" 1 1 _) (wpAny_pure ?_)
  refine wpAny_bind (wpAny_collect_seq a (.inr rfl) ho hc hdat (fun g hk => ?_) (by rw [List.size_toArray]; exact hlen))
  have e0 : its.toArray.toList = its := by simp
  rw [e0]
  have J : L2.Inv X pins σ H { s with heap := g } := I.kept (t' := s.toks) hk
  refine wpAny_bind (wpAny_newList ?_ hlen)
  have atL : (g.push (seqObj "list" its.toArray 0)).get? g.objs.size = some (seqObj "list" its.toArray 0) := Heap.get?_push_size _ rfl
  have up : ∀ b ob, g.get? b = some ob → (g.push (seqObj "list" its.toArray 0)).get? b = some ob := fun b ob e => Heap.get?_push_of_some _ e
  obtain ⟨e1, e2⟩ := each_zip J rv hd
  refine wpAny_bind (wpAny_holding ?_)
  refine PySem.W.list_sort_data (A := X.A.in1) (s := { s with heap := g.push (seqObj "list" its.toArray 0) }) atL e1 (e2.mono fun v b ⟨as, rd⟩ => ⟨as, PyProof.Rows.Reads.keeps up rd, fun hm => absurd (Reads.there rd _ hm) (Nat.lt_irrefl _)⟩) hal hso (by rw [← hlb]; exact hlen) (fun b hb => ?_) fun out ho2 eo => ?_
  · have h4 : X.A.in1.units ≤ X.A.units + 1 := Nat.le_refl _
    have := hdp b hb
    omega
  · obtain ⟨c, hL⟩ := sortedHeap_at (vs := its) (out := out.toArray) atL
    have hv := each_vals eo
    refine wpAny_pure ⟨_, rfl, .ref g.objs.size, upd H g.objs.size (.lst ((bs.mergeSort (PySem.W.dataLe false (·.2))).map (·.1))), J.laid (t' := s.toks) (fun b ob e => ?_) (Nat.le_refl _) ⟨?_, _, c, hv, hL⟩, rfl, q _ (J.hok.fresh (Nat.le_refl _))⟩
    · have lt := Heap.lt_size e
      rw [sortedHeap_old (Nat.ne_of_lt lt) (by rw [size_push']; exact Nat.lt_succ_of_lt lt)]
      exact up b ob e
    · rw [List.length_map, (List.mergeSort_perm _ _).length_eq, ← hlb]
      exact hlen
def rSortedAny (K : PySem.W.Frag) : List V → Hp → VK → Prop := fun vs H Q => rSortedDat K vs H Q ∨ rSortedTup K vs H Q
theorem cr_sortedAny (hu : X.A.units + 64 < cLine) : CallR X (.builtin "sorted") (rSortedAny X.K) := by
  intro pins s σ H vs us Q I r h
  rcases h with h | h
  · exact cr_sortedDat hu pins s σ H vs us Q I r h
  · exact cr_sortedTup hu pins s σ H vs us Q I r h
end
def sSortedA : SN
  | [.lst xs], P => okSort xs = true ∧ P ⟨true, .lst (sortD xs)⟩
  | [.tup xs], P => okSort xs = true ∧ P ⟨true, .lst (sortD xs)⟩
  | _, _ => False
section
variable {K : PySem.W.Frag} {mg : Str → Option Value}
theorem cl_sortedA : CallL K mg (rSortedAny K) sSortedA := by
  intro hot H xs ds P Q hh rx q k
  unfold sSortedA at q
  split at q
  · exact .inl (cl_sorted1 hot H xs _ P Q hh rx q k)
  · obtain ⟨x, rfl, r⟩ := rx.one
    obtain ⟨ok, q⟩ := q
    obtain ⟨a, vs, rfl, hs, r1⟩ := r.tup
    obtain ⟨ts, rfl, rfl, rt⟩ := Reps.triples r1
    obtain ⟨o1, o2, o3, o4⟩ := okSort_data ok
    obtain ⟨s1, s2⟩ := sort_trip (ts := ts)
    refine .inr ⟨a, ts.map fun t => (t.1, pyT t.2), rfl, by rw [List.map_map]; exact hs, fun b hb => ?_, by rw [List.map_map]; rw [List.map_map] at o2; exact o2, by rw [List.map_map]; rw [List.map_map] at o3; exact o3, fun b hb => ?_, fun p n => ?_⟩
    · obtain ⟨t, ht, rfl⟩ := List.mem_map.mp hb
      exact (Rep.dp _ _ _ (rt t ht) (toPy_T (pures_mem o1 _ (List.mem_map.mpr ⟨t, ht, rfl⟩)))).1
    · obtain ⟨t, ht, rfl⟩ := List.mem_map.mp hb
      exact o4 _ (List.mem_map.mpr ⟨t, ht, rfl⟩)
    · rw [s1]
      refine post_lst hh k n (reps_of (ts := ts.mergeSort fun a b => leS a.2 b.2) fun t ht => rt t ((List.mergeSort_perm _ _).mem_iff.mp ht)) ?_
      rw [← s2]
      exact q
  · exact q.elim
end
end TL
namespace TL
open PySem PySem.Spec PyProof.Rows L2
section
variable {prog : Program} {w : World} {A : Around} {E : Value → Shared → Prop} {s : Shared}
end
def sCutA (lo hi : Option Int) : S1
  | .lst xs, P => P ⟨true, .lst (cut xs lo hi)⟩
  | .tup xs, P => P (fz (.tup (cut xs lo hi)))
  | .str z, P => z.length ≤ 16777216 ∧ P (fz (.str (cutS z lo hi)))
  | _, _ => False
def rCutA (K : PySem.W.Frag) : V → Option Int → Option Int → Hp → VK → Prop := fun x lo hi H Q => rCut K x lo hi H Q ∨ rSlS x lo hi H Q
theorem sr_cutA {X : Cx} : SlR X (rCutA X.K) := SlR.or sr_cut sl_str
theorem ok_cutS (z : Str) (lo hi : Option Int) (h : PyData.strOk z = true) : PyData.strOk (cutS z lo hi) = true := by
  unfold PyData.strOk at h ⊢
  rw [← Array.all_toList, List.all_eq_true] at h ⊢
  intro c hc
  have h2 : c ∈ ((z.cps.toList.drop (HT.sIx z.length 0 lo)).take (HT.sIx z.length z.length hi - HT.sIx z.length 0 lo)) := by
    have h3 : c ∈ (((z.cps.toList.drop (HT.sIx z.length 0 lo)).take (HT.sIx z.length z.length hi - HT.sIx z.length 0 lo)).toArray).toList := hc
    simpa using h3
  exact h c (List.mem_of_mem_drop (List.mem_of_mem_take h2))
section
variable {K : PySem.W.Frag} {mg : Str → Option Value}
theorem ul_cutA (lo hi : Option Int) : UnL K mg (fun x H Q => rCutA K x lo hi H Q) (sCutA lo hi) := by
  intro hot H x dx P Q hh rx q k
  cases dx <;> simp only [sCutA] at q <;> try exact q.elim
  · obtain ⟨h1, q⟩ := q
    obtain ⟨rfl, ok⟩ := rx.str
    exact .inr ⟨_, rfl, by rw [slen]; exact h1, post_fz hh k (.str _ (ok_cutS _ _ _ ok)) q⟩
  · exact .inl (ul_cut lo hi hot H x _ P Q hh rx q k)
  · exact .inl (ul_cut lo hi hot H x _ P Q hh rx q k)
end
end TL
namespace TL
open PySem PySem.Spec PyProof.Rows L2
structure Ours (X : Cx) (pins : List (Addr × Obj)) (a : Addr) : Prop where
  z : X.s_0.heap.objs.size ≤ a
  l : a ≠ X.env.locals
  c : ∀ x c, X.env.cells.lookup x = some c → c ≠ a
  p : ∀ q ∈ X.pn ++ pins, q.1 ≠ a
  f : a ∉ frs X.stack
section
variable {X : Cx} {pins : List (Addr × Obj)} {σ : L2.St} {H : Hp} {s : Shared}
abbrev IntV (u : Value) (k : PyData) : Prop := ∃ (i : Int) (t : Tok), k = .int i ∧ u = .int i t
structure Turn (X : Cx) (pins : List (Addr × Obj)) (σ : L2.St) (a kS : Addr) (e1 : Nat) (ks : List Int) (W : Nat → Hp → Prop) (i : Nat) (H : Hp) (s : Shared) (kA : Array Value) (e : Nat) : Prop where
  inv : L2.Inv X pins σ H s
  na : H a = none
  nk : H kS = none
  ga : s.heap.get? a = some (seqObj "list" #[] e1)
  gk : s.heap.get? kS = some (seqObj "list" kA e)
  w : W i H
  ky : PySem.W.EachIs IntV kA.toList ((ks.take i).map PyData.int)
end
end TL
namespace TL
open PySem PySem.Spec PyProof.Rows L2
section
variable {X : Cx} {pins : List (Addr × Obj)} {σ : L2.St} {H : Hp} {s : Shared}
abbrev lamQ (X : Cx) : Str := X.env.qual ++ "<lambda>"
end
end TL
namespace TL
open PySem PySem.Spec PyProof.Rows L2
section
variable {X : Cx}
end
end TL
namespace TL
open PySem PySem.Spec PyProof.Rows L2
def adr1 : D → Option Addr
  | .own a _ => some a
  | _ => none
section
variable {K : PySem.W.Frag} {mg : Str → Option Value} {hot hot' oh : Pr} {H H' : Hp} {L : Lay}
theorem Reps.toB : ∀ {vs : List V} {ds : List D}, Reps K mg hot H vs ds → RepBs K mg hot H vs ds ∧ ds.flatMap TL.own1 = []
  | _, _, .nil => ⟨.nil, rfl⟩
  | _, _, .cons r t => by
    obtain ⟨h1, h2⟩ := Reps.toB t
    exact ⟨.cons (.fro r) h1, by rw [List.flatMap_cons, r.own1, h2]; rfl⟩
theorem StR.boxed {v : V} {ds : List D} (S : StR K mg oh H ((some v, some ⟨true, .lst ds⟩) :: L)) : StR K mg oh H ((some v, some ⟨true, .box (.lst ds)⟩) :: L) ∧ roots ((some v, some (⟨true, .box (.lst ds)⟩ : Val)) :: L) = roots ((some v, some (⟨true, .lst ds⟩ : Val)) :: L) := by
  have r := S.head
  cases r with
  | lst h1 h2 rs =>
    obtain ⟨b, e⟩ := rs.toB
    have hr : ∀ a, roots ((some (V.ref a), some (⟨true, .box (.lst ds)⟩ : Val)) :: L) = roots ((some (V.ref a), some (⟨true, .lst ds⟩ : Val)) :: L) := fun a => by
      rw [roots_ownG, roots_own]
      show a :: (ds.flatMap TL.own1 ++ roots L) = _
      rw [e]; rfl
    have hh : ∀ a, hotL oh ((some (V.ref a), some (⟨true, .box (.lst ds)⟩ : Val)) :: L) = hotL oh ((some (V.ref a), some (⟨true, .lst ds⟩ : Val)) :: L) := fun a => by unfold hotL; rw [hr]
    refine ⟨⟨fun c hc x hx => ?_, by rw [hr]; exact S.nd, fun b hb => S.dj b (by rw [hr] at hb; exact hb), S.tr⟩, hr _⟩
    rw [hh]
    rcases List.mem_cons.mp hc with rfl | hc
    · cases hx
      exact ⟨_, rfl, .boxL h1 h2 b⟩
    · exact S.all c (List.mem_cons_of_mem _ hc) x hx
theorem StR.put_last {a p : Addr} {vs : List V} {ds xs : List D} (S : StR K mg oh H ((some (.ref p), some ⟨true, .lst xs⟩) :: (some (.ref a), some ⟨true, .box (.lst ds)⟩) :: L)) (ha : H a = some (.lst vs)) :
    StR K mg oh (upd H a (.lst (vs ++ [.ref p]))) ((some (.ref a), some ⟨true, .box (.lst (ds ++ [.own p xs]))⟩) :: L) ∧
    Step ((some (.ref p), some ⟨true, .lst xs⟩) :: (some (.ref a), some ⟨true, .box (.lst ds)⟩) :: L) H ((some (.ref a), some ⟨true, .box (.lst (ds ++ [.own p xs]))⟩) :: L) (upd H a (.lst (vs ++ [.ref p]))) := by
  have r1 : roots ((some (V.ref p), some ⟨true, .lst xs⟩) :: (some (V.ref a), some ⟨true, .box (.lst ds)⟩) :: L) = p :: a :: (ds.flatMap TL.own1 ++ roots L) := by rw [roots_own, roots_ownG]; rfl
  have r2 : roots ((some (V.ref a), some ⟨true, .box (.lst (ds ++ [.own p xs]))⟩) :: L) = a :: ((ds.flatMap TL.own1 ++ [p]) ++ roots L) := by
    rw [roots_ownG]
    show a :: ((ds ++ [D.own p xs]).flatMap TL.own1 ++ roots L) = _
    rw [List.flatMap_append]
    rfl
  have pm : (a :: ((ds.flatMap TL.own1 ++ [p]) ++ roots L)).Perm (p :: a :: (ds.flatMap TL.own1 ++ roots L)) := by
    refine (List.Perm.cons a ?_).trans (List.Perm.swap p a _)
    rw [List.append_assoc]
    exact List.perm_middle
  generalize hL1 : ((some (V.ref p), some (⟨true, .lst xs⟩ : Val)) :: (some (V.ref a), some (⟨true, .box (.lst ds)⟩ : Val)) :: L : Lay) = L1 at S r1 ⊢
  have mem : ∀ b, b ∈ roots ((some (V.ref a), some ⟨true, .box (.lst (ds ++ [.own p xs]))⟩) :: L) ↔ b ∈ roots L1 := fun b => by rw [r1, r2]; exact pm.mem_iff
  have hh : hotL oh ((some (V.ref a), some ⟨true, .box (.lst (ds ++ [.own p xs]))⟩) :: L) = hotL oh L1 := by
    funext b
    apply propext
    unfold hotL
    rw [mem b]
  have nd := S.nd
  rw [r1] at nd
  obtain ⟨np, nd2⟩ := List.nodup_cons.mp nd
  obtain ⟨na, nd3⟩ := List.nodup_cons.mp nd2
  have ain : a ∈ roots L1 := by rw [r1]; simp
  have kp : Keeps (hotL oh L1) (hotL oh L1) H (upd H a (.lst (vs ++ [.ref p]))) := ⟨fun b o e n _ => by rw [upd_ne fun z => n (by rw [z]; exact .inr ain)]; exact e, fun _ _ _ n => n⟩
  have pa : p ≠ a := fun e => np (by rw [e]; exact List.mem_cons_self)
  have rp : VR K mg (hotL oh L1) H (.ref p) ⟨true, .lst xs⟩ := by
    obtain ⟨w, e, q⟩ := S.all (some (V.ref p), some ⟨true, .lst xs⟩) (by rw [← hL1]; exact List.mem_cons_self) _ rfl
    cases e
    exact q
  have ra : VR K mg (hotL oh L1) H (.ref a) ⟨true, .box (.lst ds)⟩ := by
    obtain ⟨w, e, q⟩ := S.all (some (V.ref a), some ⟨true, .box (.lst ds)⟩) (by rw [← hL1]; exact List.mem_cons_of_mem _ List.mem_cons_self) _ rfl
    cases e
    exact q
  refine ⟨⟨fun c hc x hx => ?_, by rw [r2]; exact pm.nodup_iff.mpr nd, fun b hb => S.dj b ((mem b).mp hb), hot_upd S.tr (S.root_pl ain)⟩, ⟨fun b o e n _ => ?_, fun b hb => .inl ((mem b).mp hb), fun b e => ?_⟩⟩
  · rw [hh]
    rcases List.mem_cons.mp hc with rfl | hc
    · cases hx
      cases ra with
      | boxL h1 h2 rs =>
        rw [ha] at h2
        cases h2
        refine ⟨_, rfl, .boxL h1 upd_same (RepBs.snoc ?_ (rs.mono kp fun b hb => ⟨(rs.isHot b hb).1, upd_ne fun z => na (by rw [← z]; exact List.mem_append_left _ hb)⟩))⟩
        cases rp with
        | lst g1 g2 g3 => exact .own g1 ((upd_ne pa).trans g2) (g3.mono kp)
    · obtain ⟨w, e, q⟩ := S.all c (by rw [← hL1]; exact List.mem_cons_of_mem _ (List.mem_cons_of_mem _ hc)) x hx
      refine ⟨w, e, q.mono kp fun b hb => ?_⟩
      have hb2 : b ∈ roots L := mem_roots.mpr ⟨c, hc, by rw [cell_eq hx e]; exact hb⟩
      exact ⟨.inr (by rw [r1]; exact List.mem_cons_of_mem _ (List.mem_cons_of_mem _ (List.mem_append_right _ hb2))), upd_ne fun z => na (by rw [← z]; exact List.mem_append_right _ hb2)⟩
  · rw [upd_ne fun z => n (by rw [z]; exact ain)]; exact e
  · by_cases q : b = a
    · subst q; rw [upd_same]; simp
    · rw [upd_ne q]; exact e
theorem slot_last {σ : L2.St} {env : EnvD} {τ : Lay} {i : Nat} {p : Addr} {ds xs : List D} (e0 : σ.length = env.length) (S : StR K mg oh H ((some (.ref p), some ⟨true, .lst xs⟩) :: (τ ++ σ.zip env))) (hx : env[i]? = some (some ⟨true, .box (.lst ds)⟩)) :
    ∃ a vs, σ[i]? = some (some (.ref a)) ∧ H a = some (.lst vs) ∧ vs.length = ds.length ∧
      StR K mg oh (upd H a (.lst (vs ++ [.ref p]))) (τ ++ σ.zip (env.set i (some ⟨true, .box (.lst (ds ++ [.own p xs]))⟩))) ∧
      Step ((some (.ref p), some ⟨true, .lst xs⟩) :: (τ ++ σ.zip env)) H (τ ++ σ.zip (env.set i (some ⟨true, .box (.lst (ds ++ [.own p xs]))⟩))) (upd H a (.lst (vs ++ [.ref p]))) := by
  obtain ⟨v, hv, r⟩ := get_slot (τ := (some (.ref p), some ⟨true, .lst xs⟩) :: τ) e0 S hx
  cases r with
  | boxL h1 h2 rs =>
    rename_i a vs
    refine ⟨a, vs, hv, h2, rs.length, ?_⟩
    obtain ⟨A, B, e1, e2⟩ := zip_split e0 hv hx
    have hset : σ.set i (some (.ref a)) = σ := by
      obtain ⟨hi, he⟩ := List.getElem?_eq_some_iff.mp hv
      rw [← he]; exact List.set_getElem_self hi
    have p1 : ((some (V.ref p), some ⟨true, .lst xs⟩) :: (τ ++ σ.zip env)).Perm ((some (V.ref p), some ⟨true, .lst xs⟩) :: (some (V.ref a), some ⟨true, .box (.lst ds)⟩) :: (τ ++ (A ++ B))) := by rw [e1]; exact List.Perm.cons _ perm_mid
    obtain ⟨g1, g2⟩ := (S.perm p1).put_last h2
    have e3 := e2 (some (.ref a)) (some ⟨true, .box (.lst (ds ++ [.own p xs]))⟩)
    rw [hset] at e3
    have p2 : (τ ++ σ.zip (env.set i (some ⟨true, .box (.lst (ds ++ [.own p xs]))⟩))).Perm ((some (V.ref a), some ⟨true, .box (.lst (ds ++ [.own p xs]))⟩) :: (τ ++ (A ++ B))) := by rw [e3]; exact perm_mid
    exact ⟨g1.perm p2.symm, (g2.permL p1.symm).permR p2.symm⟩
end
section
variable {K : PySem.W.Frag} {mg : Str → Option Value} {lent : List Nat}
def wsAppo (i : Nat) (te : WE) : WS := fun env P => (∃ ds, env[i]? = some (some ⟨true, .box (.lst ds)⟩)) ∧ te env fun val env1 => ∃ xs ds, val = ⟨true, .lst xs⟩ ∧ env1[i]? = some (some ⟨true, .box (.lst ds)⟩) ∧ ds.length < 16777216 ∧
  ∀ p, P .nx (env1.set i (some ⟨true, .box (.lst (ds ++ [.own p xs]))⟩))
theorem appo_lift {i : Nat} {te : WE} {Y : Ends} {σ : L2.St} {H : Hp} (h : liftS K mg lent (wsAppo i te) Y σ H) : tDrop (tBM K "list" rAppend (tVar i) (tCons (liftE K mg te) tNil)) Y σ H := by
  obtain ⟨oh, env, P, e0, S, ⟨⟨ds0, hx0⟩, t1⟩, k⟩ := h
  obtain ⟨w, hw, r⟩ := get_slot (τ := []) e0 S hx0
  cases r with
  | boxL h1 h2 rs =>
    rename_i a vs
    refine ⟨_, hw, .inl ⟨rfl, vs, .inl (.inl h2)⟩, oh, [], env, _, e0, S, t1, fun v val env1 H1 e1 S1 s1 ⟨xs, ds, hv, hx, hz, p⟩ => ?_⟩
    subst hv
    have rv := S1.head
    cases rv with
    | lst g1 g2 g3 =>
      rename_i q ws0
      obtain ⟨b, ws, hb, hB, hl, S3, s3⟩ := slot_last (τ := []) e1 S1 hx
      rw [hw] at hb
      cases hb
      refine ⟨a, ws, .ref q, rfl, rfl, hB, by rw [slen, hl]; exact hz, ?_⟩
      exact k.nx σ _ _ (by rw [List.length_set]; exact e1) rfl .refl S3 (s1.trans s3) (p q)
end
section
variable {X : Cx}
end
section
variable {K : PySem.W.Frag} {mg : Str → Option Value}
end
end TL
namespace TL
open PySem PySem.Spec PyProof.Rows L2
def boxAt (j : Nat) (all : List Addr) (env : EnvD) : Prop := ∃ ds, env[j]? = some (some ⟨true, .box (.lst ds)⟩) ∧ ds.map adr1 = all.map some
section
variable {K : PySem.W.Frag} {mg : Str → Option Value} {hot oh : Pr} {H : Hp} {L : Lay}
theorem adr1_some {d : D} {a : Addr} (h : adr1 d = some a) : ∃ xs, d = .own a xs := by
  cases d <;> first | (cases h; exact ⟨_, rfl⟩) | cases h
theorem boxAt_slot {σ : L2.St} {env : EnvD} {τ : Lay} {j : Nat} {all : List Addr} (e0 : σ.length = env.length) (S : StR K mg oh H (τ ++ σ.zip env)) (h : boxAt j all env) :
    ∃ p vs, σ[j]? = some (some (.ref p)) ∧ H p = some (.lst vs) ∧ vs.length = all.length ∧ ∀ (i : Nat) (a : Addr), all[i]? = some a → vs[i]? = some (.ref a) := by
  obtain ⟨ds, hx, e⟩ := h
  obtain ⟨v, hv, r⟩ := get_slot e0 S hx
  cases r with
  | boxL h1 h2 rs =>
    refine ⟨_, _, hv, h2, ?_, fun i a ha => ?_⟩
    · have := congrArg List.length e
      rw [List.length_map, List.length_map] at this
      rw [rs.length, this]
    · have e2 := congrArg (fun l => l[i]?) e
      simp only [List.getElem?_map, ha, Option.map_some] at e2
      cases e3 : ds[i]? with
      | none => rw [e3] at e2; cases e2
      | some d =>
        rw [e3] at e2
        have e4 : adr1 d = some a := by simpa using e2
        obtain ⟨xs, rfl⟩ := adr1_some e4
        obtain ⟨w, hw, rb⟩ := rs.get e3
        cases rb with
        | fro r => cases r
        | own _ _ _ => exact hw
def lcB (j : Nat) (all : List Addr) (vs : List Nat) (g : WG) (tt : WT) (te : WE) : List Addr → List D → EnvD → (List D → EnvD → Prop) → Prop
  | [], acc, env, K => boxAt j all env ∧ K acc env
  | a :: as, acc, env, K => boxAt j all env ∧ g (fz (.al a)) env fun e1 => tt e1 fun b e2 => if b then te e2 fun val e3 => acc.length < 16777216 ∧ lcB j all vs g tt te as (acc ++ [val.d]) (wipeD e3 vs) K else lcB j all vs g tt te as acc (wipeD e2 vs) K
def wLcB (j : Nat) (vs : List Nat) (g : WG) (tt : WT) (te : WE) : WE := fun env P => ∃ all, boxAt j all env ∧ lcB j all vs g tt te all [] (wipeD env vs) fun acc env2 => P ⟨true, .lst acc⟩ (backD env env2 vs)
theorem lcB_lift {j : Nat} {vs : List Nat} {g : WG} {tt : WT} {te : WE} {σ : L2.St} {H : Hp} {Q : VK} (hj : j ∉ vs) (h : liftE K mg (wLcB j vs g tt te) σ H Q) :
    tLc (iSeq K (tVar j)) (liftG K mg (lentC σ.length vs) g) (liftT K mg tt) (liftE K mg te) vs σ H Q := by
  obtain ⟨oh, τ, env1, P, e1, S1, ⟨ds, hbox, p⟩, k⟩ := h
  have s1 : Step (τ ++ σ.zip env1) H (τ ++ σ.zip env1) H := Step.refl
  obtain ⟨pa, vs1, hv0, hpa, _, _⟩ := boxAt_slot e1 S1 hbox
  refine ⟨_, hv0, .inl ⟨pa, rfl, ⟨_, .inl (.inl hpa)⟩, ?_⟩⟩
  have hw0 : (wipe σ vs)[j]? = some (some (.ref pa)) := by rw [wipe_get, if_neg hj]; exact hv0
  intro L hL
  obtain ⟨c, pc, bc⟩ := wipe_out' e1 vs
  have cp : (core (τ ++ σ.zip env1)).Perm (core ((τ ++ c) ++ (wipe σ vs).zip (wipeD env1 vs)) ++ []) := by
    rw [List.append_nil, List.append_assoc, core_append, core_append (A := τ)]
    exact pc.append_left _
  have S1' : StR K mg oh H ((τ ++ c) ++ (wipe σ vs).zip (wipeD env1 vs)) := S1.core cp
  have s1' : Step (τ ++ σ.zip env1) H ((τ ++ c) ++ (wipe σ vs).zip (wipeD env1 vs)) H := s1.coreR cp
  have hh1 : Hh K (hotL oh ((τ ++ c) ++ (wipe σ vs).zip (wipeD env1 vs))) H := S1'.hots
  have S2 : StR K mg oh (upd H L (.lst [])) ((some (.ref L), some ⟨true, .lst []⟩) :: ((τ ++ c) ++ (wipe σ vs).zip (wipeD env1 vs))) :=
    S1'.push (StR.new_lst (vs := []) (ds := []) hh1 hL .nil) (Step.new_lst hL)
  have s2 : Step ((τ ++ c) ++ (wipe σ vs).zip (wipeD env1 vs)) H ((some (.ref L), some ⟨true, .lst []⟩) :: ((τ ++ c) ++ (wipe σ vs).zip (wipeD env1 vs))) (upd H L (.lst [])) := (Step.new_lst hL).push
  have s02 := s1'.trans s2
  refine ⟨fun i m H' => m = ds.length - i ∧ i ≤ ds.length ∧ ∃ envB acc, envB.length = env1.length ∧ StR K mg oh H' ((some (.ref L), some ⟨true, .lst acc⟩) :: ((τ ++ c) ++ (wipe σ vs).zip envB)) ∧
      Step (τ ++ σ.zip env1) H ((some (.ref L), some ⟨true, .lst acc⟩) :: ((τ ++ c) ++ (wipe σ vs).zip envB)) H' ∧ lcB j ds vs g tt te (ds.drop i) acc envB (fun acc env2 => P ⟨true, .lst acc⟩ (backD env1 env2 vs)),
    ⟨ds.length, by simp, Nat.zero_le _, wipeD env1 vs, [], wipeD_len, S2, ?_, p⟩, ?_⟩
  · exact s2.coreL (L' := τ ++ σ.zip env1) (by have := cp.symm; rw [List.append_nil] at this; exact this)
  rintro i m H' ⟨rfl, hi, envB, acc, hb, S', s', q⟩
  have at_ : boxAt j ds envB → ∃ vs2, H' pa = some (.lst vs2) ∧ vs2.length = ds.length ∧ ∀ (i : Nat) (a : Addr), ds[i]? = some a → vs2[i]? = some (.ref a) := fun hb2 => by
    have S'' : StR K mg oh H' (((some (.ref L), some ⟨true, .lst acc⟩) :: (τ ++ c)) ++ (wipe σ vs).zip envB) := S'
    obtain ⟨pb, vs2, g1, g2, g3, g4⟩ := boxAt_slot (by rw [wipe_length, hb]; exact e1) S'' hb2
    rw [hw0] at g1
    cases g1
    exact ⟨vs2, g2, g3, g4⟩
  by_cases hlt : i < ds.length
  · rw [drop_cons_get hlt] at q
    obtain ⟨hb2, q⟩ := q
    obtain ⟨vs2, g2, g3, g4⟩ := at_ hb2
    have gi := g4 i ds[i] (List.getElem?_eq_getElem hlt)
    refine .inr ⟨⟨vs2, _, .inl (.inl g2), gi⟩, fun H2 => ∃ envB acc, envB.length = env1.length ∧ StR K mg oh H2 ((some (.ref L), some ⟨true, .lst acc⟩) :: ((τ ++ c) ++ (wipe σ vs).zip envB)) ∧
      Step (τ ++ σ.zip env1) H ((some (.ref L), some ⟨true, .lst acc⟩) :: ((τ ++ c) ++ (wipe σ vs).zip envB)) H2 ∧ lcB j ds vs g tt te (ds.drop (i + 1)) acc envB (fun acc env2 => P ⟨true, .lst acc⟩ (backD env1 env2 vs)),
      fun H2 n => ⟨ds.length - (i + 1), by omega, rfl, hlt, n⟩, fun x H2 y => ?_⟩
    obtain ⟨eH, y⟩ := y
    have eH := eH.symm
    subst eH
    have y := y _ (.inl (.inl g2))
    rw [gi] at y
    cases y
    have T : StR K mg (hotL oh ((some (.ref L), some ⟨true, .lst acc⟩) :: ((τ ++ c) ++ (wipe σ vs).zip envB))) H' [(some (.ref ds[i]), some (fz (.al ds[i])))] := StR.one_fro S'.hots .al
    have st : Step [] H' [(some (.ref ds[i]), some (fz (.al ds[i])))] H' := Step.one_fro
    have S3 := S'.push T st
    refine ⟨oh, (some (.ref L), some ⟨true, .lst acc⟩) :: (τ ++ c), envB, fz (.al ds[i]), _, by rw [wipe_length, hb]; exact e1, S3, q, fun σ2 env2 H3 a1 a2 a3 S4 s4 q4 => ?_⟩
    have s4' : Step ((some (.ref L), some ⟨true, .lst acc⟩) :: ((τ ++ c) ++ (wipe σ vs).zip envB)) H' ((some (.ref L), some ⟨true, .lst acc⟩) :: ((τ ++ c) ++ σ2.zip env2)) H3 := st.push.trans s4
    have hw : wipe σ2 vs = wipe σ vs := wipe_eq a2 a3
    have l2 : env2.length = env1.length := by rw [← a1, a2, wipe_length]; exact e1
    have fin : ∀ {acc' : List D} {env3 : EnvD} {H5 : Hp}, σ2.length = env3.length → StR K mg oh H5 ((some (.ref L), some ⟨true, .lst acc'⟩) :: ((τ ++ c) ++ σ2.zip env3)) →
        Step ((some (.ref L), some ⟨true, .lst acc⟩) :: ((τ ++ c) ++ (wipe σ vs).zip envB)) H' ((some (.ref L), some ⟨true, .lst acc'⟩) :: ((τ ++ c) ++ σ2.zip env3)) H5 →
        lcB j ds vs g tt te (ds.drop (i + 1)) acc' (wipeD env3 vs) (fun acc env2 => P ⟨true, .lst acc⟩ (backD env1 env2 vs)) →
        ∃ envB acc, envB.length = env1.length ∧ StR K mg oh H5 ((some (.ref L), some ⟨true, .lst acc⟩) :: ((τ ++ c) ++ (wipe σ vs).zip envB)) ∧
          Step (τ ++ σ.zip env1) H ((some (.ref L), some ⟨true, .lst acc⟩) :: ((τ ++ c) ++ (wipe σ vs).zip envB)) H5 ∧ lcB j ds vs g tt te (ds.drop (i + 1)) acc envB (fun acc env2 => P ⟨true, .lst acc⟩ (backD env1 env2 vs)) := by
      intro acc' env3 H5 b1 S5 s5 q5
      obtain ⟨c2, p2, _⟩ := wipe_out' b1 vs
      rw [hw] at p2
      have cp2 : (core ((some (V.ref L), some (⟨true, .lst acc'⟩ : Val)) :: ((τ ++ c) ++ σ2.zip env3))).Perm (core ((some (V.ref L), some (⟨true, .lst acc'⟩ : Val)) :: ((τ ++ c) ++ (wipe σ vs).zip (wipeD env3 vs))) ++ core c2) := by
        rw [core_cons_some, core_cons_some, List.cons_append]
        refine List.Perm.cons _ ?_
        rw [core_append, core_append (B := (wipe σ vs).zip (wipeD env3 vs)), List.append_assoc]
        refine (p2.append_left _).trans ?_
        rw [core_append (A := c2)]
        exact List.Perm.append_left _ List.perm_append_comm
      exact ⟨wipeD env3 vs, acc', by rw [wipeD_len, ← b1, a1, l2], S5.core cp2, (s'.trans s5).coreR cp2, q5⟩
    refine ⟨hw, oh, (some (.ref L), some ⟨true, .lst acc⟩) :: (τ ++ c), env2, _, a1, S4, q4, fun b env3 H4 b1 S5 s5 q5 => ?_⟩
    have s45 := s4'.trans s5
    cases b with
    | false => exact iteF (fin b1 S5 s45 (by simpa using q5))
    | true =>
      have q5 : te env3 fun val e3 => acc.length < 16777216 ∧ lcB j ds vs g tt te (ds.drop (i + 1)) (acc ++ [val.d]) (wipeD e3 vs) (fun acc env2 => P ⟨true, .lst acc⟩ (backD env1 env2 vs)) := by simpa using q5
      refine iteT ⟨oh, (some (.ref L), some ⟨true, .lst acc⟩) :: (τ ++ c), env3, _, b1, S5, q5, fun v val env4 H5 c1 S6 s6 ⟨hz, q6⟩ => ?_⟩
      have S6f : StR K mg oh H5 ((some v, some (fz val.d)) :: (some (.ref L), some ⟨true, .lst acc⟩) :: ((τ ++ c) ++ σ2.zip env4)) := S6.freeze
      have S7 : StR K mg oh H5 ((some (.ref L), some ⟨true, .lst acc⟩) :: ((τ ++ c) ++ σ2.zip env4)) := S6f.tail
      obtain ⟨w, ws, ew, _, hw2, rs⟩ := own_lst S7.head
      cases ew
      refine ⟨ws, hw2, by rw [slen, rs.length]; exact hz, ?_⟩
      have rv : Rep K mg (hotL oh ((some (.ref L), some ⟨true, .lst acc⟩) :: ((τ ++ c) ++ σ2.zip env4))) H5 v val.d := S6f.head_fro
      obtain ⟨S8, s8⟩ := S7.put_lst (rs.append (.cons rv .nil))
      have s67 : Step ((some (.ref L), some ⟨true, .lst acc⟩) :: ((τ ++ c) ++ (wipe σ vs).zip envB)) H' ((some (.ref L), some ⟨true, .lst acc⟩) :: ((τ ++ c) ++ σ2.zip env4)) H5 :=
        s45.trans (s6.lessR fun a ha => roots_cons_sub a ha)
      exact fin c1 S8 (s67.trans s8) q6
  · have e : i = ds.length := by omega
    subst e
    rw [List.drop_length] at q
    obtain ⟨hb2, q⟩ := q
    obtain ⟨vs2, g2, g3, g4⟩ := at_ hb2
    refine .inl ⟨⟨vs2, .inl (.inl g2), by rw [g3]; exact Nat.le_refl _⟩, ?_⟩
    obtain ⟨E, pb⟩ := bc envB hb
    have cpb : (core ((some (V.ref L), some (⟨true, .lst acc⟩ : Val)) :: ((τ ++ c) ++ (wipe σ vs).zip envB))).Perm (core ((some (V.ref L), some (⟨true, .lst acc⟩ : Val)) :: (τ ++ σ.zip (backD env1 envB vs))) ++ E) := by
      rw [core_cons_some, core_cons_some, List.cons_append]
      refine List.Perm.cons _ ?_
      rw [List.append_assoc, core_append, core_append (A := τ), List.append_assoc]
      exact pb.append_left _
    exact k _ _ (backD env1 envB vs) H' (by rw [backD_len, hb]; exact e1) (S'.core cpb) ((s1.trans s').coreR cpb) q
end
section
variable {K : PySem.W.Frag} {mg : Str → Option Value}
def wMutA (s : SMu) (j : Nat) (ta : WE) (ts : WXs) : WE := fun env P => ta env fun va env1 => ∃ b : Addr, va.d = D.al b ∧ (∃ (ds : List D) (n : Nat) (xs : List D), env1[j]? = some (some ⟨true, .box (.lst ds)⟩) ∧ ds[n]? = some (D.own b xs)) ∧
  ts env1 fun os env2 => ∃ (ds : List D) (n : Nat) (xs as : List D), env2[j]? = some (some ⟨true, .box (.lst ds)⟩) ∧ ds[n]? = some (D.own b xs) ∧ tms os = some as ∧ s (.lst xs) as fun d' val => ∃ ys, d' = .lst ys ∧ P val (env2.set j (some ⟨true, .box (.lst (ds.set n (.own b ys)))⟩))
theorem mutA_lift {r : V → List V → Hp → VK → Prop} {s : SMu} (hl : MutL K mg r s) {j : Nat} {ta : WE} {ts : WXs} {σ : L2.St} {H : Hp} {Q : VK} (h : liftE K mg (wMutA s j ta ts) σ H Q) : tBM K "list" r (liftE K mg ta) (liftXs K mg ts) σ H Q := by
  obtain ⟨oh, τ, env, P, e0, S, t, k⟩ := h
  refine ⟨oh, τ, env, _, e0, S, t, fun v va env1 H1 e1 S1 s1 ⟨b, hd, ⟨ds0, n0, xs0, hx0, hn0⟩, t2⟩ => ?_⟩
  have ev : v = .ref b := by
    have r := S1.head
    obtain ⟨o, d⟩ := va
    have hd : d = .al b := hd
    subst hd
    cases r with
    | fro r => cases r; rfl
  subst ev
  have S1' : StR K mg oh H1 (τ ++ σ.zip env1) := S1.tail
  have s1' : Step (τ ++ σ.zip env) H (τ ++ σ.zip env1) H1 := s1.lessR fun a ha => roots_cons_sub a ha
  obtain ⟨q, hq, rq, hh, ⟨vs0, hv0, r0⟩, put⟩ := slot_box e1 S1' hx0 .lst hn0
  refine ⟨.inl ⟨rfl, vs0, .inl (.inl hv0)⟩, oh, τ, env1, _, e1, S1', t2, fun vs os env2 H2 e2 a2 S2 s2 ⟨ds, n, xs, as, hx, hn, hr, q⟩ => ?_⟩
  exact mutG_fin hl e2 a2 S2 (s1'.trans s2) hx .lst hn hr q fun w val env' H' e3 S3 s3 p3 => k w val env' H' e3 S3 s3 p3
theorem mutA0_lift {r : V → List V → Hp → VK → Prop} {s : SMu} (hl : MutL K mg r s) {j : Nat} {ta : WE} {σ : L2.St} {H : Hp} {Q : VK} (h : liftE K mg (wMutA s j ta wXnil) σ H Q) : tBM0 K "list" r (liftE K mg ta) σ H Q := by
  obtain ⟨oh, τ, env, P, e0, S, t, k⟩ := h
  refine ⟨oh, τ, env, _, e0, S, t, fun v va env1 H1 e1 S1 s1 ⟨b, hd, ⟨ds0, n0, xs0, hx0, hn0⟩, ds, n, xs, as, hx, hn, hr, q⟩ => ?_⟩
  have ev : v = .ref b := by
    have r := S1.head
    obtain ⟨o, d⟩ := va
    have hd : d = .al b := hd
    subst hd
    cases r with
    | fro r => cases r; rfl
  subst ev
  have S1' : StR K mg oh H1 (τ ++ σ.zip env1) := S1.tail
  have s1' : Step (τ ++ σ.zip env) H (τ ++ σ.zip env1) H1 := s1.lessR fun a ha => roots_cons_sub a ha
  obtain ⟨q0, hq, rq, hh, ⟨vs0, hv0, r0⟩, put⟩ := slot_box e1 S1' hx0 .lst hn0
  exact ⟨.inl ⟨rfl, vs0, .inl (.inl hv0)⟩, mutG_fin (vs := []) (os := []) hl e1 .nil S1' s1' hx .lst hn hr q fun w val env' H' e3 S3 s3 p3 => k w val env' H' e3 S3 s3 p3⟩
end
end TL
namespace TL
open PySem PySem.Spec PyProof.Rows L2
section
variable {K : PySem.W.Frag} {mg : Str → Option Value} {hot hot' oh : Pr} {H H' : Hp} {L : Lay}
end
end TL
namespace TL
open PySem PySem.Spec PyProof.Rows L2
theorem fold_min : ∀ (ns : List Int) (n : Int), (ns.foldl min n ∈ n :: ns) ∧ ∀ y ∈ n :: ns, ns.foldl min n ≤ y
  | [], n => ⟨List.mem_cons_self, fun y hy => by rw [List.mem_singleton.mp hy]; exact Int.le_refl _⟩
  | m :: ns, n => by
    obtain ⟨h1, h2⟩ := fold_min ns (min n m)
    rw [List.foldl_cons]
    refine ⟨?_, fun y hy => ?_⟩
    · rcases List.mem_cons.mp h1 with e | h
      · rw [e]
        rcases Int.le_total n m with z | z
        · rw [Int.min_eq_left z]; exact List.mem_cons_self
        · rw [Int.min_eq_right z]; exact List.mem_cons_of_mem _ List.mem_cons_self
      · exact List.mem_cons_of_mem _ (List.mem_cons_of_mem _ h)
    · have h0 := h2 (min n m) List.mem_cons_self
      rcases List.mem_cons.mp hy with rfl | hy
      · omega
      · rcases List.mem_cons.mp hy with rfl | hy
        · omega
        · exact h2 y (List.mem_cons_of_mem _ hy)
theorem fold_max : ∀ (ns : List Int) (n : Int), (ns.foldl max n ∈ n :: ns) ∧ ∀ y ∈ n :: ns, y ≤ ns.foldl max n
  | [], n => ⟨List.mem_cons_self, fun y hy => by rw [List.mem_singleton.mp hy]; exact Int.le_refl _⟩
  | m :: ns, n => by
    obtain ⟨h1, h2⟩ := fold_max ns (max n m)
    rw [List.foldl_cons]
    refine ⟨?_, fun y hy => ?_⟩
    · rcases List.mem_cons.mp h1 with e | h
      · rw [e]
        rcases Int.le_total n m with z | z
        · rw [Int.max_eq_right z]; exact List.mem_cons_of_mem _ List.mem_cons_self
        · rw [Int.max_eq_left z]; exact List.mem_cons_self
      · exact List.mem_cons_of_mem _ (List.mem_cons_of_mem _ h)
    · have h0 := h2 (max n m) List.mem_cons_self
      rcases List.mem_cons.mp hy with rfl | hy
      · omega
      · rcases List.mem_cons.mp hy with rfl | hy
        · omega
        · exact h2 y (List.mem_cons_of_mem _ hy)
theorem reads_ints {h : Heap} : ∀ {its : List Value} {ns : List Int}, Vals (ns.map V.int) its → ReadsAll h its (ns.map .int) []
  | [], [], _ => .nil
  | u :: its, n :: ns, .cons r t => by
    obtain ⟨tk, rfl⟩ := r
    exact ReadsAll.cons (as := []) (bs := []) (.int n tk) (reads_ints t)
theorem alikeAll_ints (ns : List Int) : PySem.W.AlikeAll (ns.map PyData.int) := by
  unfold PySem.W.AlikeAll
  simp [PySem.W.alike]
theorem depthAll_ints : ∀ ns : List Int, PyData.depthAll (ns.map PyData.int) = 0
  | [] => by simp [PyData.depthAll]
  | n :: ns => by rw [List.map_cons]; simp [PyData.depthAll, PyData.depth, depthAll_ints ns]
section
variable {X : Cx}
def rMinT (K : PySem.W.Frag) : List V → Hp → VK → Prop := fun vs H Q => ∃ (a : Addr) (ns : List Int), vs = [V.ref a] ∧ SqT K H a (ns.map V.int) ∧ 0 < ns.length ∧ ∀ m, m ∈ ns → (∀ y, y ∈ ns → m ≤ y) → Q (.int m) H
def rMaxT (K : PySem.W.Frag) : List V → Hp → VK → Prop := fun vs H Q => ∃ (a : Addr) (ns : List Int), vs = [V.ref a] ∧ SqT K H a (ns.map V.int) ∧ 0 < ns.length ∧ ∀ m, m ∈ ns → (∀ y, y ∈ ns → y ≤ m) → Q (.int m) H
theorem cr_minT (hc : X.calm = true) (hu : X.A.units + 64 < cLine) : CallR X (.builtin "min") (rMinT X.K) := by
  intro pins s σ H vs us Q I r h
  obtain ⟨a, ns, rfl, hs, hne, q⟩ := h
  obtain ⟨its, rv, hl, _⟩ := I.tuple hs
  rw [Vals.ref1 r]
  cases ns with
  | nil => cases hne
  | cons n ns =>
    obtain ⟨m1, m2⟩ := fold_min ns n
    refine PySem.W.min_tuple_data (x := .int n) (xs := ns.map .int) (as := []) (I.ok.hd hc) (show s.heap.IsTuple a its.toArray from hl) (by simpa using reads_ints rv) (alikeAll_ints (n :: ns)) (by have := depthAll_ints (n :: ns); rw [List.map_cons] at this; rw [this]; omega) fun i v h' tk bs _ rd hk => ?_
    rw [PySem.W.minD_ints] at rd
    obtain ⟨t, rfl, _⟩ := reads_int_inv rd
    exact ⟨.int _, H, I.kept hk, ⟨_, rfl⟩, q _ m1 m2⟩
theorem cr_maxT (hc : X.calm = true) (hu : X.A.units + 64 < cLine) : CallR X (.builtin "max") (rMaxT X.K) := by
  intro pins s σ H vs us Q I r h
  obtain ⟨a, ns, rfl, hs, hne, q⟩ := h
  obtain ⟨its, rv, hl, _⟩ := I.tuple hs
  rw [Vals.ref1 r]
  cases ns with
  | nil => cases hne
  | cons n ns =>
    obtain ⟨m1, m2⟩ := fold_max ns n
    refine PySem.W.max_tuple_data (x := .int n) (xs := ns.map .int) (as := []) (I.ok.hd hc) (show s.heap.IsTuple a its.toArray from hl) (by simpa using reads_ints rv) (alikeAll_ints (n :: ns)) (by have := depthAll_ints (n :: ns); rw [List.map_cons] at this; rw [this]; omega) fun i v h' tk bs _ rd hk => ?_
    rw [PySem.W.maxD_ints] at rd
    obtain ⟨t, rfl, _⟩ := reads_int_inv rd
    exact ⟨.int _, H, I.kept hk, ⟨_, rfl⟩, q _ m1 m2⟩
end
section
variable {K : PySem.W.Frag} {mg : Str → Option Value}
theorem VRo.tupI {hot : Pr} {H : Hp} {xs : List D} {ns : List Int} {v : V} (r : VRo K mg hot H v (.tup xs)) (h : unInts xs = some ns) : ∃ a, v = .ref a ∧ SqT K H a (ns.map V.int) := by
  obtain ⟨a, vs, rfl, h1, r1⟩ := r.tup
  rw [unInts_eq h] at r1
  exact ⟨a, rfl, r1.ints ▸ h1⟩
def sMinA : SN
  | [.tup xs], P => ∃ ns, unInts xs = some ns ∧ 0 < ns.length ∧ ∀ m, m ∈ ns → (∀ y, y ∈ ns → m ≤ y) → P (fz (.int m))
  | ds, P => sMin ds P
def sMaxA : SN
  | [.tup xs], P => ∃ ns, unInts xs = some ns ∧ 0 < ns.length ∧ ∀ m, m ∈ ns → (∀ y, y ∈ ns → y ≤ m) → P (fz (.int m))
  | ds, P => sMax ds P
def rMinAA (K : PySem.W.Frag) : List V → Hp → VK → Prop := fun xs H Q => rMinA K xs H Q ∨ rMinT K xs H Q
def rMaxAA (K : PySem.W.Frag) : List V → Hp → VK → Prop := fun xs H Q => rMaxA K xs H Q ∨ rMaxT K xs H Q
theorem cl_minAA : CallL K mg (rMinAA K) sMinA := by
  intro hot H xs ds P Q hh rx q k
  unfold sMinA at q
  split at q
  · obtain ⟨ns, h1, h2, q⟩ := q
    obtain ⟨x, rfl, r⟩ := rx.one
    obtain ⟨a, rfl, hs⟩ := r.tupI h1
    exact .inr ⟨a, ns, rfl, hs, h2, fun m m1 m2 => post_fz hh k (.int _) (q m m1 m2)⟩
  · exact .inl (cl_min hot H xs _ P Q hh rx q k)
theorem cl_maxAA : CallL K mg (rMaxAA K) sMaxA := by
  intro hot H xs ds P Q hh rx q k
  unfold sMaxA at q
  split at q
  · obtain ⟨ns, h1, h2, q⟩ := q
    obtain ⟨x, rfl, r⟩ := rx.one
    obtain ⟨a, rfl, hs⟩ := r.tupI h1
    exact .inr ⟨a, ns, rfl, hs, h2, fun m m1 m2 => post_fz hh k (.int _) (q m m1 m2)⟩
  · exact .inl (cl_max hot H xs _ P Q hh rx q k)
end
theorem cr_minAA {X : Cx} (hc : X.calm = true) (hu : X.A.units + 64 < cLine) : CallR X (.builtin "min") (rMinAA X.K) := CallR.or (cr_minA hc) (cr_minT hc hu)
theorem cr_maxAA {X : Cx} (hc : X.calm = true) (hu : X.A.units + 64 < cLine) : CallR X (.builtin "max") (rMaxAA X.K) := CallR.or (cr_maxA hc) (cr_maxT hc hu)
theorem call_str_bool {X : Cx} : CallR X (.type "str") (fun xs H Q => ∃ k : Bool, xs = [.bl k] ∧ Q (.str (if k then ("True" : Str) else "False")) H) := by
  intro pins s σ H xs us Q I r h
  obtain ⟨k, rfl, q⟩ := h
  obtain ⟨u, rfl, r1⟩ := vals1 r
  cases r1
  cases k
  · exact PySem.P.str_of_bool ⟨.str _, H, I.tok _, ⟨_, rfl⟩, q⟩
  · exact PySem.P.str_of_bool ⟨.str _, H, I.tok _, ⟨_, rfl⟩, q⟩
def sStrA : SN
  | [.bl b], P => P (fz (.str (if b then ("True" : Str) else "False")))
  | ds, P => sStr ds P
def rStrAA : List V → Hp → VK → Prop := fun xs H Q => rStrA xs H Q ∨ ∃ k : Bool, xs = [.bl k] ∧ Q (.str (if k then ("True" : Str) else "False")) H
theorem cr_strAA {X : Cx} : CallR X (.type "str") rStrAA := CallR.or cr_strA call_str_bool
theorem cl_strAA {K : PySem.W.Frag} {mg : Str → Option Value} : CallL K mg rStrAA sStrA := by
  intro hot H xs ds P Q hh rx q k
  unfold sStrA at q
  split at q
  · rename_i b
    obtain ⟨x, rfl, r⟩ := rx.one
    rw [r.bl]
    refine .inr ⟨_, rfl, post_fz hh k (.str _ ?_) q⟩
    cases b <;> exact ok_ofString _
  · exact .inl (cl_str hot H xs _ P Q hh rx q k)
end TL
namespace TL
open PySem PySem.Spec PyProof.Rows L2
section
variable {K : PySem.W.Frag} {mg : Str → Option Value} {hot oh : Pr} {H : Hp} {L : Lay}
end
end TL
namespace TL
open PySem PySem.Spec PyProof.Rows L2 PySem.Calls
section
variable {X : Cx}
def rRepL (K : PySem.W.Frag) : R2 := fun x y H Q => ∃ l k xs, x = .ref l ∧ y = .int k ∧ SqL K H l xs ∧ -(2 ^ 63) ≤ k ∧ k < 2 ^ 63 ∧ xs.length * k.toNat ≤ sizeLine ∧
  ∀ p, H p = none → Q (.ref p) (upd H p (.lst (List.replicate k.toNat xs).flatten))
theorem op_repL : OpR X (binaryOp .Mult) (rRepL X.K) := by
  intro pins s σ H x y v u Q I rx ry h
  obtain ⟨l, k, xs, rfl, rfl, hH, h1, h2, hz, q⟩ := h
  cases rx
  obtain ⟨t, rfl⟩ := ry
  obtain ⟨its, r, ⟨⟨cls, d, data, sl⟩, n, ho, hc, hdn, hd⟩, _⟩ := I.list hH
  simp only at hc hdn hd
  subst hc hdn hd
  have hl := r.length
  have hlen : its.toArray.size * k.toNat ≤ sizeLine := by rw [List.size_toArray, ← hl]; exact hz
  have hcap : ¬ its.toArray.size * k.toNat > (2 ^ 63 - 1) / 8 := by
    have : (sizeLine : Nat) ≤ (2 ^ 63 - 1) / 8 := by decide
    omega
  have hfit : ¬ (!Builtin.List.listFitsIndex k) = true := by
    rw [fitsIndex_both h1 h2]
    exact Bool.false_ne_true
  have hlong : ¬ Builtin.List.listTooLong (its.toArray.size * k.toNat) = true := by
    rw [notLongL hlen]
    exact Bool.false_ne_true
  have hnew : List.foldl (fun x1 x2 => x1 ++ x2) #[] (List.replicate (if its.toArray.isEmpty = true then 0 else k.toNat) its.toArray) = (List.replicate k.toNat its).flatten.toArray := by
    have f0 : ∀ m : Nat, List.foldl (fun x1 x2 => x1 ++ x2) #[] (List.replicate m its.toArray) = (List.replicate m its).flatten.toArray := fun m => by
      have := foldl_rep its m []
      rw [List.nil_append] at this
      exact this
    rw [f0]
    cases its with
    | nil => simp
    | cons a r' => rw [if_neg (by simp)]
  refine wpAny_binaryOp_repeat_ref (T := "list") (U := "int") (by decide) ⟨_, ho, rfl⟩ (fun s' => typeIs_int s' k t) noFill_list_mul F.fills_int_mul F.slot_int_rmul repeat_list F.slot_int_index.lookup
    (call_meets F.slot_int_rmul (typeIs_int s k t) F.entry_int_rmul (F.args_int_rmul_2 _ _) (lm_int_rmul_list_any k t l its.toArray n none sl)
      ⟨ho, rfl, ⟨_, ho, rfl⟩, call_meets F.slot_list_mul ⟨_, ho, rfl⟩ F.entry_list_mul (F.args_list_mul_2 _ _)
        (lm_list_mul_any l its.toArray n none sl k t hfit hcap hlong) ⟨ho, ?_⟩⟩)
  rw [hnew]
  exact ⟨.ref _, _, I.lnew (t' := s.toks) (r.rep k.toNat) (by rw [PyProof.Rows.lm_len_rep_flat, Nat.mul_comm]; exact hz), rfl, q _ I.fresh⟩
end
def sMulL : S2
  | .lst xs, .int n, P => (-(2 ^ 63) ≤ n ∧ n < 2 ^ 63 ∧ xs.length * n.toNat ≤ 16777216) ∧ P ⟨true, .lst (List.replicate n.toNat xs).flatten⟩
  | x, y, P => sMulA x y P
def rMulL (K : PySem.W.Frag) : R2 := fun x y H Q => rMulA x y H Q ∨ rRepL K x y H Q
theorem or_mulL {X : Cx} : OpR X (binaryOp .Mult) (rMulL X.K) := OpR.or or_mulA op_repL
section
variable {K : PySem.W.Frag} {mg : Str → Option Value}
theorem bl_mulL : BinL K mg (rMulL K) sMulL := by
  intro hot H x y dx dy P Q hh rx ry q k
  unfold sMulL at q
  split at q
  · obtain ⟨⟨q1, q2, q3⟩, q⟩ := q
    obtain ⟨a, vs, rfl, ha, rs⟩ := rx.lst
    exact .inr ⟨_, _, vs, rfl, ry.int, ha, q1, q2, by rw [slen, rs.length]; exact q3, fun p n => post_lst hh k n (rs.rep _) q⟩
  · exact .inl (bl_mulA hot H x y _ _ P Q hh rx ry q k)
end
end TL
namespace TL
open PySem PySem.Spec PyProof.Rows L2
def forB (j : Nat) (all : List Addr) (g : WG) (body : WS) : List Addr → EnvD → (Out → EnvD → Prop) → Prop
  | [], env, P => boxAt j all env ∧ P .nx env
  | a :: as, env, P => boxAt j all env ∧ g (fz (.al a)) env fun env1 => body env1 fun o env2 => match o with
    | .nx => forB j all g body as env2 P
    | .ct => forB j all g body as env2 P
    | .bk => P .nx env2
    | .rt v => P (.rt v) env2
def wsForB (j : Nat) (g : WG) (body : WS) : WS := fun env P => ∃ all, boxAt j all env ∧ forB j all g body all env P
section
variable {K : PySem.W.Frag} {mg : Str → Option Value} {lent : List Nat} {X : Cx}
theorem LentEq.less {j : Nat} {σ σ' : L2.St} (h : LentEq (j :: lent) σ σ') : LentEq lent σ σ' := fun i hi => h i (List.mem_cons_of_mem _ hi)
theorem forB_lift {j : Nat} {g : WG} {body : WS} {Y : Ends} {σ : L2.St} {H : Hp} (h : liftS K mg lent (wsForB j g body) Y σ H) : tFor (iSeq K (tVar j)) (liftG K mg (j :: lent) g) (liftS K mg (j :: lent) body) Y σ H := by
  obtain ⟨oh, env1, P, e1, S1, ⟨ds, hbox, p⟩, k⟩ := h
  obtain ⟨pa, vs1, hv0, hpa, _, _⟩ := boxAt_slot (τ := []) e1 S1 hbox
  refine ⟨_, hv0, .inl ⟨pa, rfl, ⟨_, .inl (.inl hpa)⟩, ?_⟩⟩
  refine ⟨fun i m σ' H' => m = ds.length - i ∧ i ≤ ds.length ∧ ∃ env', σ'.length = env'.length ∧ σ'.length = σ.length ∧ LentEq (j :: lent) σ σ' ∧ StR K mg oh H' (σ'.zip env') ∧ Step (σ.zip env1) H (σ'.zip env') H' ∧ forB j ds g body (ds.drop i) env' P,
    ⟨ds.length, by simp, Nat.zero_le _, env1, e1, rfl, .refl, S1, Step.refl, p⟩, ?_⟩
  rintro i m σ' H' ⟨rfl, hi, env', f1, f2, f3, S', s', q⟩
  have at_ : boxAt j ds env' → ∃ vs2, H' pa = some (.lst vs2) ∧ vs2.length = ds.length ∧ ∀ (i : Nat) (a : Addr), ds[i]? = some a → vs2[i]? = some (.ref a) := fun hb2 => by
    obtain ⟨pb, vs2, g1, g2, g3, g4⟩ := boxAt_slot (τ := []) f1 S' hb2
    rw [f3 j List.mem_cons_self, hv0] at g1
    cases g1
    exact ⟨vs2, g2, g3, g4⟩
  have k' : SEnd K mg lent oh σ' env' H' P Y := k.after f2 f3.less s'
  by_cases hlt : i < ds.length
  · rw [drop_cons_get hlt] at q
    obtain ⟨hb2, q⟩ := q
    obtain ⟨vs2, g2, g3, g4⟩ := at_ hb2
    have gi := g4 i ds[i] (List.getElem?_eq_getElem hlt)
    refine .inr ⟨⟨vs2, _, .inl (.inl g2), gi⟩, fun σ2 H2 => ∃ env2, σ2.length = env2.length ∧ σ2.length = σ.length ∧ LentEq (j :: lent) σ σ2 ∧ StR K mg oh H2 (σ2.zip env2) ∧ Step (σ.zip env1) H (σ2.zip env2) H2 ∧ forB j ds g body (ds.drop (i + 1)) env2 P,
      fun σ2 H2 n => ⟨ds.length - (i + 1), by omega, rfl, hlt, n⟩, fun x H2 y => ?_⟩
    obtain ⟨eH, y⟩ := y
    have eH := eH.symm
    subst eH
    have y := y _ (.inl (.inl g2))
    rw [gi] at y
    cases y
    have T : StR K mg (hotL oh (σ'.zip env')) H' [(some (.ref ds[i]), some (fz (.al ds[i])))] := StR.one_fro S'.hots .al
    have st : Step [] H' [(some (.ref ds[i]), some (fz (.al ds[i])))] H' := Step.one_fro
    refine ⟨oh, [], env', fz (.al ds[i]), _, f1, S'.push T st, q, fun σ3 env3 H3 g1 g2 g3 S3 s3 q3 => ?_⟩
    have s3' : Step (σ'.zip env') H' (σ3.zip env3) H3 := st.push.trans s3
    refine ⟨oh, env3, _, g1, S3, q3, ?_⟩
    have tot : Step (σ.zip env1) H (σ3.zip env3) H3 := s'.trans s3'
    have k3 : SEnd K mg lent oh σ3 env3 H3 P Y := k'.after g2 g3.less s3'
    exact ⟨fun σ4 env4 H4 a1 a2 a3 S4 s4 p4 => ⟨env4, a1, a2.trans (g2.trans f2), f3.trans (g3.trans a3), S4, tot.trans s4, p4⟩,
      fun σ4 env4 H4 a1 a2 a3 S4 s4 p4 => k3.nx σ4 env4 H4 a1 a2 a3.less S4 s4 p4,
      fun σ4 env4 H4 a1 a2 a3 S4 s4 p4 => ⟨env4, a1, a2.trans (g2.trans f2), f3.trans (g3.trans a3), S4, tot.trans s4, p4⟩,
      fun v val σ4 env4 H4 a1 a2 a3 S4 s4 p4 => k3.rt v val σ4 env4 H4 a1 a2 a3.less S4 s4 p4⟩
  · have e : i = ds.length := by omega
    subst e
    rw [List.drop_length] at q
    obtain ⟨hb2, q⟩ := q
    obtain ⟨vs2, g2, g3, g4⟩ := at_ hb2
    exact .inl ⟨⟨vs2, .inl (.inl g2), by omega⟩, k'.nx σ' env' H' f1 rfl .refl S' Step.refl q⟩
def wLstB (ts : WAs) : WE := fun env P => ts env fun os env1 => ∃ xs, vls os = some xs ∧ xs.length ≤ 16777216 ∧ sB xs fun ds => P ⟨true, .box (.lst ds)⟩ env1
theorem lstB_lift {ts : WAs} {σ : L2.St} {Q : VK} (h : liftE K mg (wLstB ts) σ H Q) : tLst (liftAs K mg ts) σ H Q := by
  obtain ⟨oh, τ, env, P, e0, S, t, k⟩ := h
  refine ⟨oh, τ, env, _, e0, S, t, fun vs os env1 H1 e1 a1 S1 s1 ⟨xs, hx, hz, q⟩ => ?_⟩
  obtain ⟨c1, c2⟩ := vls_cells (cellsA_len a1) hx
  rw [c1] at S1 s1
  have hlen : vs.length = xs.length := by rw [cellsA_len a1, c2]
  refine ⟨by rw [slen, hlen]; exact hz, fun p hp => ?_⟩
  have SA := S1.split
  obtain ⟨ds, bo, q⟩ := sB_of SA.all hlen q
  have hr := bo.roots
  have hroot : roots [((some (V.ref p), some ⟨true, .box (.lst ds)⟩) : Cell)] = p :: ds.flatMap TL.own1 := by rw [roots_ownG]; show p :: (ds.flatMap TL.own1 ++ []) = _; rw [List.append_nil]
  have npr : p ∉ ds.flatMap TL.own1 := fun z => (bo.reps.isHot p z).2 hp
  have kp : Keeps (hotL (hotL oh (τ ++ σ.zip env1)) (zipA vs xs)) (hotL (hotL oh (τ ++ σ.zip env1)) [((some (V.ref p), some ⟨true, .box (.lst ds)⟩) : Cell)]) H1 (upd H1 p (.lst vs)) := by
    refine keeps_newH hp fun a q => ?_
    rcases q with q | q
    · exact .inl (.inl q)
    · rw [hroot] at q
      rcases List.mem_cons.mp q with e | z
      · exact .inr e
      · exact .inl (.inr (by rw [hr]; exact z))
  have T : StR K mg (hotL oh (τ ++ σ.zip env1)) (upd H1 p (.lst vs)) [(some (V.ref p), some ⟨true, .box (.lst ds)⟩)] := by
    refine ⟨fun c hc x hx => ?_, ?_, fun a ha => ?_, hot_upd SA.tr (.new hp)⟩
    · obtain rfl := List.mem_singleton.mp hc
      cases hx
      refine ⟨_, rfl, .boxL (.inr (by rw [hroot]; exact List.mem_cons_self)) upd_same (bo.reps.mono kp fun b hb => ?_)⟩
      refine ⟨.inr (by rw [hroot]; exact List.mem_cons_of_mem _ hb), upd_ne fun e => npr (by rw [← e]; exact hb)⟩
    · rw [hroot]
      exact List.nodup_cons.mpr ⟨npr, by rw [← hr]; exact SA.nd⟩
    · rw [hroot] at ha
      rcases List.mem_cons.mp ha with e | z
      · rw [e]; exact fun z => SA.tr.tr p z hp
      · exact SA.dj a (by rw [hr]; exact z)
  have st : Step (zipA vs xs) H1 [(some (V.ref p), some ⟨true, .box (.lst ds)⟩)] (upd H1 p (.lst vs)) := by
    refine ⟨fun a u e _ _ => by show upd H1 p _ a = _; rw [upd_ne (ne_of_none e hp)]; exact e, fun a ha => ?_, fun a e => ?_⟩
    · rw [hroot] at ha
      rcases List.mem_cons.mp ha with e | z
      · exact .inr (by rw [e]; exact hp)
      · exact .inl (by rw [hr]; exact z)
    · show upd H1 p _ a ≠ none
      by_cases q : a = p
      · subst q; rw [upd_same]; simp
      · rw [upd_ne q]; exact e
  exact k _ _ env1 _ e1 (StR.frame S1 T st) (s1.trans st.frame) q
end
end TL
namespace TL
open PySem PySem.Spec PyProof.Rows L2
section
variable {X : Cx} {pins : List (Addr × Obj)} {σ : L2.St} {H : Hp} {s : Shared} {a b : Addr} {kvs more : List (Key × V)} {A : Around} {E : Value → Shared → Prop}
end
section
variable {K : PySem.W.Frag} {mg : Str → Option Value}
end
section
variable {K : PySem.W.Frag} {mg : Str → Option Value} {w : World} {H : Hp} {Q : VK}
end
end TL
namespace TL
open PySem PySem.Spec PyProof.Rows PyProof.V L2
section
variable {X : Cx}
def rSumT (K : PySem.W.Frag) : List V → Hp → VK → Prop := fun vs H Q => ∃ (a : Addr) (ns : List Int), vs = [V.ref a] ∧ SqT K H a (ns.map V.int) ∧ Q (.int ns.sum) H
theorem cr_sumT (hc : X.calm = true) : CallR X (.builtin "sum") (rSumT X.K) := by
  intro pins s σ H vs us Q I r h
  obtain ⟨a, ns, rfl, hs, q⟩ := h
  obtain ⟨its, rv, hl, _⟩ := I.tuple hs
  rw [Vals.ref1 r]
  have hi := rv.ints
  obtain ⟨xs, hx⟩ := hi.allInts.items
  have hl : s.heap.IsTuple a its.toArray := hl
  have hn : numsOf its.toArray.toList = ns := by rw [show its.toArray.toList = its from rfl, hi.numsOf]
  rw [hx] at hl hn
  rw [nums_intItems] at hn
  refine PySem.W.ktm_sumG (I.ok.hd hc) hl fun h' tk t' hk => ?_
  rw [preSum_eq, List.take_of_length_le (by simp), hn]
  exact ⟨.int _, H, I.kept hk, ⟨_, rfl⟩, q⟩
end
def sSumA : SN
  | [.tup xs], P => ∃ ns, unInts xs = some ns ∧ P (fz (.int ns.sum))
  | ds, P => sSum ds P
def rSumAA (K : PySem.W.Frag) : List V → Hp → VK → Prop := fun xs H Q => rSum K xs H Q ∨ rSumT K xs H Q
theorem cl_sumAA {K : PySem.W.Frag} {mg : Str → Option Value} : CallL K mg (rSumAA K) sSumA := by
  intro hot H xs ds P Q hh rx q k
  unfold sSumA at q
  split at q
  · obtain ⟨ns, h1, q⟩ := q
    obtain ⟨x, rfl, r⟩ := rx.one
    obtain ⟨a, rfl, hs⟩ := r.tupI h1
    exact .inr ⟨a, ns, rfl, hs, post_fz hh k (.int _) q⟩
  · exact .inl (cl_sum hot H xs _ P Q hh rx q k)
theorem cr_sumAA {X : Cx} (hc : X.calm = true) : CallR X (.builtin "sum") (rSumAA X.K) := CallR.or (cr_sum hc) (cr_sumT hc)
end TL
namespace TL
open PySem PySem.Spec PyProof.Rows L2
theorem reads_strsV {h : Heap} : ∀ {its : List Value} {ss : List Str}, Vals (ss.map V.str) its → ReadsAll h its (ss.map .str) []
  | [], [], _ => .nil
  | u :: its, n :: ns, .cons r t => by
    obtain ⟨tk, rfl⟩ := r
    exact ReadsAll.cons (as := []) (bs := []) (.str n tk) (reads_strsV t)
theorem plain_strs : ∀ ss : List Str, PyData.plainAll (ss.map PyData.str) = true
  | [] => by simp [PyData.plainAll]
  | s :: ss => by rw [List.map_cons]; simp [PyData.plainAll, PyData.plain, plain_strs ss]
theorem count_strs (k : Str) : ∀ ss : List Str, (ss.map PyData.str).countP (fun y => PyData.eqv y (.str k)) = ss.count k
  | [] => rfl
  | s :: ss => by
    rw [List.map_cons, List.countP_cons, List.count_cons, count_strs k ss]
    rfl
section
variable {X : Cx}
def rCntS (K : PySem.W.Frag) : V → List V → Hp → VK → Prop := fun x xs H Q => ∃ (p : Addr) (ss : List Str) (k : Str), x = .ref p ∧ xs = [.str k] ∧ SqL K H p (ss.map V.str) ∧ Q (.int (ss.count k : Nat)) H
theorem mt_lcountS (hu : X.A.units + 64 < cLine) : MtR X "list.count" (rCntS X.K) := by
  intro pins s σ H x xs v us Q I rx rxs h
  obtain ⟨p, ss, k, rfl, rfl, hs, q⟩ := h
  cases rx
  obtain ⟨u, rfl, ru⟩ := rxs.one
  obtain ⟨t, rfl⟩ := ru
  obtain ⟨its, rv, hl, _⟩ := I.list hs
  refine PySem.SeqAt.count_list_data (d := .str k) (xs := ss.map .str) (as := []) (bs := []) hl.isList (by simpa using reads_strsV rv) (.str k t) (plain_strs ss) rfl (by
    have := Nat.min_le_right (PyData.depthAll (ss.map PyData.str)) (PyData.depth (.str k))
    simp [PyData.depth] at this ⊢
    omega) ?_
  rw [count_strs]
  exact ⟨.int (ss.count k : Nat), H, I.tok _, ⟨_, rfl⟩, q⟩
end
def sCnt : SM
  | .lst xs, [.str b], P => ∃ ss, unStrs xs = some ss ∧ P (fz (.int (ss.count b : Nat)))
  | _, _, _ => False
section
variable {K : PySem.W.Frag} {mg : Str → Option Value}
theorem ml_cnt : MethL K mg (rCntS K) sCnt := by
  intro hot H x xs dx ds P Q hh rx rxs q k
  unfold sCnt at q
  split at q
  · obtain ⟨ss, e, q⟩ := q
    obtain rfl := unStrs_eq e
    obtain ⟨a, vs, rfl, h1, r1⟩ := rx.lst
    obtain ⟨rfl, ok⟩ := r1.strs
    obtain ⟨y, rfl, r⟩ := rxs.one
    obtain ⟨rfl, _⟩ := r.str
    exact ⟨a, ss, _, rfl, rfl, h1, post_fz hh k (.int _) q⟩
  · exact q.elim
end
end TL
namespace ZC
open PySem PyProof.Rows
open Sem (wp)
def Prs (h : Heap) : List Addr → List (Value × Value) → Prop
  | [], [] => True
  | T :: Ts, p :: ps => IsPair h T p.1 p.2 ∧ Prs h Ts ps
  | _, _ => False
theorem Prs.at {h h' : Heap} : ∀ {Ts : List Addr} {ps : List (Value × Value)}, Prs h Ts ps → (∀ T ∈ Ts, ∀ o, h.get? T = some o → h'.get? T = some o) → Prs h' Ts ps
  | [], [], _, _ => trivial
  | T :: Ts, p :: ps, x, k => ⟨k T List.mem_cons_self _ x.1, Prs.at x.2 fun T' h => k T' (List.mem_cons_of_mem _ h)⟩
theorem Prs.snoc {h : Heap} {T : Addr} {p : Value × Value} : ∀ {Ts : List Addr} {ps : List (Value × Value)}, Prs h Ts ps → IsPair h T p.1 p.2 → Prs h (Ts ++ [T]) (ps ++ [p])
  | [], [], _, y => ⟨y, trivial⟩
  | _ :: _, _ :: _, x, y => ⟨x.1, Prs.snoc x.2 y⟩
theorem Prs.len {h : Heap} : ∀ {Ts : List Addr} {ps : List (Value × Value)}, Prs h Ts ps → Ts.length = ps.length
  | [], [], _ => rfl
  | _ :: _, _ :: _, x => congrArg (· + 1) (Prs.len x.2)
structure ZSt (h0 : Heap) (N0 z TI TO i1 i2 l1 l2 : Addr) (xs ys : List Value) (i : Nat) (h : Heap) (Ts : List Addr) : Prop where
  ti : IsPair h TI (.ref i1) (.ref i2)
  t1 : h.IsListIter i1 l1 i
  t2 : h.IsListIter i2 l2 i
  q1 : h.IsList l1 xs.toArray
  q2 : h.IsList l2 ys.toArray
  out : (IsZip h z TI TO .none ∧ ∃ a b, IsPair h TO a b) ∨ ∃ T f oT, IsZipHeld h z TI TO T f ∧ h.get? T = some oT ∧ N0 < T
  prs : Prs h Ts ((xs.zip ys).take i)
  new : ∀ T ∈ Ts, N0 < T ∧ T < h.objs.size
  nd : Ts.Nodup
  keep : ∀ b o, b ≠ z → b ≠ TO → b ≠ i1 → b ≠ i2 → b < N0 → h0.get? b = some o → h.get? b = some o
  sz : N0 < h.objs.size
section
variable {prog : Program} {w : World} {A : Around} {s : Shared} {h0 : Heap} {N0 z TI TO i1 i2 l1 l2 : Addr} {xs ys : List Value} {Ts : List Addr} {i : Nat}
theorem ZSt.same {h h' : Heap} (Z : ZSt h0 N0 z TI TO i1 i2 l1 l2 xs ys i h Ts) (lz : z < N0) (lTI : TI < N0) (lTO : TO < N0) (li1 : i1 < N0) (li2 : i2 < N0) (ll1 : l1 < N0) (ll2 : l2 < N0)
    (sb : Heap.SameBut N0 h h') : ZSt h0 N0 z TI TO i1 i2 l1 l2 xs ys i h' Ts where
  ti := (sb.2 _ (Nat.ne_of_lt lTI)).trans Z.ti
  t1 := Z.t1.at fun o e => (sb.2 _ (Nat.ne_of_lt li1)).trans e
  t2 := Z.t2.at fun o e => (sb.2 _ (Nat.ne_of_lt li2)).trans e
  q1 := Z.q1.at fun o e => (sb.2 _ (Nat.ne_of_lt ll1)).trans e
  q2 := Z.q2.at fun o e => (sb.2 _ (Nat.ne_of_lt ll2)).trans e
  out := Z.out.imp (fun ⟨a, x, y, b⟩ => ⟨(sb.2 _ (Nat.ne_of_lt lz)).trans a, x, y, (sb.2 _ (Nat.ne_of_lt lTO)).trans b⟩) fun ⟨T, f, oT, a, b, c⟩ => ⟨T, f, oT, (sb.2 _ (Nat.ne_of_lt lz)).trans a, (sb.2 _ (Nat.ne_of_gt c)).trans b, c⟩
  prs := Z.prs.at fun T hT o e => (sb.2 _ (Nat.ne_of_gt (Z.new T hT).1)).trans e
  new := fun T hT => ⟨(Z.new T hT).1, by rw [sb.1]; exact (Z.new T hT).2⟩
  nd := Z.nd
  keep := fun b o a1 a2 a3 a4 a5 e => (sb.2 _ (Nat.ne_of_lt a5)).trans (Z.keep b o a1 a2 a3 a4 a5 e)
  sz := by rw [sb.1]; exact Z.sz
theorem next_item {E : Value → Shared → Prop} {Q : Option Value → Shared → Prop} {c : Array Value} {e0 : Nat} (D : ZipApart z TI TO i1 i2 l1 l2) (Z : ZSt h0 N0 z TI TO i1 i2 l1 l2 xs ys i s.heap Ts) (lz : z < N0) (lTO : TO < N0) (li1 : i1 < N0) (li2 : i2 < N0)
    (hi : i < (xs.zip ys).length) (hS : s.heap.get? N0 = some { cls := .type "list", dict := none, data := .seq c e0, slots := #[] })
    (q : ∀ h', ZSt h0 N0 z TI TO i1 i2 l1 l2 xs ys (i + 1) h' (Ts ++ [s.heap.objs.size]) → h'.get? N0 = some { cls := .type "list", dict := none, data := .seq c e0, slots := #[] } → Q (some (.ref s.heap.objs.size)) { s with heap := h' }) :
    wpAny (model prog w) A (pyNext (.ref z)) Q E s := by
  rw [List.length_zip] at hi
  have hx : i < xs.length := by omega
  have hy : i < ys.length := by omega
  have ex : xs.toArray[i]? = some xs[i] := by rw [List.getElem?_toArray]; exact List.getElem?_eq_getElem hx
  have ey : ys.toArray[i]? = some ys[i] := by rw [List.getElem?_toArray]; exact List.getElem?_eq_getElem hy
  have etk : (xs.zip ys).take (i + 1) = (xs.zip ys).take i ++ [(xs[i], ys[i])] := by
    rw [List.take_add_one, List.getElem?_eq_getElem (by rw [List.length_zip]; omega), List.getElem_zip]
    rfl
  have fin : ∀ h', (IsZipHeld h' z TI TO s.heap.objs.size false ∨ ∃ T oT, IsZipHeld h' z TI TO T true ∧ s.heap.get? T = some oT ∧ N0 < T) → h'.IsListIter i1 l1 (i + 1) → h'.IsListIter i2 l2 (i + 1) → IsPair h' s.heap.objs.size xs[i] ys[i] → h'.objs.size = s.heap.objs.size + 1 →
      (∀ c o, c ≠ z → c ≠ TO → c ≠ i1 → c ≠ i2 → s.heap.get? c = some o → h'.get? c = some o) → Q (some (.ref s.heap.objs.size)) { s with heap := h' } := fun h' hz h1 h2 hT hsz hk => by
    refine q h' ⟨hk _ _ D.TIz D.TITO D.TIi1 D.TIi2 Z.ti, h1, h2, Z.q1.at fun o e => hk _ o D.l1z D.l1TO D.l1i1 D.l1i2 e, Z.q2.at fun o e => hk _ o D.l2z D.l2TO D.l2i1 D.l2i2 e, .inr ?_, ?_, fun T hT => ?_, ?_, fun b o a1 a2 a3 a4 a5 e => hk b o a1 a2 a3 a4 (Z.keep b o a1 a2 a3 a4 a5 e), by rw [hsz]; exact Nat.lt_succ_of_lt Z.sz⟩
      (hk _ _ (Nat.ne_of_gt lz) (Nat.ne_of_gt lTO) (Nat.ne_of_gt li1) (Nat.ne_of_gt li2) hS)
    · rcases hz with hz | ⟨T, oT, hz, ht, lt⟩
      · exact ⟨_, _, _, hz, hT, Z.sz⟩
      · exact ⟨T, true, oT, hz, hk _ _ (Nat.ne_of_gt (Nat.lt_trans lz lt)) (Nat.ne_of_gt (Nat.lt_trans lTO lt)) (Nat.ne_of_gt (Nat.lt_trans li1 lt)) (Nat.ne_of_gt (Nat.lt_trans li2 lt)) ht, lt⟩
    · rw [etk]
      refine Prs.snoc (Z.prs.at fun T hT o e => ?_) hT
      have lt := (Z.new T hT).1
      exact hk T o (Nat.ne_of_gt (Nat.lt_trans lz lt)) (Nat.ne_of_gt (Nat.lt_trans lTO lt)) (Nat.ne_of_gt (Nat.lt_trans li1 lt)) (Nat.ne_of_gt (Nat.lt_trans li2 lt)) e
    · rcases List.mem_append.mp hT with hT | hT
      · exact ⟨(Z.new T hT).1, by rw [hsz]; exact Nat.lt_succ_of_lt (Z.new T hT).2⟩
      · rw [List.mem_singleton.mp hT, hsz]; exact ⟨Z.sz, Nat.lt_succ_self _⟩
    · refine List.nodup_append.mpr ⟨Z.nd, by simp, fun a ha b hb => ?_⟩
      rw [List.mem_singleton.mp hb]
      exact Nat.ne_of_lt (Z.new a ha).2
  rcases Z.out with ⟨hz, a, b, hTO⟩ | ⟨T, f, oT, hz, hT, lt⟩
  · refine wpAny_pyNext_zip_item D hz Z.ti hTO Z.t1 Z.t2 Z.q1 Z.q2 ex ey fun h' a1 a2 a3 a4 a5 a6 hk => fin h' (.inl a1) a3 a4 a5 a6 hk
  · refine wpAny_pyNext_zip_item_held D hz hT Z.ti Z.t1 Z.t2 Z.q1 Z.q2 ex ey fun h' a1 a3 a4 a5 a6 hk => fin h' (.inr ⟨T, oT, a1, hT, lt⟩) a3 a4 a5 a6 fun c o b1 _ b3 b4 e => hk c o b1 b3 b4 e
theorem next_end {E : Value → Shared → Prop} {Q : Option Value → Shared → Prop} (hh : A.handled = none) (D : ZipApart z TI TO i1 i2 l1 l2) (Z : ZSt h0 N0 z TI TO i1 i2 l1 l2 xs ys i s.heap Ts)
    (hi : (xs.zip ys).length ≤ i) (q : ∀ h', (∀ c o, c ≠ z → c ≠ TO → c ≠ i1 → c ≠ i2 → s.heap.get? c = some o → h'.get? c = some o) → Q none { s with heap := h' }) : wpAny (model prog w) A (pyNext (.ref z)) Q E s := by
  rw [List.length_zip] at hi
  have hend : xs.toArray[i]? = none ∨ ys.toArray[i]? = none := by
    rw [List.getElem?_toArray, List.getElem?_toArray, List.getElem?_eq_none_iff, List.getElem?_eq_none_iff]
    omega
  rcases Z.out with ⟨hz, a, b, hTO⟩ | ⟨T, f, oT, hz, hT, lt⟩
  · exact wpAny_pyNext_zip_end hh D hz Z.ti hTO Z.t1 Z.t2 Z.q1 Z.q2 hend q
  · exact wpAny_pyNext_zip_end_held hh D hz hT Z.ti Z.t1 Z.t2 Z.q1 Z.q2 hend fun h' hk => q h' fun c o a1 _ a3 a4 e => hk c o a1 a3 a4 e
structure ZEnd (h0 : Heap) (N0 z TO i1 i2 : Addr) (xs ys : List Value) (h : Heap) (Ts : List Addr) : Prop where
  prs : Prs h Ts (xs.zip ys)
  new : ∀ T ∈ Ts, N0 < T
  nd : Ts.Nodup
  keep : ∀ b o, b ≠ z → b ≠ TO → b ≠ i1 → b ≠ i2 → b < N0 → h0.get? b = some o → h.get? b = some o
theorem loop {R : Result → Shared → Prop} (hn : (xs.zip ys).length ≤ sizeLine) (hh : A.in1.handled = none) (D : ZipApart z TI TO i1 i2 l1 l2) (lz : z < N0) (lTI : TI < N0) (lTO : TO < N0) (li1 : i1 < N0) (li2 : i2 < N0) (ll1 : l1 < N0) (ll2 : l2 < N0) (res : Value) :
    ∀ (k i : Nat) (s : Shared) (Ts : List Addr) (c : Nat), (xs.zip ys).length - i = k → i ≤ (xs.zip ys).length → ZSt h0 N0 z TI TO i1 i2 l1 l2 xs ys i s.heap Ts →
    s.heap.get? N0 = some { cls := .type "list", dict := none, data := .seq (Ts.map Value.ref).toArray c, slots := #[] } →
    (∀ h' Ts' c', ZEnd h0 N0 z TO i1 i2 xs ys h' Ts' → h'.get? N0 = some { cls := .type "list", dict := none, data := .seq (Ts'.map Value.ref).toArray c', slots := #[] } → R (.ok (.ret res)) { s with heap := h' }) →
    codeAny (model prog w) A (.builtin "list.extend.loop" ⟨[.ref N0, .ref z, res], []⟩) R s := by
  intro k
  induction k with
  | zero =>
    intro i s Ts c hk hi Z hS hR
    have hin : i = (xs.zip ys).length := by omega
    refine codeAny_builtin F.entry_extend_loop ?_
    rw [Around.under_plainId F.plain_extend_loop _]
    show wpAny _ A.in1 (pyNext (.ref z) >>= _) _ _ s
    refine wpAny_bind (next_end hh D Z (by omega) fun h' hk => ?_)
    have hp := Z.prs
    rw [hin, List.take_length] at hp
    have kk : ∀ T ∈ Ts, ∀ o, s.heap.get? T = some o → h'.get? T = some o := fun T hT o e => by
      have lt := (Z.new T hT).1
      exact hk T o (Nat.ne_of_gt (Nat.lt_trans lz lt)) (Nat.ne_of_gt (Nat.lt_trans lTO lt)) (Nat.ne_of_gt (Nat.lt_trans li1 lt)) (Nat.ne_of_gt (Nat.lt_trans li2 lt)) e
    exact wpAny_pure (hR h' Ts c ⟨hp.at kk, fun T hT => (Z.new T hT).1, Z.nd, fun b o a1 a2 a3 a4 a5 e => hk b o a1 a2 a3 a4 (Z.keep b o a1 a2 a3 a4 a5 e)⟩
      (hk _ _ (Nat.ne_of_gt lz) (Nat.ne_of_gt lTO) (Nat.ne_of_gt li1) (Nat.ne_of_gt li2) hS))
  | succ k ih =>
    intro i s Ts c hk hi Z hS hR
    have hlt : i < (xs.zip ys).length := by omega
    have hl := Z.prs.len
    rw [List.length_take] at hl
    have hsz : (Ts.map Value.ref).toArray.size = i := by rw [List.size_toArray, List.length_map]; omega
    refine codeAny_builtin F.entry_extend_loop ?_
    rw [Around.under_plainId F.plain_extend_loop _]
    show wpAny _ A.in1 (pyNext (.ref z) >>= _) _ _ s
    refine wpAny_bind (next_item D Z lz lTO li1 li2 hlt hS fun h' Z' hS' => ?_)
    show wpAny _ A.in1 (updateSeq N0 (·.push (Value.ref s.heap.objs.size)) >>= _) _ _ _
    refine wpAny_bind ?_
    have sb := Heap.SameBut.update h' N0 (Obj.mapSeq (·.push (Value.ref s.heap.objs.size)))
    have g := Heap.get?_update_self (Obj.mapSeq (·.push (Value.ref s.heap.objs.size))) hS' rfl
    have eT : ((Ts.map Value.ref).toArray).push (Value.ref s.heap.objs.size) = ((Ts ++ [s.heap.objs.size]).map Value.ref).toArray := by simp
    obtain ⟨c2, g2⟩ : ∃ c2, (h'.update N0 (Obj.mapSeq (·.push (Value.ref s.heap.objs.size)))).get? N0 = some { cls := .type "list", dict := none, data := .seq ((Ts ++ [s.heap.objs.size]).map Value.ref).toArray c2, slots := #[] } := ⟨_, by rw [g, ← eT]; rfl⟩
    refine wpAny_updateSeq hS' rfl (wpAny_pure ⟨plainId_quiet F.plain_extend_loop _, ih (i + 1) _ (Ts ++ [s.heap.objs.size]) c2 (by omega) hlt (Z'.same lz lTI lTO li1 li2 ll1 ll2 sb) g2 fun h'' Ts' c' ze hS'' => hR h'' Ts' c' ze hS''⟩)
      (by rw [hsz]; omega) (by show (((Ts.map Value.ref).toArray).push _).size ≤ sizeLine + 1; rw [Array.size_push, hsz]; omega)
end
end ZC
namespace TL
open PySem PySem.Spec PyProof.Rows L2
open ZC (Prs ZEnd)
section
variable {X : Cx} {pins : List (Addr × Obj)} {σ : L2.St} {H : Hp} {s : Shared}
end
end TL
namespace TL
open PySem PySem.Spec PyProof.Rows L2
section
variable {K : PySem.W.Frag} {mg : Str → Option Value} {oh : Pr} {L : Lay}
end
end TL
namespace TL
open PySem PySem.Spec PyProof.Rows L2
open PySem.AutoSeq1
section
variable {K : PySem.W.Frag} {mg : Str → Option Value}
end
end TL
namespace TL
open PySem PySem.Spec PyProof.Rows L2
def rIdxS (K : PySem.W.Frag) : V → List V → Hp → VK → Prop := fun x xs H Q => ∃ (p : Addr) (ss : List Str) (k : Str), x = .ref p ∧ xs = [.str k] ∧ SqL K H p (ss.map V.str) ∧ k ∈ ss ∧ Q (.int (ss.idxOf k : Nat)) H
theorem mt_lidxS {X : Cx} : MtR X "list.index" (rIdxS X.K) := by
  intro pins s σ H x xs v us Q I rx rxs h
  obtain ⟨p, ss, k, rfl, rfl, hs, hk, q⟩ := h
  cases rx
  obtain ⟨u, rfl, ru⟩ := rxs.one
  obtain ⟨t, rfl⟩ := ru
  obtain ⟨its, rv, hl, hz⟩ := I.list hs
  have hi : StrsAre its ss := by
    clear hs q hk hl hz
    induction ss generalizing its with
    | nil => cases rv; exact .nil
    | cons s ss ih =>
      cases rv with
      | cons r t =>
        obtain ⟨tk, rfl⟩ := r
        exact .cons _ _ (ih _ t)
  rw [List.length_map] at hz
  refine PySem.SeqAt.list_index_strs hl.isList hi hz hk ?_
  exact ⟨.int (ss.idxOf k : Nat), H, I.tok _, ⟨_, rfl⟩, q⟩
def sIdx : SM
  | .lst xs, [.str b], P => ∃ ss, unStrs xs = some ss ∧ b ∈ ss ∧ P (fz (.int (ss.idxOf b : Nat)))
  | _, _, _ => False
section
variable {K : PySem.W.Frag} {mg : Str → Option Value}
theorem ml_idx : MethL K mg (rIdxS K) sIdx := by
  intro hot H x xs dx ds P Q hh rx rxs q k
  unfold sIdx at q
  split at q
  · obtain ⟨ss, e, hb, q⟩ := q
    obtain rfl := unStrs_eq e
    obtain ⟨a, vs, rfl, h1, r1⟩ := rx.lst
    obtain ⟨rfl, ok⟩ := r1.strs
    obtain ⟨y, rfl, r⟩ := rxs.one
    obtain ⟨rfl, _⟩ := r.str
    exact ⟨a, ss, _, rfl, rfl, h1, hb, post_fz hh k (.int _) q⟩
  · exact q.elim
end
end TL
namespace TL
open PySem PySem.Spec PyProof.Rows L2
section
variable {prog : Program} {w : World} {A : Around} {E : Value → Shared → Prop} {s : Shared}
end
section
variable {X : Cx} {K : PySem.W.Frag} {mg : Str → Option Value}
def rAddT (K : PySem.W.Frag) : R2 := fun x y H Q => rI0 (fun i j => .int (i + j)) x y H Q ∨ rCatN K x y H Q
end
end TL
namespace TL
open PySem PySem.Spec PyProof.Rows L2 PySem.Calls
theorem tuple_mul1 (l : Addr) (items : Array Value) (n : Nat) (sl : Array (Option Value)) (dd : Option Addr) (x : Int) (u : Tok) (c0 : (decide (x < -(2 ^ 63)) || decide (x ≥ 2 ^ 63)) = false) (c1 : (items.isEmpty || x == 1) = true) :
    Meets (Builtin.«tuple.__mul__» ⟨[.ref l, .int x u], []⟩) (fun _ R s => s.heap.get? l = some { cls := .type "tuple", dict := dd, data := .seq items n, slots := sl } ∧ R (.ok (.ret (Value.ref l))) s) :=
  .of_wp fun prog w A R s h => by
    obtain ⟨hp, g, d, tk, os⟩ := s
    obtain ⟨hl, h⟩ := h
    have f1 := AutoSeq1.idx_int
    wp_walk using wpAny_loadPart' hl
    repeat (first
      | (refine wpAny_ite_false (decide_eq_false (by rw [c0]; exact Bool.false_ne_true)) ?_; wp_walk using wpAny_loadPart' hl)
      | (refine wpAny_ite_true (decide_eq_true c1) ?_; wp_walk using wpAny_loadPart' hl))
    exact ⟨_, rfl, h⟩
def rRepN (K : PySem.W.Frag) : R2 := fun x y H Q => ∃ l k xs, x = .ref l ∧ y = .int k ∧ SqT K H l xs ∧ xs ≠ [] ∧ 1 ≤ k ∧ k ≤ 1000 ∧ xs.length ≤ 1000 ∧ (k = 1 → Q (.ref l) H) ∧ (2 ≤ k → ∀ p o, H p = none → PTu o → Q (.ref p) (newT H p o (List.replicate k.toNat xs).flatten))
section
variable {X : Cx}
theorem op_repN : OpR X (binaryOp .Mult) (rRepN X.K) := by
  intro pins s σ H x y v u Q I rx ry h
  obtain ⟨l, k, xs, rfl, rfl, hT, hne, h1, h2, hz, q1, q2⟩ := h
  cases rx
  obtain ⟨t, rfl⟩ := ry
  obtain ⟨its, r, ⟨⟨cls, dd, data, sl⟩, ho, hc, n, hd⟩, hs⟩ := I.tuple hT
  simp only at hc hd
  subst hc hd
  have hle : its.length = xs.length := r.length.symm
  have hn : its ≠ [] := fun e => hne (by
    rw [e] at hle
    exact List.eq_nil_of_length_eq_zero hle.symm)
  have hi : its.toArray.isEmpty = false := by
    cases its with
    | nil => exact absurd rfl hn
    | cons a b => rfl
  have hsz0 : its.toArray.size = xs.length := by rw [List.size_toArray, hle]
  have hm : ((its.toArray.size : Nat) : Int) * k ≤ 1000000 := by
    rw [hsz0]
    have a1 : ((xs.length : Nat) : Int) * k ≤ 1000 * k := Int.mul_le_mul_of_nonneg_right (by omega) (by omega)
    omega
  have fl2 : (List.replicate k.toNat its).flatten.length ≤ sizeLine := by
    rw [PyProof.Rows.lm_len_rep_flat, hle, sizeLine_eq]
    have a1 : k.toNat * xs.length ≤ 1000 * 1000 := Nat.mul_le_mul (by omega) hz
    omega
  have c0 : (decide (k < -(2 ^ 63)) || decide (k ≥ 2 ^ 63)) = false := by
    rw [decide_eq_false (by omega), decide_eq_false (by omega)] <;> rfl
  by_cases k1 : k = 1
  · exact wpAny_binaryOp_repeat_ref (T := "tuple") (U := "int") (by decide) ⟨_, ho, rfl⟩ (fun s' => typeIs_int s' k t) noFill_tuple_mul F.fills_int_mul F.slot_int_rmul repeat_tuple F.slot_int_index.lookup
      (call_meets F.slot_int_rmul (typeIs_int s k t) F.entry_int_rmul (F.args_int_rmul_2 _ _) (int_rmul_tuple k t l its.toArray n dd sl)
        ⟨ho, rfl, ⟨_, ho, rfl⟩, call_meets F.slot_tuple_mul ⟨_, ho, rfl⟩ F.entry_tuple_mul (F.args_tuple_mul_2 _ _) (tuple_mul1 l its.toArray n sl dd k t c0 (by rw [k1]; simp)) ⟨ho, .ref l, H, I, rfl, q1 k1⟩⟩)
  have c1 : (its.toArray.isEmpty || k == 1) = false := by
    rw [hi, Bool.false_or]
    exact beq_eq_false_iff_ne.mpr k1
  have c2 : (decide (k ≤ 0) || its.toArray.isEmpty) = false := by
    rw [hi, Bool.or_false]
    exact decide_eq_false (by omega)
  have c4 : Builtin.Tuple.tupleTooMany (((its.toArray.size : Nat) : Int) * k) = false := by
    unfold Builtin.Tuple.tupleTooMany
    rw [sizeLine_eq]
    exact decide_eq_false (by omega)
  refine wpAny_binaryOp_repeat_ref (T := "tuple") (U := "int") (by decide) ⟨_, ho, rfl⟩ (fun s' => typeIs_int s' k t) noFill_tuple_mul F.fills_int_mul F.slot_int_rmul repeat_tuple F.slot_int_index.lookup
    (call_meets F.slot_int_rmul (typeIs_int s k t) F.entry_int_rmul (F.args_int_rmul_2 _ _) (int_rmul_tuple k t l its.toArray n dd sl)
      ⟨ho, rfl, ⟨_, ho, rfl⟩, call_meets F.slot_tuple_mul ⟨_, ho, rfl⟩ F.entry_tuple_mul (F.args_tuple_mul_2 _ _) (tuple_mulW l its.toArray n dd sl k t c0 c1 c2 (by omega) c4 (by rw [size_rep, List.size_toArray]; exact fl2)) ⟨ho, ?_⟩⟩)
  rw [size_rep]
  obtain ⟨o, po, J⟩ := Inv.laidT (t' := s.toks) I (h' := s.heap.push _) (xs := (List.replicate k.toNat xs).flatten) (fun b u e => Heap.get?_push_of_some _ e) (Nat.le_refl _) (by rw [PyProof.Rows.lm_len_rep_flat, sizeLine_eq]; have a1 : k.toNat * xs.length ≤ 1000 * 1000 := Nat.mul_le_mul (by omega) hz; omega) (r.rep k.toNat) (Heap.get?_push_size _ rfl)
  exact ⟨.ref s.heap.objs.size, _, J, rfl, q2 (by omega) _ o (I.hok.fresh (Nat.le_refl _)) po⟩
end
def sMulT : S2
  | .tup xs, .int n, P => (xs ≠ [] ∧ 1 ≤ n ∧ n ≤ 1000 ∧ xs.length ≤ 1000) ∧ P (fz (.tup (List.replicate n.toNat xs).flatten))
  | x, y, P => sMulL x y P
def rMulT (K : PySem.W.Frag) : R2 := fun x y H Q => rMulL K x y H Q ∨ rRepN K x y H Q
theorem or_mulT {X : Cx} : OpR X (binaryOp .Mult) (rMulT X.K) := OpR.or or_mulL op_repN
section
variable {K : PySem.W.Frag} {mg : Str → Option Value}
theorem bl_mulT : BinL K mg (rMulT K) sMulT := by
  intro hot H x y dx dy P Q hh rx ry q k
  unfold sMulT at q
  split at q
  · rename_i xs n
    obtain ⟨⟨q0, q1, q2, q3⟩, q⟩ := q
    obtain ⟨o1, R1⟩ := id rx
    obtain ⟨a, vs, rfl, ha, rs⟩ := rx.tup
    have f1 : Rep K mg hot H (.ref a) (.tup xs) := by cases R1 with | fro r => exact r
    have hl := rs.length
    refine .inr ⟨_, _, vs, rfl, ry.int, ha, fun z => ?_, q1, q2, by omega, fun z => ?_, fun _ p o n po => post_tup hh k n po (rs.rep _) q⟩
    · rw [z] at hl
      exact q0 (List.length_eq_zero_iff.mp hl.symm)
    · subst z
      have e : (List.replicate (1 : Int).toNat xs).flatten = xs := by simp
      rw [e] at q
      exact post_fz hh k f1 q
  · exact .inl (bl_mulL hot H x y _ _ P Q hh rx ry q k)
end
end TL
namespace TL
open PySem PySem.Spec PyProof.Rows L2
section
variable {K : PySem.W.Frag} {mg : Str → Option Value} {oh : Pr} {H : Hp} {L : Lay}
theorem new_dic {p : Addr} (hp : H p = none) (hh : Hh K oh H) (ht : ∀ a, oh a → H a ≠ none) : StR K mg oh (upd H p (.dK [])) [(some (.ref p), some ⟨true, .dic [] []⟩)] := by
  refine ⟨fun q hq x hx => ?_, ?_, fun a ha => ?_, hot_upd hh (.new hp)⟩
  · obtain rfl := List.mem_singleton.mp hq
    cases hx
    exact ⟨_, rfl, .dicK (.inr (by rw [roots_ownD]; exact List.mem_cons_self)) upd_same ⟨rfl, fun _ z => nomatch z⟩ .nil⟩
  · rw [roots_ownD]; exact List.nodup_cons.mpr ⟨by simp [roots], List.nodup_nil⟩
  · rw [roots_ownD] at ha
    have e : a = p := by simpa [roots] using ha
    subst e
    exact fun q => ht _ q hp
end
end TL
namespace TL
open PySem PySem.Spec PyProof.Rows L2
section
variable {X : Cx}
end
section
variable {K : PySem.W.Frag} {mg : Str → Option Value} {lent : List Nat} {Y : Ends} {σ : L2.St} {H : Hp}
end
end TL
namespace TL
open PySem PySem.Spec PyProof.Rows L2
section
variable {K : PySem.W.Frag} {mg : Str → Option Value} {X : Cx}
def b01 (b : Bool) : Int := if b = true then 1 else 0
def rBI (g : Int → Int → Int) : R2 := fun x y H Q => ∃ b j, x = .bl b ∧ y = .int j ∧ Q (.int (g (b01 b) j)) H
theorem op_add_bi : OpR X (binaryOp .Add) (rBI fun i j => i + j) := by
  intro pins s σ H x y v u Q I rx ry h
  obtain ⟨b, j, rfl, rfl, q⟩ := h
  obtain ⟨t, rfl⟩ := ry
  cases rx
  exact PySem.IntBool.add_bool_int ⟨.int (b01 b + j), H, I.tok _, ⟨_, rfl⟩, q⟩
theorem op_sub_bi : OpR X (binaryOp .Sub) (rBI fun i j => i - j) := by
  intro pins s σ H x y v u Q I rx ry h
  obtain ⟨b, j, rfl, rfl, q⟩ := h
  obtain ⟨t, rfl⟩ := ry
  cases rx
  exact PySem.IntBool.sub_bool_int ⟨.int (b01 b - j), H, I.tok _, ⟨_, rfl⟩, q⟩
def sAddB : S2
  | .int i, .int j, P => P (fz (.int (i + j)))
  | .str s, .str t, P => s.length + t.length ≤ 16777216 ∧ P (fz (.str (s ++ t)))
  | .lst xs, .lst ys, P => xs.length + ys.length ≤ 16777216 ∧ P ⟨true, .lst (xs ++ ys)⟩
  | .tup xs, .tup ys, P => xs.length + ys.length ≤ 16777216 ∧ P (fz (.tup (xs ++ ys)))
  | .bl b, .int j, P => P (fz (.int (b01 b + j)))
  | _, _, _ => False
def sSubB : S2
  | .int i, .int j, P => P (fz (.int (i - j)))
  | .bl b, .int j, P => P (fz (.int (b01 b - j)))
  | _, _, _ => False
def rAddB (K : PySem.W.Frag) : R2 := fun x y H Q => rAddAll K x y H Q ∨ rBI (fun i j => i + j) x y H Q
def rSubB : R2 := fun x y H Q => rI0 (fun i j => .int (i - j)) x y H Q ∨ rBI (fun i j => i - j) x y H Q
theorem or_addB : OpR X (binaryOp .Add) (rAddB X.K) := OpR.or or_add op_add_bi
theorem or_subB : OpR X (binaryOp .Sub) rSubB := OpR.or op_sub op_sub_bi
theorem bl_addB : BinL K mg (rAddB K) sAddB := by
  intro hot H x y dx dy P Q hh rx ry q k
  cases dx <;> cases dy <;> simp only [sAddB] at q <;> try exact q.elim
  · exact .inr ⟨_, _, rx.bl, ry.int, post_fz hh k (.int _) q⟩
  all_goals exact .inl (bl_add hot H x y _ _ P Q hh rx ry (by simpa only [sAdd] using q) k)
theorem bl_subB : BinL K mg rSubB sSubB := by
  intro hot H x y dx dy P Q hh rx ry q k
  cases dx <;> cases dy <;> simp only [sSubB] at q <;> try exact q.elim
  · exact .inr ⟨_, _, rx.bl, ry.int, post_fz hh k (.int _) q⟩
  · exact .inl ⟨_, _, rx.int, ry.int, post_fz hh k (.int _) q⟩
end
end TL
namespace EL
open PySem PyProof.Rows
open Sem (wp)
open ZC (Prs)
section
variable {prog : Program} {w : World} {A : Around} {E : Value → Shared → Prop} {s : Shared}
theorem held_step {en it a T : Addr} {i : Nat} {items : List Value} {x old : Value} {fl : Bool} {oT : Obj} {Q : Option Value → Shared → Prop}
    (g0 : IsEnumHeld s.heap en it i old T fl) (gT : s.heap.get? T = some oT) (n1 : T ≠ en) (n2 : T ≠ it) (ti : s.heap.IsTupleIter it a i) (tu : s.heap.IsTuple a items.toArray) (gx : items.toArray[i]? = some x) (ne : en ≠ it)
    (q : ∀ h', IsEnumHeld h' en it ((i : Int) + 1) old T true → h'.IsTupleIter it a (i + 1) → IsPair h' s.heap.objs.size (.int i s.toks) x → h'.objs.size = s.heap.objs.size + 1 →
      (∀ c o, c ≠ en → c ≠ it → s.heap.get? c = some o → h'.get? c = some o) → Q (some (.ref s.heap.objs.size)) { s with heap := h', toks := s.toks + 1 }) : wpAny (model prog w) A (pyNext (.ref en)) Q E s := by
  have ty : s.TypeIs (.ref en) "enumerate" := ⟨_, g0, rfl⟩
  have core : wpAny (model prog w) A.in1 (Builtin.«enumerate.__next__» ⟨[.ref en], []⟩) (fun fin s' => ∃ v, fin = .done (.ret v) ∧ Q (some v) s') (fun _ _ => False) s := by
    obtain ⟨H0, gl, dl, tk, os⟩ := s
    show wpAny _ _ (field (.ref en) 2 >>= _) _ _ _
    refine wpAny_bind (wpAny_field g0 rfl (x := .ref it) rfl (wpAny_bind (wpAny_nextOf_tuple_item ti tu gx fun H1 ti1 (k1 : Heap.SameBut it H0 H1) => ?_)))
    have g1 : IsEnumHeld H1 en it i old T fl := (k1.2 en ne).trans g0
    show wpAny _ _ (field (.ref en) 3 >>= _) _ _ ⟨H1, gl, dl, tk, os⟩
    refine wpAny_bind (wpAny_field g1 rfl (x := rawInt i) rfl ?_)
    show wpAny _ _ (field (.ref en) 4 >>= _) _ _ ⟨H1, gl, dl, tk, os⟩
    refine wpAny_bind (wpAny_field g1 rfl (x := .none) rfl ?_)
    show wpAny _ _ (mkInt i >>= _) _ _ ⟨H1, gl, dl, tk, os⟩
    refine wpAny_bind (wpAny_mkInt ?_)
    show wpAny _ _ (setField (.ref en) 3 (rawInt ((i : Int) + 1)) >>= _) _ _ ⟨H1, gl, dl, tk + 1, os⟩
    refine wpAny_bind (wpAny_setField_rec g1 (by simp) fun H2 g2 (k2 : Heap.SameBut en H1 H2) => ?_)
    replace g2 : IsEnumHeld H2 en it ((i : Int) + 1) old T fl := g2
    show wpAny _ _ (setField (.ref en) 4 .none >>= _) _ _ ⟨H2, gl, dl, tk + 1, os⟩
    refine wpAny_bind (wpAny_setField_rec g2 (by simp) fun H3 g3 (k3 : Heap.SameBut en H2 H3) => ?_)
    replace g3 : IsEnumHeld H3 en it ((i : Int) + 1) old T fl := g3
    show wpAny _ _ (newTuple [.int i tk, x] >>= _) _ _ ⟨H3, gl, dl, tk + 1, os⟩
    refine wpAny_bind (wpAny_newTuple ?_)
    have z3 : H3.objs.size = H0.objs.size := by rw [k3.1, k2.1, k1.1]
    have le : en < H0.objs.size := Heap.lt_size g0
    obtain ⟨H4, e4⟩ : ∃ H4, H4 = H3.push { cls := .type "tuple", data := .seq #[.int i tk, x] } := ⟨_, rfl⟩
    have up : ∀ c o, H3.get? c = some o → H4.get? c = some o := fun c o hc => by rw [e4]; exact Heap.get?_push_of_some _ hc
    have g4 : IsEnumHeld H4 en it ((i : Int) + 1) old T fl := up _ _ g3
    have t4 : IsPair H4 H0.objs.size (.int i tk) x := by rw [e4, ← z3]; exact Heap.get?_push_size _ rfl
    have z4 : H4.objs.size = H0.objs.size + 1 := by rw [e4, Heap.size_push, z3]
    have kk : ∀ c o, c ≠ en → c ≠ it → H0.get? c = some o → H4.get? c = some o := fun c o c1 c2 hc => up c o (k3.extBut c o c1 (k2.extBut c o c1 (k1.extBut c o c2 hc)))
    have ti4 : H4.IsTupleIter it a (i + 1) := ti1.at fun o hc => up _ _ (k3.extBut _ o ne.symm (k2.extBut _ o ne.symm hc))
    show wpAny _ _ (Builtin.SmallTypes.ownedTupleIsFree (.ref en) >>= _) _ _ ⟨H3.push { cls := .type "tuple", data := .seq #[.int i tk, x] }, gl, dl, tk + 1, os⟩
    rw [← e4, z3]
    clear e4 g3 k3 g2 k2 g1 k1 ti1 z3 up
    refine wpAny_bind (wpAny_tupleHeld_enum (s := ⟨H4, gl, dl, tk + 1, os⟩) g4 (kk T oT n1 n2 gT) fun H5 g5 (k5 : Heap.SameBut en H4 H5) => ?_)
    rw [if_neg Bool.false_ne_true]
    have ti5 : H5.IsTupleIter it a (i + 1) := ti4.at fun o hc => k5.extBut _ o ne.symm hc
    exact wpAny_pure ⟨_, rfl, q H5 g5 ti5 (k5.extBut _ _ (Nat.ne_of_gt le) t4) (show H5.objs.size = _ by rw [k5.1, z4]) fun c o c1 c2 hc => k5.extBut c o c1 (kk c o c1 c2 hc)⟩
  unfold pyNext
  exact wpAny_bind (wpAny_attempt (wpAny_callSpecial?_slot (name := Str.ofString "__next__") ty F.slot_enumerate_next (wpAny_call_entry F.slot_enumerate_next ty F.entry_enumerate_next
    (wpAny_mono core (fun f s' hf => by obtain ⟨v, rfl, hv⟩ := hf; exact ⟨_, rfl, wpAny_pure hv⟩) fun _ _ hf => hf.elim) (F.args_enumerate_next_1 _))))
theorem held_end {en it a T : Addr} {i : Nat} {items : List Value} {old : Value} {fl : Bool} {Q : Option Value → Shared → Prop} (hh : A.handled = none)
    (g0 : IsEnumHeld s.heap en it i old T fl) (ti : s.heap.IsTupleIter it a i) (tu : s.heap.IsTuple a items.toArray) (gx : items.toArray[i]? = none)
    (q : ∀ h', Heap.ExtBut it s.heap h' → Q none { s with heap := h' }) : wpAny (model prog w) A (pyNext (.ref en)) Q E s := by
  have ty : s.TypeIs (.ref en) "enumerate" := ⟨_, g0, rfl⟩
  unfold pyNext
  refine wpAny_bind (wpAny_attempt (wpAny_callSpecial?_slot (name := Str.ofString "__next__") ty F.slot_enumerate_next (wpAny_call_entry F.slot_enumerate_next ty F.entry_enumerate_next ?_ (F.args_enumerate_next_1 _))))
  show wpAny _ _ (field (.ref en) 2 >>= _) _ _ _
  refine wpAny_bind (wpAny_field g0 rfl (x := .ref it) rfl (wpAny_bind (wpAny_nextOf_tuple_end hh ti tu gx fun h' x he' hx' => ?_)))
  obtain ⟨o, ho, hc⟩ := hx'
  exact wpAny_bind (wpAny_isInstance (T := "StopIteration") (b := true) ⟨o, ho, hc⟩ isSubtype_stop (wpAny_pure (q _ he')))
def EnR : Nat → List Value → List (Value × Value) → Prop
  | _, [], [] => True
  | k, x :: xs, u :: us => ((∃ t, u.1 = .int (k : Nat) t) ∧ u.2 = x) ∧ EnR (k + 1) xs us
  | _, _, _ => False
theorem EnR.snoc : ∀ {k : Nat} {xs : List Value} {us : List (Value × Value)} {x : Value} {t : Tok}, EnR k xs us → EnR k (xs ++ [x]) (us ++ [(.int ((k + xs.length : Nat) : Int) t, x)])
  | _, [], [], _, _, _ => ⟨⟨⟨_, rfl⟩, rfl⟩, trivial⟩
  | k, y :: ys, u :: us, x, t, h => by
    refine ⟨h.1, ?_⟩
    have := EnR.snoc (x := x) (t := t) h.2
    rw [show k + 1 + ys.length = k + (y :: ys).length by rw [List.length_cons]; omega] at this
    exact this
  | _, [], _ :: _, _, _, h => h.elim
  | _, _ :: _, [], _, _, h => h.elim
structure ESt (h0 : Heap) (N0 en it a : Addr) (items : List Value) (i : Nat) (h : Heap) (Ts : List Addr) (us : List (Value × Value)) : Prop where
  ti : h.IsTupleIter it a i
  tu : h.IsTuple a items.toArray
  out : (∃ old, IsEnum h en it i old) ∨ ∃ T f old oT, IsEnumHeld h en it i old T f ∧ h.get? T = some oT ∧ N0 < T
  prs : Prs h Ts us
  rel : EnR 0 (items.take i) us
  new : ∀ T ∈ Ts, N0 < T ∧ T < h.objs.size
  nd : Ts.Nodup
  keep : ∀ b o, b ≠ en → b ≠ it → b < N0 → h0.get? b = some o → h.get? b = some o
  sz : N0 < h.objs.size
theorem ESt.same {h0 h h' : Heap} {N0 en it a : Addr} {items : List Value} {i : Nat} {Ts : List Addr} {us : List (Value × Value)} (Z : ESt h0 N0 en it a items i h Ts us) (l1 : en < N0) (l2 : it < N0) (l3 : a < N0) (sb : Heap.SameBut N0 h h') : ESt h0 N0 en it a items i h' Ts us where
  ti := Z.ti.at fun o e => (sb.2 _ (Nat.ne_of_lt l2)).trans e
  tu := Z.tu.at fun o e => (sb.2 _ (Nat.ne_of_lt l3)).trans e
  out := Z.out.imp (fun ⟨o, e⟩ => ⟨o, (sb.2 _ (Nat.ne_of_lt l1)).trans e⟩) fun ⟨T, f, o, oT, e1, e2, lt⟩ => ⟨T, f, o, oT, (sb.2 _ (Nat.ne_of_lt l1)).trans e1, (sb.2 _ (Nat.ne_of_gt lt)).trans e2, lt⟩
  prs := Z.prs.at fun T hT o e => (sb.2 _ (Nat.ne_of_gt (Z.new T hT).1)).trans e
  rel := Z.rel
  new := fun T hT => ⟨(Z.new T hT).1, by rw [sb.1]; exact (Z.new T hT).2⟩
  nd := Z.nd
  keep := fun b o b1 b2 b3 e => (sb.2 _ (Nat.ne_of_lt b3)).trans (Z.keep b o b1 b2 b3 e)
  sz := by rw [sb.1]; exact Z.sz
theorem step_item {h0 : Heap} {N0 en it a : Addr} {items : List Value} {i : Nat} {Ts : List Addr} {us : List (Value × Value)} {Q : Option Value → Shared → Prop} {c : Array Value} {e0 : Nat} (hh : A.in1.handled = none) (Z : ESt h0 N0 en it a items i s.heap Ts us) (ne : en ≠ it) (l1 : en < N0) (l2 : it < N0) (l3 : a < N0) (nai : a ≠ it) (nae : a ≠ en)
    (hi : i < items.length) (hS : s.heap.get? N0 = some { cls := .type "list", dict := none, data := .seq c e0, slots := #[] })
    (q : ∀ h' tk us', ESt h0 N0 en it a items (i + 1) h' (Ts ++ [s.heap.objs.size]) us' → h'.get? N0 = some { cls := .type "list", dict := none, data := .seq c e0, slots := #[] } → Q (some (.ref s.heap.objs.size)) { s with heap := h', toks := tk }) :
    wpAny (model prog w) A (pyNext (.ref en)) Q E s := by
  have gx : items.toArray[i]? = some items[i] := by rw [List.getElem?_toArray]; exact List.getElem?_eq_getElem hi
  have etk : items.take (i + 1) = items.take i ++ [items[i]] := by rw [List.take_add_one, List.getElem?_eq_getElem hi]; rfl
  have ltk : (items.take i).length = i := by rw [List.length_take]; omega
  have fin : ∀ h' tk t, ((∃ old, IsEnumHeld h' en it ((i : Int) + 1) old s.heap.objs.size false) ∨ ∃ T old oT, IsEnumHeld h' en it ((i : Int) + 1) old T true ∧ s.heap.get? T = some oT ∧ N0 < T) → h'.IsTupleIter it a (i + 1) → IsPair h' s.heap.objs.size (.int i t) items[i] → h'.objs.size = s.heap.objs.size + 1 →
      (∀ c o, c ≠ en → c ≠ it → s.heap.get? c = some o → h'.get? c = some o) → Q (some (.ref s.heap.objs.size)) { s with heap := h', toks := tk } := fun h' tk t hz h1 hT hsz hk => by
    have far : ∀ c, N0 < c → c ≠ en ∧ c ≠ it := fun c lt => ⟨Nat.ne_of_gt (Nat.lt_trans l1 lt), Nat.ne_of_gt (Nat.lt_trans l2 lt)⟩
    refine q h' tk (us ++ [(.int i t, items[i])]) ⟨h1, Z.tu.at fun o e => hk _ o nae nai e, .inr ?_, ?_, ?_, fun T hT => ?_, ?_, fun b o b1 b2 b3 e => hk b o b1 b2 (Z.keep b o b1 b2 b3 e), by rw [hsz]; exact Nat.lt_succ_of_lt Z.sz⟩ (hk _ _ (Nat.ne_of_gt l1) (Nat.ne_of_gt l2) hS)
    · rcases hz with ⟨old, hz⟩ | ⟨T, old, oT, hz, ht, lt⟩
      · exact ⟨_, _, _, _, by rw [show (((i + 1 : Nat)) : Int) = (i : Int) + 1 by omega]; exact hz, hT, Z.sz⟩
      · exact ⟨T, true, old, oT, by rw [show (((i + 1 : Nat)) : Int) = (i : Int) + 1 by omega]; exact hz, hk _ _ (far T lt).1 (far T lt).2 ht, lt⟩
    · exact Prs.snoc (Z.prs.at fun T hT o e => hk T o (far T (Z.new T hT).1).1 (far T (Z.new T hT).1).2 e) hT
    · rw [etk]
      have := EnR.snoc (x := items[i]) (t := t) Z.rel
      rw [Nat.zero_add, ltk] at this
      exact this
    · rcases List.mem_append.mp hT with hT | hT
      · exact ⟨(Z.new T hT).1, by rw [hsz]; exact Nat.lt_succ_of_lt (Z.new T hT).2⟩
      · rw [List.mem_singleton.mp hT, hsz]; exact ⟨Z.sz, Nat.lt_succ_self _⟩
    · refine List.nodup_append.mpr ⟨Z.nd, by simp, fun x hx y hy => ?_⟩
      rw [List.mem_singleton.mp hy]
      exact Nat.ne_of_lt (Z.new x hx).2
  rcases Z.out with ⟨old, he⟩ | ⟨T, f, old, oT, he, hT, lt⟩
  · refine wpAny_pyNext_enum_itemD (Draws.tuple hh it a nai items.toArray) he ⟨Z.ti, Z.tu⟩ (by simpa using hi) ne (by simp [ne, Ne.symm nae]) fun x h' tk hx ho st hT hsz hk => ?_
    have hx : items.toArray[i]? = some x := hx
    rw [gx] at hx
    cases hx
    exact fin h' (tk + 1) tk (.inl ⟨_, ho⟩) st.1 hT hsz hk
  · exact held_step he hT (Nat.ne_of_gt (Nat.lt_trans l1 lt)) (Nat.ne_of_gt (Nat.lt_trans l2 lt)) Z.ti Z.tu gx ne fun h' ho h1 hT' hsz hk => fin h' _ _ (.inr ⟨T, old, oT, ho, hT, lt⟩) h1 hT' hsz hk
theorem step_end {h0 : Heap} {N0 en it a : Addr} {items : List Value} {i : Nat} {Ts : List Addr} {us : List (Value × Value)} {Q : Option Value → Shared → Prop} (hh : A.handled = none) (hh1 : A.in1.handled = none) (Z : ESt h0 N0 en it a items i s.heap Ts us) (nai : a ≠ it) (hi : i = items.length)
    (q : ∀ h', Heap.ExtBut it s.heap h' → Q none { s with heap := h' }) : wpAny (model prog w) A (pyNext (.ref en)) Q E s := by
  have gx : items.toArray[i]? = none := by rw [List.getElem?_toArray, List.getElem?_eq_none_iff]; omega
  rcases Z.out with ⟨old, he⟩ | ⟨T, f, old, oT, he, hT, lt⟩
  · exact wpAny_pyNext_enum_endD (Draws.tuple hh1 it a nai items.toArray) he (by rw [List.size_toArray, ← hi]; exact ⟨Z.ti, Z.tu⟩) q
  · exact held_end hh he Z.ti Z.tu gx q
structure EEnd (h0 : Heap) (N0 en it : Addr) (items : List Value) (h : Heap) (Ts : List Addr) (us : List (Value × Value)) : Prop where
  prs : Prs h Ts us
  rel : EnR 0 items us
  new : ∀ T ∈ Ts, N0 < T
  nd : Ts.Nodup
  keep : ∀ b o, b ≠ en → b ≠ it → b < N0 → h0.get? b = some o → h.get? b = some o
theorem loop {h0 : Heap} {N0 en it a : Addr} {items : List Value} {R : Result → Shared → Prop} (hn : items.length ≤ sizeLine) (hh : A.in1.handled = none) (hh2 : A.in1.in1.handled = none) (ne : en ≠ it) (l1 : en < N0) (l2 : it < N0) (l3 : a < N0) (nai : a ≠ it) (nae : a ≠ en) (res : Value) :
    ∀ (k i : Nat) (s : Shared) (Ts : List Addr) (us : List (Value × Value)) (c : Nat), items.length - i = k → i ≤ items.length → ESt h0 N0 en it a items i s.heap Ts us →
    s.heap.get? N0 = some { cls := .type "list", dict := none, data := .seq (Ts.map Value.ref).toArray c, slots := #[] } →
    (∀ h' tk Ts' us' c', EEnd h0 N0 en it items h' Ts' us' → h'.get? N0 = some { cls := .type "list", dict := none, data := .seq (Ts'.map Value.ref).toArray c', slots := #[] } → R (.ok (.ret res)) { s with heap := h', toks := tk }) →
    codeAny (model prog w) A (.builtin "list.extend.loop" ⟨[.ref N0, .ref en, res], []⟩) R s := by
  intro k
  induction k with
  | zero =>
    intro i s Ts us c hk hi Z hS hR
    have hin : i = items.length := by omega
    refine codeAny_builtin F.entry_extend_loop ?_
    rw [Around.under_plainId F.plain_extend_loop _]
    show wpAny _ A.in1 (pyNext (.ref en) >>= _) _ _ s
    refine wpAny_bind (step_end hh hh2 Z nai hin fun h' eb => wpAny_pure ?_)
    have rel := Z.rel
    rw [hin, List.take_length] at rel
    exact hR h' s.toks Ts us c ⟨Z.prs.at fun T hT o e => eb T o (Nat.ne_of_gt (Nat.lt_trans l2 (Z.new T hT).1)) e, rel, fun T hT => (Z.new T hT).1, Z.nd, fun b o b1 b2 b3 e => eb b o b2 (Z.keep b o b1 b2 b3 e)⟩ (eb _ _ (Nat.ne_of_gt l2) hS)
  | succ k ih =>
    intro i s Ts us c hk hi Z hS hR
    have hlt : i < items.length := by omega
    have hl := Z.prs.len
    have hr : us.length = i := by
      have : ∀ {k : Nat} {xs : List Value} {us : List (Value × Value)}, EnR k xs us → us.length = xs.length := by
        intro k xs
        induction xs generalizing k with
        | nil => intro us h; cases us with | nil => rfl | cons _ _ => exact h.elim
        | cons x xs ih => intro us h; cases us with | nil => exact h.elim | cons u us => rw [List.length_cons, List.length_cons, ih h.2]
      rw [this Z.rel, List.length_take]
      omega
    have hsz : (Ts.map Value.ref).toArray.size = i := by rw [List.size_toArray, List.length_map]; omega
    refine codeAny_builtin F.entry_extend_loop ?_
    rw [Around.under_plainId F.plain_extend_loop _]
    show wpAny _ A.in1 (pyNext (.ref en) >>= _) _ _ s
    refine wpAny_bind (step_item hh2 Z ne l1 l2 l3 nai nae hlt hS fun h' tk us' Z' hS' => ?_)
    show wpAny _ A.in1 (updateSeq N0 (·.push (Value.ref s.heap.objs.size)) >>= _) _ _ _
    refine wpAny_bind ?_
    have sb := Heap.SameBut.update h' N0 (Obj.mapSeq (·.push (Value.ref s.heap.objs.size)))
    have g := Heap.get?_update_self (Obj.mapSeq (·.push (Value.ref s.heap.objs.size))) hS' rfl
    have eT : ((Ts.map Value.ref).toArray).push (Value.ref s.heap.objs.size) = ((Ts ++ [s.heap.objs.size]).map Value.ref).toArray := by simp
    obtain ⟨c2, g2⟩ : ∃ c2, (h'.update N0 (Obj.mapSeq (·.push (Value.ref s.heap.objs.size)))).get? N0 = some { cls := .type "list", dict := none, data := .seq ((Ts ++ [s.heap.objs.size]).map Value.ref).toArray c2, slots := #[] } := ⟨_, by rw [g, ← eT]; rfl⟩
    refine wpAny_updateSeq hS' rfl (wpAny_pure ⟨plainId_quiet F.plain_extend_loop _, ih (i + 1) _ (Ts ++ [s.heap.objs.size]) us' c2 (by omega) hlt (Z'.same l1 l2 l3 sb) g2 fun h'' tk' Ts' us'' c' ze hS'' => hR h'' tk' Ts' us'' c' ze hS''⟩)
      (by rw [hsz]; omega) (by show (((Ts.map Value.ref).toArray).push _).size ≤ sizeLine + 1; rw [Array.size_push, hsz]; omega)
end
end EL
namespace TL
open PySem PySem.Spec PyProof.Rows L2
open EL (EnR EEnd)
end TL
namespace TL
open PySem PySem.Spec PyProof.Rows L2
def lcQ (vs : List Nat) (g : WG) (tt : WT) (te : WE) : List D → List D → EnvD → (List D → EnvD → Prop) → Prop
  | [], acc, env, C => C acc env
  | d :: ds, acc, env, C => g (fz d) env fun e1 => tt e1 fun b e2 => if b then te e2 fun val e3 => ∃ xs, val = ⟨true, .lst xs⟩ ∧ acc.length < 16777216 ∧ ∀ p, lcQ vs g tt te ds (acc ++ [.own p xs]) (wipeD e3 vs) C else lcQ vs g tt te ds acc (wipeD e2 vs) C
def wLcQ (it : WI) (vs : List Nat) (g : WG) (tt : WT) (te : WE) : WE := fun env P => it env fun ds env1 => lcQ vs g tt te ds [] (wipeD env1 vs) fun acc env2 => P ⟨true, .box (.lst acc)⟩ (backD env1 env2 vs)
section
variable {K : PySem.W.Frag} {mg : Str → Option Value}
theorem lcQ_lift {it : WI} {vs : List Nat} {g : WG} {tt : WT} {te : WE} {σ : L2.St} {H : Hp} {Q : VK} (h : liftE K mg (wLcQ it vs g tt te) σ H Q) :
    tLc (liftI K mg it) (liftG K mg (lentC σ.length vs) g) (liftT K mg tt) (liftE K mg te) vs σ H Q := by
  obtain ⟨oh, τ, env, P, e0, S, t1, k⟩ := h
  refine ⟨oh, τ, env, _, e0, S, t1, fun ds env1 H1 J e1 S1 s1 I p => ?_⟩
  intro L hL
  obtain ⟨c, pc, bc⟩ := wipe_out' e1 vs
  have cp : (core (τ ++ σ.zip env1)).Perm (core ((τ ++ c) ++ (wipe σ vs).zip (wipeD env1 vs)) ++ []) := by
    rw [List.append_nil, List.append_assoc, core_append, core_append (A := τ)]
    exact pc.append_left _
  have S1' : StR K mg oh H1 ((τ ++ c) ++ (wipe σ vs).zip (wipeD env1 vs)) := S1.core cp
  have s1' : Step (τ ++ σ.zip env) H ((τ ++ c) ++ (wipe σ vs).zip (wipeD env1 vs)) H1 := s1.coreR cp
  have hh1 : Hh K (hotL oh ((τ ++ c) ++ (wipe σ vs).zip (wipeD env1 vs))) H1 := S1'.hots
  have S20 : StR K mg oh (upd H1 L (.lst [])) ((some (.ref L), some ⟨true, .lst []⟩) :: ((τ ++ c) ++ (wipe σ vs).zip (wipeD env1 vs))) :=
    S1'.push (StR.new_lst (vs := []) (ds := []) hh1 hL .nil) (Step.new_lst hL)
  obtain ⟨S2, hr2⟩ := S20.boxed
  have s20 : Step ((τ ++ c) ++ (wipe σ vs).zip (wipeD env1 vs)) H1 ((some (.ref L), some ⟨true, .lst []⟩) :: ((τ ++ c) ++ (wipe σ vs).zip (wipeD env1 vs))) (upd H1 L (.lst [])) := (Step.new_lst hL).push
  have s2 : Step ((τ ++ c) ++ (wipe σ vs).zip (wipeD env1 vs)) H1 ((some (.ref L), some ⟨true, .box (.lst [])⟩) :: ((τ ++ c) ++ (wipe σ vs).zip (wipeD env1 vs))) (upd H1 L (.lst [])) := s20.lessR fun a ha => by rw [← hr2]; exact ha
  have s02 := s1'.trans s2
  refine ⟨fun i m H' => m = ds.length - i ∧ i ≤ ds.length ∧ ∃ envB acc, envB.length = env1.length ∧ StR K mg oh H' ((some (.ref L), some ⟨true, .box (.lst acc)⟩) :: ((τ ++ c) ++ (wipe σ vs).zip envB)) ∧
      Step (τ ++ σ.zip env1) H1 ((some (.ref L), some ⟨true, .box (.lst acc)⟩) :: ((τ ++ c) ++ (wipe σ vs).zip envB)) H' ∧ lcQ vs g tt te (ds.drop i) acc envB (fun acc env2 => P ⟨true, .box (.lst acc)⟩ (backD env1 env2 vs)),
    ⟨ds.length, by simp, Nat.zero_le _, wipeD env1 vs, [], wipeD_len, S2, ?_, p⟩, ?_⟩
  · exact s2.coreL (L' := τ ++ σ.zip env1) (by have := cp.symm; rw [List.append_nil] at this; exact this)
  rintro i m H' ⟨rfl, hi, envB, acc, hb, S', s', q⟩
  have kp : Keeps (hotL oh (τ ++ σ.zip env1)) (hotL oh ((some (.ref L), some ⟨true, .box (.lst acc)⟩) :: ((τ ++ c) ++ (wipe σ vs).zip envB))) H1 H' := by
    have := s'.keeps (oh := oh) (B := [])
    rw [List.append_nil, List.append_nil] at this
    exact this
  by_cases hlt : i < ds.length
  · rw [drop_cons_get hlt] at q
    obtain ⟨go, yl⟩ := I.turn _ H' i ds[i] kp S'.hots (List.getElem?_eq_getElem hlt)
    refine .inr ⟨go, fun H2 => ∃ envB acc, envB.length = env1.length ∧ StR K mg oh H2 ((some (.ref L), some ⟨true, .box (.lst acc)⟩) :: ((τ ++ c) ++ (wipe σ vs).zip envB)) ∧
      Step (τ ++ σ.zip env1) H1 ((some (.ref L), some ⟨true, .box (.lst acc)⟩) :: ((τ ++ c) ++ (wipe σ vs).zip envB)) H2 ∧ lcQ vs g tt te (ds.drop (i + 1)) acc envB (fun acc env2 => P ⟨true, .box (.lst acc)⟩ (backD env1 env2 vs)),
      fun H2 n => ⟨ds.length - (i + 1), by omega, rfl, hlt, n⟩, fun x H2 y => ?_⟩
    obtain ⟨T, st⟩ := yl x H2 y
    have S3 := S'.push T st
    refine ⟨oh, (some (.ref L), some ⟨true, .box (.lst acc)⟩) :: (τ ++ c), envB, fz ds[i], _, by rw [wipe_length, hb]; exact e1, S3, q, fun σ2 env2 H3 a1 a2 a3 S4 s4 q4 => ?_⟩
    have s4' : Step ((some (.ref L), some ⟨true, .box (.lst acc)⟩) :: ((τ ++ c) ++ (wipe σ vs).zip envB)) H' ((some (.ref L), some ⟨true, .box (.lst acc)⟩) :: ((τ ++ c) ++ σ2.zip env2)) H3 := st.push.trans s4
    have hw : wipe σ2 vs = wipe σ vs := wipe_eq a2 a3
    have l2 : env2.length = env1.length := by rw [← a1, a2, wipe_length]; exact e1
    have fin : ∀ {acc' : List D} {env3 : EnvD} {H5 : Hp}, σ2.length = env3.length → StR K mg oh H5 ((some (.ref L), some ⟨true, .box (.lst acc')⟩) :: ((τ ++ c) ++ σ2.zip env3)) →
        Step ((some (.ref L), some ⟨true, .box (.lst acc)⟩) :: ((τ ++ c) ++ (wipe σ vs).zip envB)) H' ((some (.ref L), some ⟨true, .box (.lst acc')⟩) :: ((τ ++ c) ++ σ2.zip env3)) H5 →
        lcQ vs g tt te (ds.drop (i + 1)) acc' (wipeD env3 vs) (fun acc env2 => P ⟨true, .box (.lst acc)⟩ (backD env1 env2 vs)) →
        ∃ envB acc, envB.length = env1.length ∧ StR K mg oh H5 ((some (.ref L), some ⟨true, .box (.lst acc)⟩) :: ((τ ++ c) ++ (wipe σ vs).zip envB)) ∧
          Step (τ ++ σ.zip env1) H1 ((some (.ref L), some ⟨true, .box (.lst acc)⟩) :: ((τ ++ c) ++ (wipe σ vs).zip envB)) H5 ∧ lcQ vs g tt te (ds.drop (i + 1)) acc envB (fun acc env2 => P ⟨true, .box (.lst acc)⟩ (backD env1 env2 vs)) := by
      intro acc' env3 H5 b1 S5 s5 q5
      obtain ⟨c2, p2, _⟩ := wipe_out' b1 vs
      rw [hw] at p2
      have cp2 : (core ((some (V.ref L), some (⟨true, .box (.lst acc')⟩ : Val)) :: ((τ ++ c) ++ σ2.zip env3))).Perm (core ((some (V.ref L), some (⟨true, .box (.lst acc')⟩ : Val)) :: ((τ ++ c) ++ (wipe σ vs).zip (wipeD env3 vs))) ++ core c2) := by
        rw [core_cons_some, core_cons_some, List.cons_append]
        refine List.Perm.cons _ ?_
        rw [core_append, core_append (B := (wipe σ vs).zip (wipeD env3 vs)), List.append_assoc]
        refine (p2.append_left _).trans ?_
        rw [core_append (A := c2)]
        exact List.Perm.append_left _ List.perm_append_comm
      exact ⟨wipeD env3 vs, acc', by rw [wipeD_len, ← b1, a1, l2], S5.core cp2, (s'.trans s5).coreR cp2, q5⟩
    refine ⟨hw, oh, (some (.ref L), some ⟨true, .box (.lst acc)⟩) :: (τ ++ c), env2, _, a1, S4, q4, fun b env3 H4 b1 S5 s5 q5 => ?_⟩
    have s45 := s4'.trans s5
    cases b with
    | false => exact iteF (fin b1 S5 s45 (by simpa using q5))
    | true =>
      have q5 : te env3 fun val e3 => ∃ xs, val = ⟨true, .lst xs⟩ ∧ acc.length < 16777216 ∧ ∀ p, lcQ vs g tt te (ds.drop (i + 1)) (acc ++ [.own p xs]) (wipeD e3 vs) (fun acc env2 => P ⟨true, .box (.lst acc)⟩ (backD env1 env2 vs)) := by simpa using q5
      refine iteT ⟨oh, (some (.ref L), some ⟨true, .box (.lst acc)⟩) :: (τ ++ c), env3, _, b1, S5, q5, fun v val env4 H5 c1 S6 s6 ⟨xs, hv, hz, q6⟩ => ?_⟩
      subst hv
      have S6' : StR K mg oh H5 ((some v, some ⟨true, .lst xs⟩) :: (some (.ref L), some ⟨true, .box (.lst acc)⟩) :: ((τ ++ c) ++ σ2.zip env4)) := S6
      have rv := S6'.head
      have rb := S6'.tail.head
      cases rv with
      | lst g1 g2 g3 =>
        rename_i p ws0
        cases rb with
        | boxL h1 h2 rs =>
          rename_i ws
          refine ⟨ws, h2, by rw [slen, rs.length]; exact hz, ?_⟩
          obtain ⟨S8, s8⟩ := S6'.put_last h2
          exact fin c1 S8 (s45.trans (s6.trans s8)) (q6 p)
  · have e : i = ds.length := by omega
    subst e
    rw [List.drop_length] at q
    refine .inl ⟨I.stop _ H' _ kp (Nat.le_refl _), ?_⟩
    obtain ⟨E, pb⟩ := bc envB hb
    have cpb : (core ((some (V.ref L), some (⟨true, .box (.lst acc)⟩ : Val)) :: ((τ ++ c) ++ (wipe σ vs).zip envB))).Perm (core ((some (V.ref L), some (⟨true, .box (.lst acc)⟩ : Val)) :: (τ ++ σ.zip (backD env1 envB vs))) ++ E) := by
      rw [core_cons_some, core_cons_some, List.cons_append]
      refine List.Perm.cons _ ?_
      rw [List.append_assoc, core_append, core_append (A := τ), List.append_assoc]
      exact pb.append_left _
    exact k _ _ (backD env1 envB vs) H' (by rw [backD_len, hb]; exact e1) (S'.core cpb) ((s1.trans s').coreR cpb) q
end
end TL
namespace TL
open PySem PySem.Spec PyProof.Rows L2
mutual
def tupO : D → Bool
  | .tup ds => tupOs ds
  | d => flatR d
def tupOs : List D → Bool
  | [] => true
  | d :: ds => tupO d && tupOs ds
end
def wCallT (n : Nat) (t : DSpec) (te : WE) (j : Nat) : WE := fun env P => te env fun x env1 => n = 2 ∧ ∃ ds, env1[j]? = some (some ⟨true, .box (.lst ds)⟩) ∧ flatR x.d = true ∧
  t [fz x.d, fz (.lst (ds.map cl1))] fun v ys => tupO v.d = true ∧ P (fz v.d) env1
section
variable {K : PySem.W.Frag} {mg : Str → Option Value} {hot hot' oh : Pr} {H H' : Hp} {L : Lay}
theorem RepBs.lsts : ∀ {vs : List V} {ds : List D}, RepBs K mg hot H vs ds → ∀ a ∈ ds.flatMap TL.own1, ∃ ws, H a = some (.lst ws)
  | _, _, .nil, _, h => nomatch h
  | _, _, .cons r t, a, h => by
    rw [List.flatMap_cons] at h
    rcases List.mem_append.mp h with h | h
    · cases r with
      | fro r => rw [r.own1] at h; cases h
      | own g1 g2 g3 => rw [List.mem_singleton.mp h]; exact ⟨_, g2⟩
    · exact RepBs.lsts t a h
mutual
theorem Rep.tups {B : List Addr} (hb : ∀ a, hot' a → hot a ∨ a ∈ B) (hl : ∀ a ∈ B, ∃ ws, H a = some (.lst ws)) : ∀ {v : V} {d : D}, Rep K mg hot H v d → tupO d = true → Rep K mg hot' H v d
  | _, _, .non, _ => .non
  | _, _, .bl b, _ => .bl b
  | _, _, .int i, _ => .int i
  | _, _, .str x h, _ => .str x h
  | _, _, .tup h r, e => .tup (h.elim (fun ⟨n, o, po, q⟩ => .inl ⟨fun z => (hb _ z).elim n fun z => (hl _ z).elim fun ws e2 => (nomatch (q.symm.trans e2)), o, po, q⟩) .inr) (Reps.tups hb hl r (by unfold tupO at e; exact e))
  | _, _, .lst _ _, e => by cases e
  | _, _, .dicK _ _ _ _, e => by cases e
  | _, _, .ldc _ _ _ _, e => by cases e
  | _, _, .lse _ _ _, e => by cases e
  | _, _, .fn _, e => by cases e
  | _, _, .al, e => by cases e
  | _, _, .ins _ _ _ _, e => by cases e
  | _, _, .dkt _ _ _ _ _ _, e => by cases e
  | _, _, .box _, e => by cases e
theorem Reps.tups {B : List Addr} (hb : ∀ a, hot' a → hot a ∨ a ∈ B) (hl : ∀ a ∈ B, ∃ ws, H a = some (.lst ws)) : ∀ {vs : List V} {ds : List D}, Reps K mg hot H vs ds → tupOs ds = true → Reps K mg hot' H vs ds
  | _, _, .nil, _ => .nil
  | _, _, .cons r t, e => by
    rw [tupOs, Bool.and_eq_true] at e
    exact .cons (Rep.tups hb hl r e.1) (Reps.tups hb hl t e.2)
end
theorem tupR {v : V} {x : Val} (r : VR K mg hot H v x) (hu : tupO x.d = true) : Rep K mg hot H v x.d := by
  cases r with
  | fro r => exact r
  | lst _ _ _ => cases hu
  | dicK _ _ _ _ => cases hu
  | ins _ _ _ _ => cases hu
  | dkt _ _ _ _ _ _ => cases hu
  | boxI _ _ _ _ => cases hu
  | boxT _ _ _ => cases hu
  | boxL _ _ _ => cases hu
  | boxD _ _ _ _ => cases hu
theorem callT_lift {n : Nat} {t : DSpec} {te : WE} {j : Nat} {σ : L2.St} {Q : VK} (h : liftE K mg (wCallT n t te j) σ H Q) : (tCons (liftE K mg te) (tCons (tVar j) tNil)) σ H (fun vs H1 => spT K mg n t vs H1 Q E0) := by
  obtain ⟨oh, τ, env, P, e0, S, t1, k⟩ := h
  refine ⟨oh, τ, env, _, e0, S, t1, fun v0 x env1 H1 e1 S1 s1 ⟨hn, ds, hj, hf, ht⟩ => ?_⟩
  subst hn
  have St : StR K mg oh H1 (τ ++ σ.zip env1) := S1.tail
  have s1' : Step (τ ++ σ.zip env) H (τ ++ σ.zip env1) H1 := s1.lessR fun a ha => roots_cons_sub a ha
  obtain ⟨vj, hvj, rj⟩ := get_slot e1 St hj
  cases rj with
  | boxL h1 h2 rs =>
    rename_i p vs
    generalize hB : p :: ds.flatMap TL.own1 = B
    have lsB : ∀ a ∈ B, ∃ ws, H1 a = some (.lst ws) := fun a ha => by
      rw [← hB] at ha
      rcases List.mem_cons.mp ha with rfl | ha
      · exact ⟨_, h2⟩
      · exact rs.lsts a ha
    have kp : Keeps (hotL oh (τ ++ σ.zip env1)) (fun a => hotL oh (τ ++ σ.zip env1) a ∧ a ∉ B) H1 H1 := ⟨fun _ _ e _ _ => e, fun a o _ n z => n z.1⟩
    have r0 : roots [((some v0, some (fz x.d)) : Cell), (some (.ref p), some (fz (.lst (ds.map cl1))))] = [] := by rw [roots_fro, roots_fro]; rfl
    have hot0 : hotL (fun a => hotL oh (τ ++ σ.zip env1) a ∧ a ∉ B) [((some v0, some (fz x.d)) : Cell), (some (.ref p), some (fz (.lst (ds.map cl1))))] = fun a => hotL oh (τ ++ σ.zip env1) a ∧ a ∉ B := by
      funext a
      apply propext
      rw [show hotL (fun a => hotL oh (τ ++ σ.zip env1) a ∧ a ∉ B) [((some v0, some (fz x.d)) : Cell), (some (.ref p), some (fz (.lst (ds.map cl1))))] a ↔ ((hotL oh (τ ++ σ.zip env1) a ∧ a ∉ B) ∨ a ∈ roots [((some v0, some (fz x.d)) : Cell), (some (.ref p), some (fz (.lst (ds.map cl1))))]) from Iff.rfl, r0]
      exact ⟨fun h => h.elim (fun z => z) fun z => absurd z (List.not_mem_nil), .inl⟩
    refine ⟨_, hvj, fun a => hotL oh (τ ++ σ.zip env1) a ∧ a ∉ B, [fz x.d, fz (.lst (ds.map cl1))], _, rfl, rfl, ?_, ht, ?_⟩
    · refine ⟨fun c hc y hy => ?_, by show (roots [_, _]).Nodup; rw [r0]; exact List.nodup_nil, (fun a ha => by have ha : a ∈ roots [_, _] := ha; rw [r0] at ha; cases ha), ⟨fun a z => St.hots.tr a z.1, St.tr.tb⟩⟩
      have hc2 : c = ((some v0, some (fz x.d)) : Cell) ∨ c = (some (.ref p), some (fz (.lst (ds.map cl1)))) := by
        rcases List.mem_cons.mp hc with e | hc
        · exact .inl e
        · exact .inr (List.mem_singleton.mp hc)
      have e9 : hotL (fun a => hotL oh (τ ++ σ.zip env1) a ∧ a ∉ B) (zipA [v0, .ref p] [fz x.d, fz (.lst (ds.map cl1))]) = _ := hot0
      rcases hc2 with rfl | rfl
      · cases hy
        exact ⟨_, rfl, .fro (flat_any S1.head hf)⟩
      · cases hy
        refine ⟨_, rfl, .fro ?_⟩
        rw [e9]
        refine .lst (.inl ⟨fun z => z.2 (by rw [← hB]; exact List.mem_cons_self), .inl h2⟩) (rs.cool kp fun b hb z => z.2 (by rw [← hB]; exact List.mem_cons_of_mem _ hb))
    · rintro v val args' H2 hl S3 s3 ⟨hu, q⟩
      have hr2 : roots (zipA [v0, V.ref p] [fz x.d, fz (.lst (ds.map cl1))]) = [] := r0
      have g : ∀ a o, H1 a = some o → NT o → H2 a = some o := fun a o e nt => s3.keep a o e (by rw [hr2]; exact List.not_mem_nil) nt
      have S4 : StR K mg oh H2 (τ ++ σ.zip env1) := St.grow g s3.dom S3.tr.tb
      have s4 : Step (τ ++ σ.zip env1) H1 (τ ++ σ.zip env1) H2 := ⟨fun a o e _ nt => g a o e nt, fun a ha => .inl ha, s3.dom⟩
      have rv : Rep K mg (hotL oh (τ ++ σ.zip env1)) H2 v val.d := by
        refine (tupR S3.head hu).tups (B := B) (fun a z => ?_) (fun a ha => ?_) hu
        · by_cases m : a ∈ B
          · exact .inr m
          · exact .inl (Or.inl ⟨z, m⟩)
        · obtain ⟨ws, e⟩ := lsB a ha
          exact ⟨ws, g a _ e trivial⟩
      exact k v (fz val.d) env1 H2 e1 (S4.push (StR.one_fro S4.hots rv) Step.one_fro) ((s1'.trans s4).trans Step.one_fro.push) q
end
end TL
namespace TL
open PySem PySem.Spec PyProof.Rows L2
def wRpb (i : Nat) : WE := fun env P => ∃ c, env[i]? = some (some ⟨true, .box c⟩) ∧ sRepr [unb (.box c)] fun val => P val env
section
variable {K : PySem.W.Frag} {mg : Str → Option Value}
theorem rpb_lift {i : Nat} {σ : L2.St} {H : Hp} {Q : VK} (h : liftE K mg (wRpb i) σ H Q) : (tCons (tVar i) tNil) σ H (fun vs H1 => rRepr K vs H1 Q) := by
  obtain ⟨oh, τ, env, P, e0, S, ⟨c, hi, z1, z2, p⟩, k⟩ := h
  obtain ⟨v, hv, r⟩ := get_slot e0 S hi
  have rb : Rep K mg (fun _ => False) H v (unb (.box c)) := VRo.bare ⟨true, r⟩
  have q : sRepr [unb (.box c)] fun val => (val = fz val.d ∧ flatR val.d = true) ∧ P val env := ⟨z1, z2, ⟨rfl, rfl⟩, p⟩
  refine ⟨v, hv, ?_⟩
  refine cl_repr (fun _ => False) H [v] [unb (.box c)] _ Q ⟨fun a h => False.elim h, S.tr.tb⟩ (.cons ⟨false, .fro rb⟩ .nil) q fun w val H3 T st ⟨⟨hz, hf⟩, p⟩ => ?_
  have g : ∀ a o, H a = some o → NT o → H3 a = some o := fun a o e nt => st.keep a o e List.not_mem_nil nt
  have S4 : StR K mg oh H3 (τ ++ σ.zip env) := S.grow g st.dom T.tr.tb
  have s4 : Step (τ ++ σ.zip env) H (τ ++ σ.zip env) H3 := ⟨fun a o e _ nt => g a o e nt, fun a ha => .inl ha, st.dom⟩
  exact k w (fz val.d) env H3 e0 (S4.push (StR.one_fro S4.hots (flat_any T.head hf)) Step.one_fro) (s4.trans Step.one_fro.push) (by rw [← hz]; exact p)
end
end TL
namespace TL
open PySem PySem.Spec PyProof.Rows L2
abbrev WO := EnvD → (Option Int → EnvD → Prop) → Prop
def wNoPart : WO := fun env P => P none env
def wPart (t : WE) : WO := fun env P => t env fun val env1 => ∃ i, val.d = .int i ∧ P (some i) env1
section
variable (K : PySem.W.Frag) (mg : Str → Option Value)
def liftO (t : WO) : TO := fun σ H Q => ∃ (oh : Pr) (τ : Lay) (env : EnvD) (P : Option Int → EnvD → Prop), σ.length = env.length ∧ StR K mg oh H (τ ++ σ.zip env) ∧ t env P ∧
  ∀ b env' H', σ.length = env'.length → StR K mg oh H' (τ ++ σ.zip env') → Step (τ ++ σ.zip env) H (τ ++ σ.zip env') H' → P b env' → Q b H'
end
section
variable {K : PySem.W.Frag} {mg : Str → Option Value} {X : Cx} {e : Expr}
theorem POimp {e : Option Expr} {t t' : TO} (h : PO X e t) (q : ∀ σ H Q, t' σ H Q → t σ H Q) : PO X e t' := ⟨fun pins s σ H Q I w => h.run pins s σ H Q I (q σ H Q w)⟩
theorem po_noneD : PO X none (liftO K mg wNoPart) := POimp po_none fun σ H Q w => by
  obtain ⟨oh, τ, env, P, e0, S, t, k⟩ := w
  exact k none env H e0 S Step.refl t
theorem po_someD {t : WE} (h : PE X e (liftE K mg t)) : PO X (some e) (liftO K mg (wPart t)) := POimp (po_some h) fun σ H Q w => by
  obtain ⟨oh, τ, env, P, e0, S, t, k⟩ := w
  refine ⟨oh, τ, env, _, e0, S, t, fun v val env1 H1 e1 S1 s1 ⟨i, hi, p⟩ => ⟨i, S1.head.to_int hi, k (some i) env1 H1 e1 S1.tail ?_ p⟩⟩
  exact s1.lessR fun a ha => roots_cons_sub a ha
def wCut (ta : WX) (tl th : WO) : WE := fun env P => ta env fun oa env1 => tl env1 fun lo env2 => th env2 fun hi env3 => ∃ x, oa.res env3 = some x ∧ sCutA lo hi x fun val => P val env3
theorem cut_lift {ta : WX} {tl th : WO} {σ : L2.St} {H : Hp} {Q : VK} (h : liftE K mg (wCut ta tl th) σ H Q) : tSl (rCutA K) (liftX K mg ta) (liftO K mg tl) (liftO K mg th) σ H Q := by
  obtain ⟨oh, τ, env, P, e0, S, t, k⟩ := h
  refine ⟨oh, τ, env, _, e0, S, t, fun va oa env1 H1 e1 a1 S1 s1 t1 => ?_⟩
  refine ⟨oh, oa.cell va :: τ, env1, _, e1, S1, t1, fun lo env2 H2 e2 S2 s2 t2 => ?_⟩
  refine ⟨oh, oa.cell va :: τ, env2, _, e2, S2, t2, fun hi env3 H3 e3 S3 s3 ⟨x, rx, q⟩ => ?_⟩
  have hA : ∀ {L : Lay}, roots ([oa.cell va] ++ L) = roots L := by intro L; exact roots_cell
  have hA2 : ∀ {L : Lay}, hotL oh ([oa.cell va] ++ L) = hotL oh L := by intro L; unfold hotL; rw [hA]
  have S3' : StR K mg oh H3 ([oa.cell va] ++ (τ ++ σ.zip env3)) := S3
  refine ul_cutA lo hi _ H3 va x _ Q S3'.right.hots (opd_reads e3 hA2 S3' a1 (by simp) rx) q fun v val H4 T st p => ?_
  obtain ⟨S4, s4⟩ := over_cells hA S3' (s1.trans (s2.trans s3)) T st
  exact k v val env3 H4 e3 S4 s4 p
end
def sIxA : S2 := fun x y P => sIx x y P ∨ sIxDic x y P
def rIxA (K : PySem.W.Frag) : R2 := fun x y H Q => rIx K x y H Q ∨ rIxDic x y H Q
def sInA (neg : Bool) : S2 := fun x y P => sIn neg x y P ∨ sInDic neg x y P
def rInA (K : PySem.W.Frag) (neg : Bool) : R2 := fun x y H Q => rInAll K neg x y H Q ∨ rInDic neg x y H Q
theorem bl_ixA {K : PySem.W.Frag} {mg : Str → Option Value} : BinL K mg (rIxA K) sIxA := BinL.or bl_ix bl_ixDic
theorem bl_inA {K : PySem.W.Frag} {mg : Str → Option Value} (neg : Bool) : BinL K mg (rInA K neg) (sInA neg) := BinL.or (bl_in neg) (bl_inDic neg)
def sInB (neg : Bool) : S2 := fun x y P => sInA neg x y P ∨ sInP neg x y P
def rInB (K : PySem.W.Frag) (neg : Bool) : R2 := fun x y H Q => rInA K neg x y H Q ∨ rInP K neg x y H Q
theorem bl_inB {K : PySem.W.Frag} {mg : Str → Option Value} (neg : Bool) : BinL K mg (rInB K neg) (sInB neg) := BinL.or (bl_inA neg) (bl_inP neg)
def sIsX (neg : Bool) : S2 := fun x y P => sIsA neg x y P ∨ sIsO neg x y P
def rIsX : R2 := fun x y H Q => rIsA x y H Q ∨ rIsO false x y H Q
def rIsNX : R2 := fun x y H Q => rIsNA x y H Q ∨ rIsO true x y H Q
theorem bl_isX {K : PySem.W.Frag} {mg : Str → Option Value} : BinL K mg rIsX (sIsX false) := BinL.or bl_isA (bl_isO false)
theorem bl_isNX {K : PySem.W.Frag} {mg : Str → Option Value} : BinL K mg rIsNX (sIsX true) := BinL.or bl_isNA (bl_isO true)
inductive Cn where
  | non | bl (b : Bool) | int (i : Int) | str (s : Str)
  deriving DecidableEq
def Cn.d : Cn → D
  | .non => .non | .bl b => .bl b | .int i => .int i | .str s => .str s
inductive BO where
  | add | sub | mul | div | mod | pow
  deriving DecidableEq
inductive CO where
  | lt | le | gt | ge | eq | ne | is | isnot | isin | notin
  deriving DecidableEq
inductive BF where
  | len | abs | int | list | tuple | all | any | repr | divmod | max | min | sum | sorted | str | dict
  deriving DecidableEq
def BO.op : BO → Operator
  | .add => .Add | .sub => .Sub | .mul => .Mult | .div => .FloorDiv | .mod => .Mod | .pow => .Pow
def BO.s : BO → S2
  | .add => sAddB | .sub => sSubB | .mul => sMulT | .div => sDivA | .mod => sMod | .pow => sPow
def BO.r (K : PySem.W.Frag) : BO → R2
  | .add => rAddB K | .sub => rSubB | .mul => rMulT K | .div => rI CDivW fun i j => .int (i / j)
  | .mod => rI (fun _ j => 0 < j) fun i j => .int (i % j) | .pow => rI CPow fun i j => .int (i ^ j.toNat)
def CO.op : CO → CmpOp
  | .lt => .Lt | .le => .LtE | .gt => .Gt | .ge => .GtE | .eq => .Eq | .ne => .NotEq | .is => .Is | .isnot => .IsNot | .isin => .In | .notin => .NotIn
def CO.s : CO → S2
  | .lt => sLt | .le => sLeS | .gt => sGt | .ge => sGe | .eq => sEq false | .ne => sEq true | .is => sIsX false | .isnot => sIsX true | .isin => sInB false | .notin => sInB true
def CO.r (K : PySem.W.Frag) : CO → R2
  | .lt => rLtAll | .le => rLeAll | .gt => rI0 fun i j => .bl (decide (j < i)) | .ge => rI0 fun i j => .bl (decide (j ≤ i))
  | .eq => rEqX K false | .ne => rEqX K true | .is => rIsX | .isnot => rIsNX
  | .isin => rInB K false | .notin => rInB K true
def BF.nm : BF → Str
  | .len => "len" | .abs => "abs" | .int => "int" | .list => "list" | .tuple => "tuple" | .all => "all" | .any => "any" | .repr => "repr" | .divmod => "divmod" | .max => "max" | .min => "min" | .sum => "sum" | .sorted => "sorted" | .str => "str" | .dict => "dict"
def BF.s : BF → SN
  | .len => sLen | .abs => sAbs | .int => sIntOf | .list => sList | .tuple => sTuple | .all => sAll | .any => sAny | .repr => sRepr | .divmod => sDivmod | .max => sMaxA | .min => sMinA | .sum => sSumA | .sorted => sSortedA | .str => sStrA | .dict => sDict
def bnames : List Str := ["len", "abs", "int", "list", "tuple", "all", "any", "repr", "range", "enumerate", "zip", "sorted", "set", "max", "min", "sum", "divmod", "isinstance", "str", "bool", "dict", "reversed", "type"]
theorem BF.nm_mem (f : BF) : f.nm ∈ bnames := by cases f <;> decide +kernel
inductive Mth where
  | join | strip | cnt | idx
  deriving DecidableEq
def Mth.nm : Mth → Str
  | .join => "join" | .strip => "strip" | .cnt => "count" | .idx => "index"
def Mth.T : Mth → String
  | .join => "str" | .strip => "str" | .cnt => "list" | .idx => "list"
def Mth.s : Mth → SM
  | .join => sJoin | .strip => sStrp | .cnt => sCnt | .idx => sIdx
inductive Mut where
  | rev | clear | pop | popAt | ins | app
  deriving DecidableEq
def Mut.nm : Mut → Str
  | .rev => "reverse" | .clear => "clear" | .pop => "pop" | .popAt => "pop" | .ins => "insert" | .app => "append"
def Mut.ar : Mut → Nat
  | .rev => 0 | .clear => 0 | .pop => 0 | .popAt => 1 | .ins => 2 | .app => 1
def Mut.s : Mut → SMu
  | .rev => suRev | .clear => suClear | .pop => suPop | .popAt => suPopAt | .ins => suIns | .app => suApp
mutual
inductive Tg where
  | name (i : Nat) | ix (i j : Nat) | tup (r : Tgs)
inductive Tgs where
  | nil | cons (a : Tg) (r : Tgs) | star (i : Nat)
end
mutual
inductive M where
  | cst (c : Cn) | var (i : Nat) | glb (k : Nat) | tup (a : Ms) | lst (a : Ms)
  | bin (o : BO) (a b : M) | cmp (o : CO) (a b : M) | neg (a : M) | ix (a b : M) | cut (a : M) (lo hi : Mo)
  | bf (f : BF) (a : Ms) | call (k : Nat) (a : As) | callk (k : Nat) (p q : Ms)
  | bop (conj : Bool) (a : Ms) | not (a : M) | ifx (c : T) (a b : M)
  | lc (own : List (Str × Nat)) (it : I) (g : Tg) (c : T) (e : M)
  | lc2 (own : List (Str × Nat)) (it : I) (g : Tg) (c : T) (vs1 : List Nat) (it1 : I) (g1 : Tg) (c1 : T) (e : M)
  | lco (own : List (Str × Nat)) (it : I) (g : Tg) (c : T) (e : M) | callt (k : Nat) (a : M) (j : Nat) | rpb (i : Nat)
  | dnew | dg1 (a b : M) | dg2 (a b c : M) | isi (ts : List TyN) (tp : Bool) (a : M) | rev (a : M) | lrg (a : M) | lenu (a : M) | gix (k : Nat) (b : M) | callv (i : Nat) (a : As) | meth (m : Mth) (o : M) (a : Ms) | mutm (m : Mut) (i : Nat) (a : Ms) | dp1 (i : Nat) (a : M) | dp2 (i : Nat) (a b : M) | sdi (a : M) | lrep (a : Ms) (b : M) | disp (a b : Ms) | opx (a : M) | tupb (a : As) | lstb (a : As) | mutb (m : Mut) (i j : Nat) (a : Ms) | callr (k : Nat) (a : Ms) | chain (o o' : CO) (a b c : M) | bdn | opv (i : Nat) | sda (i : Nat) (k n a : M) | gin (k : Nat) (neg : Bool) (b : M) | ext (i : Nat) (a : M) | rvk (a : M) (k : Nat) | dge (a b : M) | sst (a : M) | lset (a : M) | upr (a : M) | srt (a : M) (n : Str) (m : M) | bxl (a : M) | lcb (own : List (Str × Nat)) (j : Nat) (g : Tg) (c : T) (e : M) | ixa (i j k : Nat) | eqn (a : M) | mua (m : Mut) (j : Nat) (o : M) (a : Ms) | callw (k i j : Nat) | callq (k i : Nat) (a : Ms) (b : M) | srtz (a b : M) (n : Str) (m : M) | sdx (i : Nat) (k n a : M) | dge2 (a b c : M) | dup (i : Nat) (a : M) | ggt (k : Nat) (b : M)
inductive Ms where
  | nil | cons (a : M) (r : Ms)
inductive Mo where
  | no | so (a : M)
inductive As where
  | nil | lend (i : Nat) (r : As) | mv (i : Nat) (r : As) | own (a : M) (r : As) | fro (a : M) (r : As)
inductive T where
  | yes | eqn (a : M) | val (a : M) | gin (k : Nat) (neg : Bool) (b : M) | cmp (o : CO) (a b : M) | chain (o o' : CO) (a b c : M) | not (t : T) | bop (conj : Bool) (ts : Ts)
inductive Ts where
  | nil | cons (t : T) (r : Ts)
inductive I where
  | seq (a : M) | rng1 (a : M) | rng2 (a b : M) | enu (a : M) | zip (a b : M) | zip3 (a b c : M) | keys (i : Nat) | zips (a b : M)
end
mutual
inductive S where
  | asg (g : Tg) (e : M) | par (is : List Nat) (a : As) | parT (is : List Nat) (a : As) | setI (i : Nat) (ix e : M) | aug (i : Nat) (o : BO) (e : M) | app (i : Nat) (e : M) | appo (i : Nat) (e : M) | exp (e : M)
  | iff (c : T) (a b : Ss) | loop (it : I) (g : Tg) (b : Ss) | loopb (j i : Nat) (b : Ss) | ret (e : M) | retv (i : Nat) | retn | brk | cont | pass | nev | tryb (b : Ss) | sdc (i : Nat) (own : List (Str × Nat)) (it : I) (g : Tg) (c : T) (kx e : M) | set2 (i : Nat) (ix : M) (j : Nat) (jx e : M)
inductive Ss where
  | nil | cons (a : S) (r : Ss)
end
structure FE where
  n : Nat
  t : DSpec
  x : Str
structure KE where
  n : Nat
  npos : Nat
  nk : Nat
  perm : List Nat
  dD : List D
  t : DSpec
structure Gm where
  fs : List FE
  cs : List D
  kw : List KE
  ds : List (List (Str × D))
def isiS : List TyN → Bool → S1
  | [t], false => sIsi t
  | ts, _ => sIsiT ts
theorem isiS_t (ts : List TyN) : isiS ts true = sIsiT ts := by
  cases ts with
  | nil => rfl
  | cons t ts => cases ts <;> rfl
theorem isiS_1 (t : TyN) : isiS [t] false = sIsi t := rfl
def gW : Tg → WG
  | .name i => gwName i
  | .ix i j => gwIx i j
  | .tup r => if st r then gwTupS (len r) (gWs r) else gwTup (len r) (gWs r)
where
  gWs : Tgs → WGs
  | .nil => gwNil
  | .cons a r => gwCons (gW a) (gWs r)
  | .star i => gwStL i
  len : Tgs → Nat
  | .nil => 0
  | .cons _ r => len r + 1
  | .star _ => 0
  st : Tgs → Bool
  | .nil => false
  | .cons _ r => st r
  | .star _ => true
def opX (m : M) (t : WE) : WX := match m with
  | .var i => wVarX i
  | _ => wTm t
def bad1 : WE := fun _ _ => False
mutual
def wM (G : Gm) : M → WE
  | .cst c => wC c.d
  | .var i => wVar i
  | .glb k => match G.cs[k]? with | some d => wC d | none => bad1
  | .tup a => wTup (wFs G a)
  | .lst a => wLst (wFs G a)
  | .bin o a b => wBin o.s (opX a (wM G a)) (opX b (wM G b))
  | .cmp o a b => wBin o.s (opX a (wM G a)) (opX b (wM G b))
  | .neg a => fun _ _ => False
  | .ix a b => wBin sIxA (opX a (wM G a)) (opX b (wM G b))
  | .cut a lo hi => wCut (opX a (wM G a)) (wOo G lo) (wOo G hi)
  | .bf f a => wCall f.s (wXs G a)
  | .call k a => match G.fs[k]? with | some f => wCallF f.n f.t (wAs G a) | none => bad1
  | .callk k p q => fun _ _ => False
  | .bop c a => wBo G c a
  | .not a => wNotV (wM G a)
  | .ifx c a b => wIf (wT G c) (wM G a) (wM G b)
  | .lc own it g c e => wLc (wI G it) (own.map (·.2)) (gW g) (wT G c) (wM G e)
  | .lc2 own it g c vs1 it1 g1 c1 e => wLc2 (wI G it) (own.map (·.2)) (gW g) (wT G c) (wI G it1) vs1 (gW g1) (wT G c1) (wM G e)
  | .lco own it g c e => wLcQ (wI G it) (own.map (·.2)) (gW g) (wT G c) (wM G e)
  | .callt k a j => match G.fs[k]? with | some f => wCallT f.n f.t (wM G a) j | none => bad1
  | .rpb i => wRpb i
  | .isi ts tp a => wUn (isiS ts tp) (opX a (wM G a))
  | .dnew => fun _ _ => False
  | .ext i a => fun _ _ => False
  | .gin k neg b => fun _ _ => False
  | .bdn => fun _ _ => False
  | .opv i => fun _ _ => False
  | .sda i k n a => fun _ _ => False
  | .dg1 a b => fun _ _ => False
  | .dg2 a b c => fun _ _ => False
  | .rev a => fun _ _ => False
  | .rvk a k => fun _ _ => False
  | .dge a b => fun _ _ => False
  | .dge2 a b c => fun _ _ => False
  | .dup i a => fun _ _ => False
  | .ggt k b => fun _ _ => False
  | .lrg a => fun _ _ => False
  | .lenu a => fun _ _ => False
  | .chain o o' a b c => fun _ _ => False
  | .gix k b => fun _ _ => False
  | .callv i a => fun _ _ => False
  | .meth m o a => wMeth m.T m.s (opX o (wM G o)) (wXs G a)
  | .mutm m i a => fun _ _ => False
  | .dp1 i a => fun _ _ => False
  | .dp2 i a b => fun _ _ => False
  | .sdi a => fun _ _ => False
  | .sst a => fun _ _ => False
  | .lset a => fun _ _ => False
  | .upr a => fun _ _ => False
  | .bxl a => fun _ _ => False
  | .lcb own j g c e => wLcB j (own.map (·.2)) (gW g) (wT G c) (wM G e)
  | .ixa i j k => fun _ _ => False
  | .eqn a => fun _ _ => False
  | .mua m j o a => wMutA m.s j (wM G o) (wFs G a)
  | .callw k i j => fun _ _ => False
  | .callq k i a b => fun _ _ => False
  | .srtz a b _ m => fun _ _ => False
  | .sdx i k n a => fun _ _ => False
  | .srt a _ m => fun _ _ => False
  | .lrep a b => wLrep (wFs G a) (opX b (wM G b))
  | .disp a b => fun _ _ => False
  | .opx a => fun _ _ => False
  | .tupb a => fun _ _ => False
  | .lstb a => wLstB (wAs G a)
  | .mutb m i j a => wMutB m.s i j (wFs G a)
  | .callr k a => match G.fs[k]? with | some f => wCallR f.n f.t (wXs G a) | none => bad1
def wMl (G : Gm) : Ms → List WE
  | .nil => []
  | .cons a r => wM G a :: wMl G r
def wXs (G : Gm) : Ms → WXs
  | .nil => wXnil
  | .cons a r => wXcons (opX a (wM G a)) (wXs G r)
def wFs (G : Gm) : Ms → WXs
  | .nil => wXnil
  | .cons a r => wXcons (wTm (wM G a)) (wFs G r)
def wBo (G : Gm) (c : Bool) : Ms → WE
  | .nil => bad1
  | .cons a r => match r with
    | .nil => wM G a
    | _ => if c then wAndV (wM G a) (wBo G c r) else wOrV (wM G a) (wBo G c r)
def wOo (G : Gm) : Mo → WO
  | .no => wNoPart
  | .so a => wPart (wM G a)
def wAs (G : Gm) : As → WAs
  | .nil => wAnil
  | .lend i r => wAcons (wLs i) (wAs G r)
  | .mv i r => wAcons (wMv i) (wAs G r)
  | .own a r => wAcons (wOwn (wM G a)) (wAs G r)
  | .fro a r => wAcons (wFro (wM G a)) (wAs G r)
def wT (G : Gm) : T → WT
  | .yes => wYes
  | .eqn a => fun _ _ => False
  | .val a => wTru (opX a (wM G a))
  | .cmp o a b => wTB (wBin o.s (opX a (wM G a)) (opX b (wM G b)))
  | .gin k neg b => fun _ _ => False
  | .chain o o' a b c => fun _ _ => False
  | .not t => wNotT (wT G t)
  | .bop c ts => wTs G c ts
def wTs (G : Gm) (c : Bool) : Ts → WT
  | .nil => fun _ _ => False
  | .cons t r => match r with
    | .nil => wT G t
    | _ => if c then wAndT (wT G t) (wTs G c r) else wOrT (wT G t) (wTs G c r)
def wI (G : Gm) : I → WI
  | .seq a => wiSeqA (wM G a)
  | .rng1 a => wiRng1 (wXcons (wTm (wM G a)) wXnil)
  | .rng2 a b => fun _ _ => False
  | .enu a => wiEnumA (wXcons (wTm (wM G a)) wXnil)
  | .zip a b => wiZipA (wXcons (wTm (wM G a)) (wXcons (wTm (wM G b)) wXnil))
  | .zips a b => fun _ _ => False
  | .zip3 a b c => fun _ _ => False
  | .keys i => fun _ _ => False
end
def BO.ra (K : PySem.W.Frag) : BO → R2
  | .add => rAddT K | .mul => rI CMul fun i j => .int (i * j) | .sub => rI0 fun i j => .int (i - j)
  | o => o.r K
mutual
def wS (G : Gm) : S → WS
  | .asg g e => wsAsg (wM G e) (gW g)
  | .par is a => wsPar is (wAs G a)
  | .parT is a => fun _ _ => False
  | .setI i ix e => wsSetA i (wM G e) (wM G ix)
  | .aug i o e => fun _ _ => False
  | .app i e => wsApp i (wM G e)
  | .appo i e => wsAppo i (wM G e)
  | .exp e => wsExp (wM G e)
  | .iff c a b => wsIf (wT G c) (wSs G a) (wSs G b)
  | .loop it g b => wsFor (wI G it) (gW g) (wSs G b)
  | .loopb j i b => wsForB j (gwName i) (wSs G b)
  | .ret e => wsRet (wM G e)
  | .retv i => wsRetV i
  | .retn => fun _ _ => False
  | .brk => fun _ _ => False
  | .cont => fun _ _ => False
  | .pass => wsNil
  | .nev => fun _ _ => False
  | .tryb b => fun _ _ => False
  | .sdc i own it g c kx e => fun _ _ => False
  | .set2 i ix j jx e => fun _ _ => False
def wSs (G : Gm) : Ss → WS
  | .nil => wsNil
  | .cons a r => wsSeq (wS G a) (wSs G r)
end
end TL
namespace TL
open PySem PySem.Spec PyProof.Rows L2
structure Tb where
  N : List Str
  fn : List Str
  cn : List Str
  kw : List (Str × Nat × List Str)
  dn : List Str
  lam : Bool
def asCst : Expr → Option Cn
  | .Constant .none _ _ => some .non
  | .Constant (.bool b) _ _ => some (.bl b)
  | .Constant (.int i) _ _ => some (.int i)
  | .Constant (.str s) _ _ => some (.str s)
  | _ => none
def asName : Expr → Option Str
  | .Name x _ => some x
  | _ => none
def asTup : Expr → Option (List Expr)
  | .Tuple es _ _ => some es
  | _ => none
def asLst : Expr → Option (List Expr)
  | .List es _ => some es
  | _ => none
def asBin : Expr → Option (Expr × Operator × Expr)
  | .BinOp a o b _ => some (a, o, b)
  | _ => none
def asCmp : Expr → Option (Expr × CmpOp × Expr)
  | .Compare a [o] [b] _ => some (a, o, b)
  | _ => none
def asUn : Expr → Option (UnaryOp × Expr)
  | .UnaryOp o a _ => some (o, a)
  | _ => none
def asSub : Expr → Option (Expr × Expr)
  | .Subscript a b _ => some (a, b)
  | _ => none
def asSl : Expr → Option (Option Expr × Option Expr)
  | .Slice lo hi none _ => some (lo, hi)
  | _ => none
def asCall : Expr → Option (Str × List Expr × List Keyword)
  | .Call (.Name x _) es ks _ => some (x, es, ks)
  | _ => none
def asBool : Expr → Option (BoolOp × List Expr)
  | .BoolOp o es _ => some (o, es)
  | _ => none
def asIf : Expr → Option (Expr × Expr × Expr)
  | .IfExp c a b _ => some (c, a, b)
  | _ => none
structure LcP where
  elt : Expr
  tg : Expr
  iter : Expr
  ifs : List Expr
  scope : Scope
def asChain : Expr → Option (Expr × CmpOp × Expr × CmpOp × Expr)
  | .Compare a [o, o'] [b, c] _ => some (a, o, b, o', c)
  | _ => none
def asRev : Expr → Option Expr
  | .Subscript a (.Slice none none (some (.UnaryOp .USub (.Constant (.int i) _ _) _)) _) _ => if i == 1 then some a else none
  | _ => none
def asGet1 : Expr → Option (Str × Expr × Pos × Pos)
  | .Call (.Attribute (.Name x _) n ap) [e] [] cp => if n == "get" && ap.endLine == cp.line then some (x, e, ap, cp) else none
  | _ => none
def asGet2 : Expr → Option (Str × Expr × Expr × Pos × Pos)
  | .Call (.Attribute (.Name x _) n ap) [e, f] [] cp => if n == "get" && ap.endLine == cp.line then some (x, e, f, ap, cp) else none
  | _ => none
structure MeP where
  o : Expr
  nm : Str
  es : List Expr
  ap : Pos
  cp : Pos
def asMeth : Expr → Option MeP
  | .Call (.Attribute o n ap) es [] cp => if ap.endLine == cp.line then some ⟨o, n, es, ap, cp⟩ else none
  | _ => none
def baseOk : Expr → Bool
  | .Name _ _ => true
  | .Constant _ _ _ => true
  | _ => false
def baseA : Expr → Bool
  | .Name _ _ => true
  | .Subscript _ _ _ => true
  | .Call (.Name _ _) (_ :: _) _ _ => true
  | _ => false
def asStar : Expr → Option Str
  | .Starred (.Name x _) _ => some x
  | _ => none
def unSome : List (Option Expr) → Option (List Expr)
  | [] => some []
  | some e :: r => match unSome r with | some es => some (e :: es) | none => none
  | none :: _ => none
def asDict : Expr → Option (List Expr × List Expr)
  | .Dict ks vs _ => match unSome ks with | some es => some (es, vs) | none => none
  | _ => none
structure SrtP where
  x : Str
  a : Expr
  n : Str
  body : Expr
  scope : Scope
def asSrt : Expr → Option SrtP
  | .Call (.Name x _) [a] [⟨some k, .Lambda ⟨[], [⟨n, _, _⟩], none, [], [], none, []⟩ body scope _, _⟩] _ => if k = "key" then some ⟨x, a, n, body, scope⟩ else none
  | _ => none
def isDnew : Expr → Bool
  | .Dict [] [] _ => true
  | _ => false
def asLrg : Expr → Option (Str × Str × Expr)
  | .Call (.Name x _) [.Call (.Name y _) [e] [] _] [] _ => some (x, y, e)
  | _ => none
def asLc : Expr → Option LcP
  | .ListComp elt [⟨tg, iter, ifs, 0⟩] scope _ => some ⟨elt, tg, iter, ifs, scope⟩
  | _ => none
structure LcP2 where
  elt : Expr
  tg : Expr
  iter : Expr
  ifs : List Expr
  tg1 : Expr
  iter1 : Expr
  ifs1 : List Expr
  scope : Scope
def asLc2 : Expr → Option LcP2
  | .ListComp elt [⟨tg, iter, ifs, 0⟩, ⟨tg1, iter1, ifs1, 0⟩] scope _ => some ⟨elt, tg, iter, ifs, tg1, iter1, ifs1, scope⟩
  | _ => none
theorem asLc2_eq {e : Expr} {x} (h : asLc2 e = some x) : ∃ p, e = .ListComp x.elt [⟨x.tg, x.iter, x.ifs, 0⟩, ⟨x.tg1, x.iter1, x.ifs1, 0⟩] x.scope p := by
  unfold asLc2 at h
  split at h <;> first | (cases h; exact ⟨_, rfl⟩) | cases h
section
variable {e : Expr}
theorem asCst_eq {c : Cn} (h : asCst e = some c) : ∃ k p, e = .Constant (match c with | .non => .none | .bl b => .bool b | .int i => .int i | .str s => .str s) k p := by
  unfold asCst at h
  split at h <;> first | (cases h; exact ⟨_, _, rfl⟩) | cases h
theorem asName_eq {x : Str} (h : asName e = some x) : ∃ p, e = .Name x p := by
  unfold asName at h
  split at h <;> first | (cases h; exact ⟨_, rfl⟩) | cases h
theorem asTup_eq {x : List Expr} (h : asTup e = some x) : ∃ k p, e = .Tuple x k p := by
  unfold asTup at h
  split at h <;> first | (cases h; exact ⟨_, _, rfl⟩) | cases h
theorem asLst_eq {x : List Expr} (h : asLst e = some x) : ∃ p, e = .List x p := by
  unfold asLst at h
  split at h <;> first | (cases h; exact ⟨_, rfl⟩) | cases h
theorem asBin_eq {x} (h : asBin e = some x) : ∃ p, e = .BinOp x.1 x.2.1 x.2.2 p := by
  unfold asBin at h
  split at h <;> first | (cases h; exact ⟨_, rfl⟩) | cases h
theorem asCmp_eq {x} (h : asCmp e = some x) : ∃ p, e = .Compare x.1 [x.2.1] [x.2.2] p := by
  unfold asCmp at h
  split at h <;> first | (cases h; exact ⟨_, rfl⟩) | cases h
theorem asUn_eq {x} (h : asUn e = some x) : ∃ p, e = .UnaryOp x.1 x.2 p := by
  unfold asUn at h
  split at h <;> first | (cases h; exact ⟨_, rfl⟩) | cases h
theorem asSub_eq {x} (h : asSub e = some x) : ∃ p, e = .Subscript x.1 x.2 p := by
  unfold asSub at h
  split at h <;> first | (cases h; exact ⟨_, rfl⟩) | cases h
theorem asSl_eq {x} (h : asSl e = some x) : ∃ p, e = .Slice x.1 x.2 none p := by
  unfold asSl at h
  split at h <;> first | (cases h; exact ⟨_, rfl⟩) | cases h
theorem asCall_eq {x} (h : asCall e = some x) : ∃ q p, e = .Call (.Name x.1 q) x.2.1 x.2.2 p := by
  unfold asCall at h
  split at h <;> first | (cases h; exact ⟨_, _, rfl⟩) | cases h
theorem asBool_eq {x} (h : asBool e = some x) : ∃ p, e = .BoolOp x.1 x.2 p := by
  unfold asBool at h
  split at h <;> first | (cases h; exact ⟨_, rfl⟩) | cases h
theorem asIf_eq {x} (h : asIf e = some x) : ∃ p, e = .IfExp x.1 x.2.1 x.2.2 p := by
  unfold asIf at h
  split at h <;> first | (cases h; exact ⟨_, rfl⟩) | cases h
theorem asMeth_eq {x} (h : asMeth e = some x) : e = .Call (.Attribute x.o x.nm x.ap) x.es [] x.cp ∧ (x.ap.endLine == x.cp.line) = true := by
  unfold asMeth at h
  split at h
  · split at h
    · rename_i c
      cases h
      exact ⟨rfl, c⟩
    · cases h
  · cases h
theorem asStar_eq {x} (h : asStar e = some x) : ∃ p q, e = .Starred (.Name x p) q := by
  unfold asStar at h
  split at h <;> first | (cases h; exact ⟨_, _, rfl⟩) | cases h
theorem asLc_eq {x} (h : asLc e = some x) : ∃ p, e = .ListComp x.elt [⟨x.tg, x.iter, x.ifs, 0⟩] x.scope p := by
  unfold asLc at h
  split at h <;> first | (cases h; exact ⟨_, rfl⟩) | cases h
end
def noSlice : Expr → Bool
  | .Slice _ _ _ _ => false
  | _ => true
def noSet : Expr → Bool
  | .Set _ _ _ => false
  | _ => true
def plainT : Expr → Bool
  | .UnaryOp _ _ _ => false
  | .BoolOp _ _ _ => false
  | .IfExp _ _ _ _ => false
  | .Compare _ _ _ _ => false
  | .NamedExpr _ _ _ => false
  | _ => true
theorem noSlice_ok {b : Expr} (h : noSlice b = true) : PlainIx b := fun o i => by
  cases b <;> first | rfl | cases h
theorem noSet_it {b : Expr} {env : Env} (h : noSet b = true) : ∀ x, foldedSetIterable b env x = pure x := fun x => by
  cases b <;> first | rfl | cases h
theorem noSet_beh {b : Expr} {o : CmpOp} (h : noSet b = true) : behindInMarks o b = false := by
  cases b <;> first | rfl | cases h
theorem plainT_ok {a : Expr} {env : Env} (h : plainT a = true) : ∀ whole, isTrue a env whole = (do let v ← whole; standAt a.pos; holding [v] (truthy v)) := fun whole => by
  cases a <;> first | rfl | cases h
def visC (sc : Scope) (x : Str) : Bool := match sc.names.lookup x with
  | some .local => true
  | some .cell => true
  | some .free => true
  | _ => false
def globC (sc : Scope) (x : Str) : Bool := match sc.names.lookup x with
  | some .globalImplicit => true
  | _ => false
def storeC (sc raw : Scope) (x : Str) : Bool := match sc.names.lookup x with
  | some .local => true
  | some .cell => match raw.names.lookup x with
    | some .cell => true
    | _ => false
  | _ => false
theorem visC_ok {sc : Scope} {x : Str} (h : visC sc x = true) : Vis sc x := by
  unfold visC at h
  split at h
  · exact .inl (by assumption)
  · exact .inr (.inl (by assumption))
  · exact .inr (.inr (by assumption))
  · cases h
theorem globC_ok {sc : Scope} {x : Str} (h : globC sc x = true) : sc.names.lookup x = some .globalImplicit := by
  unfold globC at h
  split at h
  · assumption
  · cases h
theorem storeC_ok {sc raw : Scope} {x : Str} (h : storeC sc raw x = true) : Loc sc x ∧ (raw.names.lookup x = some .cell ∨ sc.names.lookup x = some .local) := by
  unfold storeC at h
  split at h
  · rename_i e; exact ⟨.inl e, .inr e⟩
  · rename_i e
    split at h
    · rename_i e2; exact ⟨.inr e, .inl e2⟩
    · cases h
  · cases h
def plainN (x : Str) : Bool := !(x == ("__debug__" : Str)) && !(x == ("__classdict__" : Str)) && !(x == ("__name__" : Str))
theorem plainN_ok {x : Str} (h : plainN x = true) : (x == ("__debug__" : Str)) = false ∧ (x == ("__classdict__" : Str)) = false ∧ x ≠ ("__name__" : Str) := by
  unfold plainN at h
  simp only [Bool.and_eq_true, Bool.not_eq_true'] at h
  exact ⟨h.1.1, h.1.2, fun e => by have := h.2; rw [e] at this; simp at this⟩
def cnOk : Cn → Bool
  | .str s => PyData.strOk s
  | _ => true
def tyC (sc : Scope) (t : TyN) (e : Expr) : Bool := match asName e with
  | some x => decide (x = (t.nm : Str)) && globC sc x
  | none => false
def tysC (sc : Scope) : List TyN → List Expr → Bool
  | [], [] => true
  | t :: ts, e :: es => tyC sc t e && tysC sc ts es
  | _, _ => false
def isiC (sc : Scope) (ts : List TyN) (tp : Bool) (e : Expr) : Bool := match ts, tp with
  | [t], false => tyC sc t e
  | t :: ts, true => match asTup e with | some es => tysC sc (t :: ts) es && decide ((t :: ts).length < 100) | none => false
  | _, _ => false
def isAnd : BoolOp → Bool
  | .And => true
  | .Or => false
mutual
def ckG (B : Tb) (ok : Nat → Bool) : Tg → Scope → Scope → Expr → Bool
  | .name i, sc, raw, e => match asName e with | some x => decide (B.N[i]? = some x) && storeC sc raw x && ok i | none => false
  | .ix i j, sc, raw, e => match asSub e with | some x => (match asName x.1 with | some z => decide (B.N[i]? = some z) && visC sc z && plainN z | none => false) && decide (asCst x.2 = some (.int j)) | none => false
  | .tup r, sc, raw, e => match asTup e with | some es => ckGs B ok r sc raw es | none => false
def ckGs (B : Tb) (ok : Nat → Bool) : Tgs → Scope → Scope → List Expr → Bool
  | .nil, _, _, es => es.isEmpty
  | .cons a r, sc, raw, es => match es with
    | [] => false
    | e :: es => ckG B ok a sc raw e && noStar e && ckGs B ok r sc raw es
  | .star i, sc, raw, es => match es with
    | [e] => match asStar e with | some x => decide (B.N[i]? = some x) && storeC sc raw x && ok i | none => false
    | _ => false
end
mutual
def ckM (B : Tb) : M → Scope → Scope → Expr → Bool
  | .cst c, _, _, e => decide (asCst e = some c) && cnOk c
  | .var i, sc, _, e => match asName e with | some x => decide (B.N[i]? = some x) && visC sc x && plainN x | none => false
  | .glb k, sc, _, e => match asName e with | some x => decide (B.cn[k]? = some x) && globC sc x && plainN x | none => false
  | .tup a, sc, raw, e => match asTup e with | some es => ckMs B a sc raw es | none => false
  | .lst a, sc, raw, e => match asLst e with | some es => ckMs B a sc raw es | none => false
  | .bin o a b, sc, raw, e => match asBin e with | some x => decide (x.2.1 = o.op) && ckM B a sc raw x.1 && ckM B b sc raw x.2.2 | none => false
  | .cmp o a b, sc, raw, e => match asCmp e with | some x => decide (x.2.1 = o.op) && ckM B a sc raw x.1 && ckM B b sc raw x.2.2 && noSet x.2.2 | none => false
  | .neg a, sc, raw, e => false
  | .ix a b, sc, raw, e => match asSub e with | some x => ckM B a sc raw x.1 && ckM B b sc raw x.2 && noSlice x.2 | none => false
  | .cut a lo hi, sc, raw, e => match asSub e with
    | some x => match asSl x.2 with | some y => ckM B a sc raw x.1 && ckO B lo sc raw y.1 && ckO B hi sc raw y.2 | none => false
    | none => false
  | .bf f a, sc, raw, e => match asCall e with | some x => decide (x.1 = f.nm) && globC sc x.1 && x.2.2.isEmpty && !x.2.1.isEmpty && ckMs B a sc raw x.2.1 | none => false
  | .call k a, sc, raw, e => match asCall e with | some x => decide (B.fn[k]? = some x.1) && globC sc x.1 && plainN x.1 && x.2.2.isEmpty && ckA B a sc raw x.2.1 | none => false
  | .callk k p q, sc, raw, e => false
  | .bop c a, sc, raw, e => match asBool e with | some x => decide (isAnd x.1 = c) && ckBo B a sc raw x.2 | none => false
  | .not a, sc, raw, e => match asUn e with | some x => decide (x.1 = .Not) && ckM B a sc raw x.2 | none => false
  | .ifx c a b, sc, raw, e => match asIf e with | some x => ckT B c sc raw x.1 && ckM B a sc raw x.2.1 && ckM B b sc raw x.2.2 | none => false
  | .lc own it g c m, sc, raw, e => match asLc e with
    | some x => blkC B.N sc x.scope own && ckI B it sc raw x.tg x.iter && noSet x.iter && ckG B (fun i => decide (i ∈ own.map (·.2))) g (relS x.scope sc) x.scope x.tg && (match x.ifs with | [] => (match c with | .yes => true | _ => false) | [i] => ckT B c (relS x.scope sc) x.scope i | _ => false) &&
      ckM B m (relS x.scope sc) x.scope x.elt
    | none => false
  | .lco own it g c m, sc, raw, e => match asLc e with
    | some x => blkC B.N sc x.scope own && ckI B it sc raw x.tg x.iter && noSet x.iter && ckG B (fun i => decide (i ∈ own.map (·.2))) g (relS x.scope sc) x.scope x.tg && (match x.ifs with | [] => (match c with | .yes => true | _ => false) | [i] => ckT B c (relS x.scope sc) x.scope i | _ => false) &&
      ckM B m (relS x.scope sc) x.scope x.elt
    | none => false
  | .callt k a j, sc, raw, e => match asCall e with
    | some x => decide (B.fn[k]? = some x.1) && globC sc x.1 && plainN x.1 && x.2.2.isEmpty && (match x.2.1 with
      | [y, z] => (ckM B a sc raw y && noStar y) && (match asName z with | some z => decide (B.N[j]? = some z) && visC sc z && plainN z | none => false)
      | _ => false)
    | none => false
  | .rpb i, sc, _, e => match asCall e with
    | some x => decide (x.1 = "repr") && globC sc x.1 && x.2.2.isEmpty && (match x.2.1 with
      | [y] => (match asName y with | some y => decide (B.N[i]? = some y) && visC sc y && plainN y | none => false)
      | _ => false)
    | none => false
  | .lc2 own it g c vs1 it1 g1 c1 m, sc, raw, e => match asLc2 e with
    | some x => blkC B.N sc x.scope own && ckI B it sc raw x.tg x.iter && noSet x.iter && ckG B (fun i => decide (i ∈ own.map (·.2))) g (relS x.scope sc) x.scope x.tg && (match x.ifs with | [] => (match c with | .yes => true | _ => false) | [i] => ckT B c (relS x.scope sc) x.scope i | _ => false) &&
      ckM B m (relS x.scope sc) x.scope x.elt &&
      (ckI B it1 (relS x.scope sc) x.scope x.tg1 x.iter1 && noSet x.iter1 && ckG B (fun i => decide (i ∈ vs1)) g1 (relS x.scope sc) x.scope x.tg1 && (match x.ifs1 with | [] => (match c1 with | .yes => true | _ => false) | [i] => ckT B c1 (relS x.scope sc) x.scope i | _ => false) && vs1.all fun i => decide (i ∈ own.map (·.2)))
    | none => false
  | .isi ts tp a, sc, raw, e => match asCall e with
    | some x => decide (x.1 = "isinstance") && globC sc x.1 && x.2.2.isEmpty && (match x.2.1 with | [y, z] => ckM B a sc raw y && noStar y && noStar z && isiC sc ts tp z | _ => false)
    | none => false
  | .dnew, _, _, e => false
  | .ext i a, sc, raw, e => false
  | .gin k neg b, sc, raw, e => false
  | .bdn, _, _, e => false
  | .opv i, sc, _, e => false
  | .sda i k n a, sc, raw, e => false
  | .opx a, sc, raw, e => false
  | .tupb a, sc, raw, e => false
  | .lstb a, sc, raw, e => match asLst e with | some es => ckA B a sc raw es | none => false
  | .mutb m i j a, sc, raw, e => match asMeth e with
    | some x => decide (x.nm = m.nm) && (match asSub x.o with | some y => (match asName y.1 with | some z => decide (B.N[i]? = some z) && visC sc z && plainN z | none => false) && decide (asCst y.2 = some (.int j)) | none => false) && decide (x.es.length = m.ar) && ckMs B a sc raw x.es
    | none => false
  | .callr k a, sc, raw, e => match asCall e with | some x => decide (B.fn[k]? = some x.1) && globC sc x.1 && plainN x.1 && x.2.2.isEmpty && !x.2.1.isEmpty && ckMs B a sc raw x.2.1 | none => false
  | .disp a b, sc, raw, e => false
  | .dg1 a b, sc, raw, e => false
  | .dg2 a b c, sc, raw, e => false
  | .rvk a k, sc, raw, e => false
  | .dge a b, sc, raw, e => false
  | .dge2 a b c, sc, raw, e => false
  | .dup i a, sc, raw, e => false
  | .ggt k b, sc, raw, e => false
  | .rev a, sc, raw, e => false
  | .lrg a, sc, raw, e => false
  | .lenu a, sc, raw, e => false
  | .chain o o' a b c, sc, raw, e => false
  | .gix k b, sc, raw, e => false
  | .callv i a, sc, raw, e => false
  | .meth m o a, sc, raw, e => match asMeth e with | some x => decide (x.nm = m.nm) && baseOk x.o && ckM B o sc raw x.o && decide (x.es.length < 29) && !x.es.isEmpty && ckMs B a sc raw x.es | none => false
  | .mutm m i a, sc, raw, e => false
  | .dp1 i a, sc, raw, e => false
  | .dp2 i a b, sc, raw, e => false
  | .sdi a, sc, raw, e => false
  | .sst a, sc, raw, e => false
  | .lset a, sc, raw, e => false
  | .bxl a, sc, raw, e => false
  | .lcb own j g c m, sc, raw, e => match asLc e with
    | some x => blkC B.N sc x.scope own && (match asName x.iter with | some z => decide (B.N[j]? = some z) && visC sc z && plainN z | none => false) && noSet x.iter && ckG B (fun i => decide (i ∈ own.map (·.2))) g (relS x.scope sc) x.scope x.tg && (match x.ifs with | [] => (match c with | .yes => true | _ => false) | [i] => ckT B c (relS x.scope sc) x.scope i | _ => false) &&
      ckM B m (relS x.scope sc) x.scope x.elt && !(decide (j ∈ own.map (·.2)))
    | none => false
  | .ixa i j k, sc, raw, e => false
  | .eqn a, sc, raw, e => false
  | .mua m j o a, sc, raw, e => match asMeth e with | some x => decide (x.nm = m.nm) && baseA x.o && ckM B o sc raw x.o && decide (x.es.length = m.ar) && ckMs B a sc raw x.es | none => false
  | .callw k i j, sc, raw, e => false
  | .callq k i a b, sc, raw, e => false
  | .srtz a b n m, sc, raw, e => false
  | .sdx i k n a, sc, raw, e => false
  | .srt a n m, sc, raw, e => false
  | .upr a, sc, raw, e => false
  | .lrep a b, sc, raw, e => match asBin e with
    | some x => decide (x.2.1 = .Mult) && (match asLst x.1 with | some es => ckMs B a sc raw es | none => false) && ckM B b sc raw x.2.2
    | none => false
def ckMs (B : Tb) : Ms → Scope → Scope → List Expr → Bool
  | .nil, _, _, es => es.isEmpty
  | .cons a r, sc, raw, es => match es with
    | [] => false
    | e :: es => ckM B a sc raw e && noStar e && ckMs B r sc raw es
def ckK (B : Tb) : Ms → Scope → Scope → List Keyword → Bool
  | .nil, _, _, es => es.isEmpty
  | .cons a r, sc, raw, es => match es with
    | [] => false
    | e :: es => ckM B a sc raw e.value && ckK B r sc raw es
def ckBo (B : Tb) : Ms → Scope → Scope → List Expr → Bool
  | .nil, _, _, _ => false
  | .cons a r, sc, raw, es => match es with
    | [] => false
    | e :: es => match r with
      | .nil => ckM B a sc raw e && es.isEmpty
      | _ => ckM B a sc raw e && !es.isEmpty && ckBo B r sc raw es
def ckO (B : Tb) : Mo → Scope → Scope → Option Expr → Bool
  | .no, _, _, o => o.isNone
  | .so a, sc, raw, o => match o with | some e => ckM B a sc raw e | none => false
def ckA (B : Tb) : As → Scope → Scope → List Expr → Bool
  | .nil, _, _, es => es.isEmpty
  | .lend i r, sc, raw, es => match es with
    | [] => false
    | e :: es => (match asName e with | some x => decide (B.N[i]? = some x) && visC sc x && plainN x | none => false) && ckA B r sc raw es
  | .mv i r, sc, raw, es => match es with
    | [] => false
    | e :: es => (match asName e with | some x => decide (B.N[i]? = some x) && visC sc x && plainN x | none => false) && ckA B r sc raw es
  | .own a r, sc, raw, es => match es with
    | [] => false
    | e :: es => ckM B a sc raw e && noStar e && ckA B r sc raw es
  | .fro a r, sc, raw, es => match es with
    | [] => false
    | e :: es => ckM B a sc raw e && noStar e && ckA B r sc raw es
def ckT (B : Tb) : T → Scope → Scope → Expr → Bool
  | .yes, _, _, _ => false
  | .eqn a, sc, raw, e => false
  | .val a, sc, raw, e => ckM B a sc raw e && plainT e
  | .cmp o a b, sc, raw, e => match asCmp e with | some x => decide (x.2.1 = o.op) && ckM B a sc raw x.1 && ckM B b sc raw x.2.2 && noSet x.2.2 | none => false
  | .gin k neg b, sc, raw, e => false
  | .chain o o' a b c, sc, raw, e => false
  | .not t, sc, raw, e => match asUn e with | some x => decide (x.1 = .Not) && ckT B t sc raw x.2 | none => false
  | .bop c ts, sc, raw, e => match asBool e with | some x => decide (isAnd x.1 = c) && ckTs B ts sc raw x.2 | none => false
def ckTs (B : Tb) : Ts → Scope → Scope → List Expr → Bool
  | .nil, _, _, _ => false
  | .cons a r, sc, raw, es => match es with
    | [] => false
    | e :: es => match r with
      | .nil => ckT B a sc raw e && es.isEmpty
      | _ => ckT B a sc raw e && !es.isEmpty && ckTs B r sc raw es
def ckI (B : Tb) : I → Scope → Scope → Expr → Expr → Bool
  | .seq a, sc, raw, _, e => ckM B a sc raw e
  | .rng1 a, sc, raw, _, e => match asCall e with | some x => decide (x.1 = "range") && globC sc x.1 && x.2.2.isEmpty && (match x.2.1 with | [y] => ckM B a sc raw y && noStar y | _ => false) | none => false
  | .rng2 a b, sc, raw, _, e => false
  | .enu a, sc, raw, tg, e => match asCall e with | some x => decide (x.1 = "enumerate") && globC sc x.1 && x.2.2.isEmpty && (asTup tg).isSome && (match x.2.1 with | [y] => ckM B a sc raw y && noStar y | _ => false) | none => false
  | .zip a b, sc, raw, tg, e => match asCall e with | some x => decide (x.1 = "zip") && globC sc x.1 && x.2.2.isEmpty && (asTup tg).isSome && (match x.2.1 with | [y, z] => ckM B a sc raw y && noStar y && ckM B b sc raw z && noStar z | _ => false) | none => false
  | .zips a b, sc, raw, tg, e => false
  | .zip3 a b c, sc, raw, tg, e => false
  | .keys i, sc, raw, tg, e => false
end
end TL
namespace TL
open PySem PySem.Spec PyProof.Rows L2
structure Facts (P : Program) (w : World) (K : PySem.W.Frag) (mg : Str → Option Value) (base : Heap) (k : Nat) (B : Tb) (G : Gm) : Prop where
  fn : ∀ (j : Nat) (x : Str) (f : FE), B.fn[j]? = some x → G.fs[j]? = some f → ∃ kk ad fd ps, kk ≤ k ∧ mg x = some (.ref ad) ∧ FnT P w K mg base kk ad fd ps (spT K mg f.n f.t) ∧ PySem.W.keepIn K (.ref ad) = true ∧ Binds K fd ps []
  cn : ∀ (j : Nat) (x : Str) (d : D), B.cn[j]? = some x → G.cs[j]? = some d → ∃ v u, mg x = some u ∧ RelV v u ∧ ∀ hot H, Rep K mg hot H v d
  kw : ∀ (j : Nat) (y : Str × Nat × List Str) (e : TL.KE), B.kw[j]? = some y → G.kw[j]? = some e → ∃ kk ad fd ps dU dV, kk ≤ k ∧ mg y.1 = some (.ref ad) ∧ FnT P w K mg base kk ad fd ps (spT K mg e.n e.t) ∧ PySem.W.keepIn K (.ref ad) = true ∧ KB K fd ps y.2.1 y.2.2 e.perm dU ∧ Vals dV dU ∧
    (∀ hot H, Reps K mg hot H dV e.dD) ∧ e.npos = y.2.1 ∧ e.nk = y.2.2.length
  bn : ∀ x ∈ bnames, mg x = none
  fx : ∀ (j : Nat) (f : FE), G.fs[j]? = some f → B.fn[j]? = some f.x
  dn : ∀ (j : Nat) (x : Str) (tab : List (Str × D)), B.dn[j]? = some x → G.ds[j]? = some tab → ∃ a, mg x = some (.ref a) ∧ (∀ s d, lookS s tab = some d → ∃ v, KDct K w a s v ∧ ∀ hot H, Rep K mg hot H v d) ∧ TabK K w a tab
structure GoodX (X : Cx) (B : Tb) (G : Gm) (sc raw : Scope) : Prop where
  sc : X.env.scope = sc
  N : X.N = B.N
  nd : X.N.Nodup
  raw : ∀ x, raw.names.lookup x = some .cell → X.fn x = true
  calm : X.calm = true
  gd : X.A.guards = some []
  un : X.A.units + 64 < cLine
  xe : X.xe = fun _ _ => False
  fn : ∀ (k : Nat) (x : Str) (f : FE), B.fn[k]? = some x → G.fs[k]? = some f → ∃ kk ad fd ps, X.mg x = some (.ref ad) ∧ FnT X.prog X.w X.K X.mg X.base kk ad fd ps (spT X.K X.mg f.n f.t) ∧ Room kk X.A ∧ PySem.W.keepIn X.K (.ref ad) = true ∧ Binds X.K fd ps []
  cn : ∀ (k : Nat) (x : Str) (d : D), B.cn[k]? = some x → G.cs[k]? = some d → ∃ v u, X.mg x = some u ∧ RelV v u ∧ ∀ hot H, Rep X.K X.mg hot H v d
  kw : ∀ (k : Nat) (y : Str × Nat × List Str) (e : TL.KE), B.kw[k]? = some y → G.kw[k]? = some e → ∃ kk ad fd ps dU dV, X.mg y.1 = some (.ref ad) ∧ FnT X.prog X.w X.K X.mg X.base kk ad fd ps (spT X.K X.mg e.n e.t) ∧ Room kk X.A ∧ PySem.W.keepIn X.K (.ref ad) = true ∧ KB X.K fd ps y.2.1 y.2.2 e.perm dU ∧ Vals dV dU ∧
    (∀ hot H, Reps X.K X.mg hot H dV e.dD) ∧ e.npos = y.2.1 ∧ e.nk = y.2.2.length
  bn : ∀ x ∈ bnames, X.mg x = none
  fx : ∀ (k : Nat) (f : FE), G.fs[k]? = some f → B.fn[k]? = some f.x
  dn : ∀ (k : Nat) (x : Str) (tab : List (Str × D)), B.dn[k]? = some x → G.ds[k]? = some tab → ∃ a, X.mg x = some (.ref a) ∧ (∀ s d, lookS s tab = some d → ∃ v, KDct X.K X.w a s v ∧ ∀ hot H, Rep X.K X.mg hot H v d) ∧ TabK X.K X.w a tab
  lam : B.lam = true → ∃ (c P : Addr) (kk : Nat), X.env.code = .ref c ∧ LamX.TabB X.base X.mg c P ∧ (P, lamQ X) ∈ tabsOf X.K ∧ (∀ p ∈ tabsOf X.K, p.1 = P → p.2 = lamQ X) ∧ Room (kk + 3) X.A ∧ Facts X.prog X.w X.K X.mg X.base kk B G
def LamF (P : Program) (w : World) (K : PySem.W.Frag) (mg : Str → Option Value) (base : Heap) (k : Nat) (B : Tb) (G : Gm) (qual : Str) (cdv : Value) : Prop := B.lam = true → ∃ (c P' : Addr) (kk : Nat), cdv = .ref c ∧ LamX.TabB base mg c P' ∧ (P', qual ++ ".<locals>." ++ "<lambda>") ∈ tabsOf K ∧
  (∀ p ∈ tabsOf K, p.1 = P' → p.2 = qual ++ ".<locals>." ++ "<lambda>") ∧ kk + 3 ≤ k ∧ Facts P w K mg base kk B G
theorem good_of {P : Program} {w : World} {K : PySem.W.Frag} {mg : Str → Option Value} {base : Heap} {k : Nat} {B : Tb} {G : Gm} (F : Facts P w K mg base k B G) {qual : Str} {sc : Scope} {f : Addr} {cdv : Value} {A : Around} {outer : List Env} {s : Shared} {H : Hp} (hN : B.N.Nodup) (hr : Room k (A.deeper (envOfC qual sc s.heap.objs.size f cdv))) (hg : (A.deeper (envOfC qual sc s.heap.objs.size f cdv)).guards = some []) (hl : LamF P w K mg base k B G qual cdv) :
    GoodX (cxOf CX0 P w K mg base B.N qual sc f cdv A outer s H E0).nox B G sc sc where
  sc := rfl
  N := rfl
  nd := hN
  raw := fun _ _ => rfl
  calm := rfl
  gd := hg
  un := by have := hr.un; show (A.deeper (envOfC qual sc s.heap.objs.size f cdv)).units + 64 < _; omega
  xe := rfl
  fn := fun j x f a b => let ⟨kk, ad, fd, ps, h1, h2, h3, h4, h5⟩ := F.fn j x f a b; ⟨kk, ad, fd, ps, h2, h3, hr.mono h1, h4, h5⟩
  cn := F.cn
  kw := fun j x f a b => let ⟨kk, ad, fd, ps, dU, dV, h1, h2, h3, h4, h5⟩ := F.kw j x f a b; ⟨kk, ad, fd, ps, dU, dV, h2, h3, hr.mono h1, h4, h5⟩
  bn := F.bn
  fx := F.fx
  dn := F.dn
  lam := fun e => let ⟨c, P', kk, h1, h2, h3, h4, h5, h6⟩ := hl e; ⟨c, P', kk, h1, h2, h3, h4, hr.mono h5, h6⟩
theorem GoodX.blk {X : Cx} {B : Tb} {G : Gm} {sc raw : Scope} (g : GoodX X B G sc raw) (s : Shared) (H : Hp) (scope : Scope) (cl : List (Str × Addr)) (C : Addr) (fp : List Addr) :
    GoodX (X.blk s H scope (compEnvC scope cl C X.env) fp) B G (relS scope sc) scope := by
  refine ⟨?_, g.N, g.nd, fun x h => ?_, g.calm, g.gd, g.un, rfl, g.fn, g.cn, g.kw, g.bn, g.fx, g.dn, g.lam⟩
  · rw [← g.sc]; rfl
  · show (scope.names.lookup x == some .cell) = true
    rw [h]; rfl
section
variable {X : Cx} {B : Tb} {G : Gm} {sc raw : Scope}
theorem PEimpL {e : Expr} {t t' : TE} (h : PE X e t) (q : ∀ σ H Q, σ.length = X.N.length → t' σ H Q → t σ H Q) : PE X e t' := ⟨fun pins s σ H Q I w => h.run pins s σ H Q I (q σ H Q I.len w)⟩
theorem GoodX.gl (g : GoodX X B G sc raw) {x : Str} (h : globC sc x = true) : Gl X x := by
  show X.env.scope.names.lookup x = _
  rw [g.sc]; exact globC_ok h
theorem GoodX.vis (g : GoodX X B G sc raw) {x : Str} (h : visC sc x = true) : Vis X.env.scope x := by rw [g.sc]; exact visC_ok h
theorem GoodX.var (g : GoodX X B G sc raw) {x : Str} {i : Nat} {p : Pos} (h : (decide (B.N[i]? = some x) && visC sc x && plainN x) = true) : PE X (.Name x p) (tVar i) := by
  simp only [Bool.and_eq_true, decide_eq_true_eq] at h
  obtain ⟨a, b, c⟩ := plainN_ok h.2
  exact pe_var (by rw [g.N]; exact h.1.1) (g.vis h.1.2) a b
theorem opX_ok {e : Expr} {m : M} {t : WE} (h : PE X e (liftE X.K X.mg t)) (hv : ∀ i, m = .var i → ∃ x p, e = .Name x p ∧ PE X (.Name x p) (tVar i)) : PE X e (liftX X.K X.mg (opX m t)) := by
  unfold opX
  split
  · rename_i i
    obtain ⟨x, p, rfl, h2⟩ := hv i rfl
    exact px_var h2
  · exact px_tm h
theorem ck_var (g : GoodX X B G sc raw) {e : Expr} {m : M} (h : ckM B m sc raw e = true) : ∀ i, m = .var i → ∃ x p, e = .Name x p ∧ PE X (.Name x p) (tVar i) := by
  intro i hi
  subst hi
  unfold ckM at h
  split at h
  · rename_i x hx
    obtain ⟨p, rfl⟩ := asName_eq hx
    exact ⟨x, p, rfl, g.var h⟩
  · cases h
theorem ckMs_ns (B : Tb) : ∀ (a : Ms) (sc raw : Scope) (es : List Expr), ckMs B a sc raw es = true → es.all noStar = true
  | .nil, sc, raw, es, h => by
    unfold ckMs at h
    rw [List.isEmpty_iff.mp h]; rfl
  | .cons a r, sc, raw, es, h => by
    unfold ckMs at h
    split at h
    · cases h
    · simp only [Bool.and_eq_true] at h
      rw [List.all_cons, h.1.2, ckMs_ns B r sc raw _ h.2]; rfl
theorem ckA_ns (B : Tb) : ∀ (a : As) (sc raw : Scope) (es : List Expr), ckA B a sc raw es = true → es.all noStar = true
  | .nil, sc, raw, es, h => by
    unfold ckA at h
    rw [List.isEmpty_iff.mp h]; rfl
  | .lend i r, sc, raw, es, h => by
    unfold ckA at h
    split at h
    · cases h
    · simp only [Bool.and_eq_true] at h
      split at h
      · rename_i x hx
        obtain ⟨p, rfl⟩ := asName_eq hx
        rw [List.all_cons, ckA_ns B r sc raw _ h.2]; rfl
      · cases h.1
  | .mv i r, sc, raw, es, h => by
    unfold ckA at h
    split at h
    · cases h
    · simp only [Bool.and_eq_true] at h
      split at h
      · rename_i x hx
        obtain ⟨p, rfl⟩ := asName_eq hx
        rw [List.all_cons, ckA_ns B r sc raw _ h.2]; rfl
      · cases h.1
  | .own a r, sc, raw, es, h => by
    unfold ckA at h
    split at h
    · cases h
    · simp only [Bool.and_eq_true] at h
      rw [List.all_cons, h.1.2, ckA_ns B r sc raw _ h.2]; rfl
  | .fro a r, sc, raw, es, h => by
    unfold ckA at h
    split at h
    · cases h
    · simp only [Bool.and_eq_true] at h
      rw [List.all_cons, h.1.2, ckA_ns B r sc raw _ h.2]; rfl
theorem ns_any {es : List Expr} {env : Env} {pos : Pos} (h : es.all noStar = true) : (backTo pos (starEach es env)).any (·.1) = false := by
  unfold backTo
  rw [List.any_map]
  induction es with
  | nil => rfl
  | cons e es ih =>
    rw [List.all_cons, Bool.and_eq_true] at h
    rw [star_of h.1, List.any_cons, ih h.2]; rfl
theorem bo_ok (o : BO) : OpR X (binaryOp o.op) (o.r X.K) ∧ BinL X.K X.mg (o.r X.K) o.s := by
  cases o
  · exact ⟨or_addB, bl_addB⟩
  · exact ⟨or_subB, bl_subB⟩
  · exact ⟨or_mulT, bl_mulT⟩
  · exact ⟨op_fdivW, bl_divA⟩
  · exact ⟨op_mod, bl_mod⟩
  · exact ⟨op_pow, bl_pow⟩
theorem co_ok (hu : X.A.units + 64 < cLine) (o : CO) : OpR X (compareOp o.op) (o.r X.K) ∧ BinL X.K X.mg (o.r X.K) o.s := by
  cases o
  · exact ⟨or_lt, bl_lt⟩
  · exact ⟨or_leA, bl_leA⟩
  · exact ⟨op_gt, bl_gt⟩
  · exact ⟨op_ge, bl_ge⟩
  · exact ⟨or_eq hu, bl_eq false⟩
  · exact ⟨or_ne hu, bl_eq true⟩
  · exact ⟨OpR.or or_isA or_isO, bl_isX⟩
  · exact ⟨OpR.or or_isNA or_isnO, bl_isNX⟩
  · exact ⟨OpR.or (OpR.or or_in (op_inDic (by omega))) (or_inP hu), bl_inB false⟩
  · exact ⟨OpR.or (OpR.or or_notin (op_notinDic (by omega))) (or_ninP hu), bl_inB true⟩
theorem bf_ok (g : GoodX X B G sc raw) (f : BF) {p pos : Pos} {e : Expr} {es : List Expr} {ts : WXs} (hg : Gl X f.nm) (ha : PA X (e :: es) (liftXs X.K X.mg ts)) (hn : (e :: es).all noStar = true) :
    PE X (.Call (.Name f.nm p) (e :: es) [] pos) (liftE X.K X.mg (wCall f.s ts)) := by
  have hm : X.mg f.nm = none := g.bn _ f.nm_mem
  rw [List.all_cons, Bool.and_eq_true] at hn
  have he := star_of (es := es) (env := X.env) hn.1
  have hp := ns_any (env := X.env) (pos := pos) hn.2
  have dn : f.nm ≠ ("__name__" : Str) := by cases f <;> decide +kernel
  have dd : (f.nm == ("__debug__" : Str)) = false := by cases f <;> decide +kernel
  cases f
  · exact PEimp (pe_callB cr_len hg hm PySem.boot_len ha dn dd he hp) fun σ H Q w => call_lift cl_len w
  · exact PEimp (pe_callB call_abs hg hm PyProof.Rows.boot_abs ha dn dd he hp) fun σ H Q w => call_lift cl_abs w
  · exact PEimp (pe_callTy call_int1 hg hm PyProof.Rows.boot_int ha dn dd he hp) fun σ H Q w => call_lift cl_int w
  · exact PEimp (pe_callTy call_list_of hg hm PyProof.Rows.boot_list ha dn dd he hp) fun σ H Q w => call_lift cl_list w
  · exact PEimp (pe_callTy call_tupleN hg hm PyProof.Rows.boot_tuple ha dn dd he hp) fun σ H Q w => call_lift cl_tuple w
  · exact PEimp (pe_callB (cr_all g.calm) hg hm PyProof.Rows.boot_all ha dn dd he hp) fun σ H Q w => call_lift cl_all w
  · exact PEimp (pe_callB (cr_any g.calm) hg hm PyProof.Rows.boot_any ha dn dd he hp) fun σ H Q w => call_lift cl_any w
  · exact PEimp (pe_callB (cr_repr g.gd g.un) hg hm PyProof.Rows.boot_repr ha dn dd he hp) fun σ H Q w => call_lift cl_repr w
  · exact PEimp (pe_callB call_divmodN hg hm PyProof.Rows.boot_divmod ha dn dd he hp) fun σ H Q w => call_lift cl_divmod w
  · exact PEimp (pe_callB (cr_maxAA g.calm g.un) hg hm (by decide +kernel) ha dn dd he hp) fun σ H Q w => call_lift cl_maxAA w
  · exact PEimp (pe_callB (cr_minAA g.calm g.un) hg hm (by decide +kernel) ha dn dd he hp) fun σ H Q w => call_lift cl_minAA w
  · exact PEimp (pe_callB (cr_sumAA g.calm) hg hm (by decide +kernel) ha dn dd he hp) fun σ H Q w => call_lift cl_sumAA w
  · exact PEimp (pe_callB (cr_sortedAny g.un) hg hm (by decide +kernel) ha dn dd he hp) fun σ H Q w => call_lift cl_sortedA w
  · exact PEimp (pe_callTy cr_strAA hg hm (by decide +kernel) ha dn dd he hp) fun σ H Q w => call_lift cl_strAA w
  · exact PEimp (pe_callTy (cr_dictA g.calm) hg hm (by decide +kernel) ha dn dd he hp) fun σ H Q w => call_lift cl_dict w
mutual
theorem okG {ok : Nat → Bool} {lent : List Nat} (hl : ∀ i, ok i = true → i ∉ lent) : ∀ (t : Tg) {X : Cx} {sc raw : Scope} {e : Expr}, GoodX X B G sc raw → ckG B ok t sc raw e = true → PG X e (liftG X.K X.mg lent (gW t))
  | .name i, X, sc, raw, e, g, h => by
    unfold ckG at h
    split at h
    · rename_i x hx
      obtain ⟨p, rfl⟩ := asName_eq hx
      simp only [Bool.and_eq_true, decide_eq_true_eq] at h
      obtain ⟨a, b⟩ := storeC_ok h.1.2
      refine PGimp (pg_name g.nd (by rw [g.N]; exact h.1.1) (by rw [g.sc]; exact a) ?_) fun v σ H Q w => gname_lift (hl i h.2) w
      rw [g.sc]
      exact b.imp (g.raw x) id
    · cases h
  | .ix i j, X, sc, raw, e, g, h => by
    unfold ckG at h
    split at h
    · rename_i x hx
      obtain ⟨q, rfl⟩ := asSub_eq hx
      obtain ⟨y1, y2⟩ := x
      simp only [Bool.and_eq_true, decide_eq_true_eq] at h
      obtain ⟨h1, h2⟩ := h
      split at h1
      · rename_i z hz
        obtain ⟨q2, rfl⟩ := asName_eq hz
        obtain ⟨k, p, rfl⟩ := asCst_eq h2
        exact PGimp (pg_sub (g.var (by simpa using h1)) pe_int set_list) fun v σ H Q w => gix_lift w
      · cases h1
    · cases h
  | .tup r, X, sc, raw, e, g, h => by
    unfold ckG at h
    split at h
    · rename_i es hx
      obtain ⟨k, p, rfl⟩ := asTup_eq hx
      unfold gW
      by_cases hs : gW.st r = true
      · rw [if_pos hs]
        obtain ⟨a, b⟩ := okGS hl r g hs h
        exact pg_starD g.calm a b
      · rw [if_neg hs]
        obtain ⟨a, b, c⟩ := okGs hl r g (by simpa using hs) h
        have := pg_tupD (k := k) (pos := p) g.calm a b
        rw [c] at this
        exact this
    · cases h
theorem okGs {ok : Nat → Bool} {lent : List Nat} (hl : ∀ i, ok i = true → i ∉ lent) : ∀ (t : Tgs) {X : Cx} {sc raw : Scope} {es : List Expr}, GoodX X B G sc raw → gW.st t = false → ckGs B ok t sc raw es = true → PGs X es (liftGs X.K X.mg lent (gW.gWs t)) ∧ es.all noStar = true ∧ es.length = gW.len t
  | .nil, X, sc, raw, es, g, hs, h => by
    unfold ckGs at h
    rw [List.isEmpty_iff.mp h]
    exact ⟨pgs_nilD, rfl, rfl⟩
  | .cons t r, X, sc, raw, es, g, hs, h => by
    unfold gW.st at hs
    unfold ckGs at h
    split at h
    · cases h
    · simp only [Bool.and_eq_true] at h
      obtain ⟨a, b, c⟩ := okGs hl r g hs h.2
      exact ⟨pgs_consD (okG hl t g h.1.1) a h.1.2, by rw [List.all_cons, h.1.2, b]; rfl, by rw [List.length_cons, c]; rfl⟩
  | .star i, X, sc, raw, es, g, hs, h => by cases hs
theorem okGS {ok : Nat → Bool} {lent : List Nat} (hl : ∀ i, ok i = true → i ∉ lent) : ∀ (t : Tgs) {X : Cx} {sc raw : Scope} {es : List Expr}, GoodX X B G sc raw → gW.st t = true → ckGs B ok t sc raw es = true → PGs X es (liftGsS X.K X.mg lent (gW.len t) (gW.gWs t)) ∧ starLast (gW.len t) es = true
  | .nil, X, sc, raw, es, g, hs, h => by cases hs
  | .cons t r, X, sc, raw, es, g, hs, h => by
    unfold gW.st at hs
    unfold ckGs at h
    split at h
    · cases h
    · simp only [Bool.and_eq_true] at h
      obtain ⟨a, b⟩ := okGS hl r g hs h.2
      refine ⟨pgs_consS (okG hl t g h.1.1) a h.1.2, ?_⟩
      show (_ && _) = true
      rw [h.1.2, b]; rfl
  | .star i, X, sc, raw, es, g, hs, h => by
    unfold ckGs at h
    split at h
    · rename_i e
      split at h
      · rename_i x hx
        obtain ⟨p, q, rfl⟩ := asStar_eq hx
        simp only [Bool.and_eq_true, decide_eq_true_eq] at h
        obtain ⟨a, b⟩ := storeC_ok h.1.2
        refine ⟨pgs_starLast (hl i h.2) (pg_name g.nd (by rw [g.N]; exact h.1.1) (by rw [g.sc]; exact a) ?_), rfl⟩
        rw [g.sc]
        exact b.imp (g.raw x) id
      · cases h
    · cases h
end
end
end TL
namespace TL
open PySem PySem.Spec PyProof.Rows L2
section
variable {B : Tb} {G : Gm} {sc raw : Scope}
theorem isi_nm : ("isinstance" : Str) ∈ bnames := by decide +kernel
theorem isi_n1 : ("isinstance" : Str) ≠ ("__name__" : Str) := by decide +kernel
theorem isi_n2 : (("isinstance" : Str) == ("__debug__" : Str)) = false := by decide +kernel
theorem ty_nm (t : TyN) : (t.nm : Str) ∈ bnames := by cases t <;> decide +kernel
theorem ty_boot (t : TyN) : bootBuiltins (t.nm : Str) = some (.type t.nm) := by cases t <;> decide +kernel
theorem ty_n1 (t : TyN) : (t.nm : Str) ≠ ("__name__" : Str) := by cases t <;> decide +kernel
theorem ty_n2 (t : TyN) : ((t.nm : Str) == ("__debug__" : Str)) = false := by cases t <;> decide +kernel
theorem tyC_ok {X : Cx} {sc raw : Scope} {t : TyN} {e : Expr} (g : GoodX X B G sc raw) (h : tyC sc t e = true) : PE X e (tC (.ty t.nm)) ∧ noStar e = true := by
  unfold tyC at h
  split at h
  · rename_i x hx
    obtain ⟨p, rfl⟩ := asName_eq hx
    simp only [Bool.and_eq_true, decide_eq_true_eq] at h
    obtain ⟨rfl, h2⟩ := h
    exact ⟨pe_bltn (g.gl h2) (g.bn _ (ty_nm t)) (ty_boot t) rfl (ty_n1 t) (ty_n2 t), rfl⟩
  · cases h
def tTys : List TyN → TA
  | [] => tNil
  | t :: ts => tCons (tC (.ty t.nm)) (tTys ts)
theorem tTys_eq : ∀ (ts : List TyN) (σ : L2.St) (H : Hp) (Q : List V → Hp → Prop), tTys ts σ H Q = Q (ts.map fun t => V.ty t.nm) H
  | [], _, _, _ => rfl
  | t :: ts, σ, H, Q => tTys_eq ts σ H fun xs H2 => Q (.ty t.nm :: xs) H2
theorem tysC_ok {X : Cx} {sc raw : Scope} (g : GoodX X B G sc raw) : ∀ {ts : List TyN} {es : List Expr}, tysC sc ts es = true → PA X es (tTys ts)
  | [], [], _ => pa_nil
  | [], _ :: _, h => by cases h
  | _ :: _, [], h => by cases h
  | t :: ts, e :: es, h => by
    unfold tysC at h
    rw [Bool.and_eq_true] at h
    obtain ⟨a, b⟩ := tyC_ok g h.1
    exact pa_cons a (tysC_ok g h.2) (star_of b)
theorem range_nm : ("range" : Str) ∈ bnames := by decide +kernel
theorem enum_nm : ("enumerate" : Str) ∈ bnames := by decide +kernel
theorem zip_nm : ("zip" : Str) ∈ bnames := by decide +kernel
theorem base_ok {X : Cx} {o : Expr} {n : Str} (h : baseOk o = true) : attributeBase o n X.env (eval o X.env) = eval o X.env := by
  cases o <;> first | rfl | cases h
theorem all_nst {es : List Expr} {env : Env} {pos : Pos} (h : es.all noStar = true) : (backTo pos (starEach es env)).all (fun x => !x.1) = true := by
  have := ns_any (env := env) (pos := pos) h
  rw [List.any_eq_false] at this
  rw [List.all_eq_true]
  intro x hx
  simpa using this x hx
theorem few_ok {X : Cx} {es : List Expr} {cpos : Pos} (h : es.all noStar = true) (hl : es.length < 29) : ((backTo cpos (starEach es X.env)).all (fun x => !x.1) && (backToKw cpos (keywordEach [] X.env)).all (fun x => x.1.isSome)
      && decide (es.length + ([] : List Keyword).length + (if ([] : List Keyword).isEmpty then 0 else 1) < 30)) = true := by
  rw [all_nst h]
  show (true && decide (es.length + 0 + 0 < 30)) = true
  rw [decide_eq_true (by omega)]; rfl
theorem str_ok : ("str" : String) = "str" ∨ ("str" : String) = "list" ∨ ("str" : String) = "dict" := .inl rfl
theorem lst_ok : ("list" : String) = "str" ∨ ("list" : String) = "list" ∨ ("list" : String) = "dict" := .inr (.inl rfl)
theorem meth_ok {X : Cx} (hu : X.A.units + 64 < cLine) {o e : Expr} {es : List Expr} {ap cp : Pos} {to : WX} {ts : WXs} (m : Mth) (ho : PE X o (liftX X.K X.mg to)) (hb : baseOk o = true) (ha : PA X (e :: es) (liftXs X.K X.mg ts)) (hn : (e :: es).all noStar = true) (hlen : (e :: es).length < 29) (hl : (ap.endLine == cp.line) = true) :
    PE X (.Call (.Attribute o m.nm ap) (e :: es) [] cp) (liftE X.K X.mg (wMeth m.T m.s to ts)) := by
  have hn2 : noStar e = true ∧ es.all noStar = true := by rw [List.all_cons, Bool.and_eq_true] at hn; exact hn
  cases m
  · exact PEimp (pe_bm PySem.F.plainAttrs_str PySem.F.slot_str_join PySem.F.type_str_join mt_joinD ho ha (base_ok hb) (few_ok hn hlen) hl (star_of hn2.1) (ns_any hn2.2)) fun σ H Q w => meth_lift str_ok ml_join w
  · exact PEimp (pe_bm PySem.F.plainAttrs_str PySem.F.slot_str_strip PySem.F.type_str_strip mt_strp ho ha (base_ok hb) (few_ok hn hlen) hl (star_of hn2.1) (ns_any hn2.2)) fun σ H Q w => meth_lift str_ok ml_strp w
  · exact PEimp (pe_bm PySem.F.plainAttrs_list PySem.F.slot_list_count PySem.F.type_list_count (mt_lcountS hu) ho ha (base_ok hb) (few_ok hn hlen) hl (star_of hn2.1) (ns_any hn2.2)) fun σ H Q w => meth_lift lst_ok ml_cnt w
  · exact PEimp (pe_bm PySem.F.plainAttrs_list PySem.F.slot_list_index PySem.F.type_list_index mt_lidxS ho ha (base_ok hb) (few_ok hn hlen) hl (star_of hn2.1) (ns_any hn2.2)) fun σ H Q w => meth_lift lst_ok ml_idx w
theorem base_sub {X : Cx} {a b : Expr} {p : Pos} {n : Str} : attributeBase (.Subscript a b p) n X.env (eval (.Subscript a b p) X.env) = eval (.Subscript a b p) X.env := rfl
theorem mutB_ok {X : Cx} {o1 o2 : Expr} {q : Pos} {es : List Expr} {ap cp : Pos} {i j : Nat} {a : Ms} (m : Mut) (g : GoodX X B G sc raw) (ho : PE X (.Subscript o1 o2 q) (tIxJ X.K i j)) (hl : (ap.endLine == cp.line) = true) (har : es.length = m.ar) (hc : ckMs B a sc raw es = true) (ha : PA X es (liftXs X.K X.mg (wFs G a))) :
    PE X (.Call (.Attribute (.Subscript o1 o2 q) m.nm ap) es [] cp) (liftE X.K X.mg (wMutB m.s i j (wFs G a))) := by
  have hn := ckMs_ns B a sc raw es hc
  cases es with
  | nil =>
    have e0 : a = .nil := by
      cases a with
      | nil => rfl
      | cons a r => unfold ckMs at hc; cases hc
    subst e0
    have en : wFs G .nil = wXnil := by rw [wFs]
    rw [en]
    cases m with
    | rev => exact PEimp (pe_bm0 PySem.F.plainAttrs_list PySem.F.slot_list_reverse PySem.F.type_list_reverse mt_reverse ho base_sub hl) fun σ H Q w => mutB0_lift mu_rev w
    | clear => exact PEimp (pe_bm0 PySem.F.plainAttrs_list PySem.F.slot_list_clear PySem.F.type_list_clear mt_clear ho base_sub hl) fun σ H Q w => mutB0_lift mu_clear w
    | pop => exact PEimp (pe_bm0 PySem.F.plainAttrs_list PySem.F.slot_list_pop PySem.F.type_list_pop mt_pop ho base_sub hl) fun σ H Q w => mutB0_lift mu_pop w
    | _ => exact absurd har (by decide)
  | cons e es =>
    have hn2 : noStar e = true ∧ es.all noStar = true := by rw [List.all_cons, Bool.and_eq_true] at hn; exact hn
    have hlen : (e :: es).length < 29 := by rw [har]; cases m <;> decide
    cases m with
    | popAt => exact PEimp (pe_bm PySem.F.plainAttrs_list PySem.F.slot_list_pop PySem.F.type_list_pop mt_popAt ho ha base_sub (few_ok hn hlen) hl (star_of hn2.1) (ns_any hn2.2)) fun σ H Q w => mutB_lift mu_popAt w
    | ins => exact PEimp (pe_bm PySem.F.plainAttrs_list PySem.F.slot_list_insert PySem.F.type_list_insert mt_insD ho ha base_sub (few_ok hn hlen) hl (star_of hn2.1) (ns_any hn2.2)) fun σ H Q w => mutB_lift mu_ins w
    | app => exact PEimp (pe_bm PySem.F.plainAttrs_list PySem.F.slot_list_append PySem.F.type_list_append mt_append ho ha base_sub (few_ok hn hlen) hl (star_of hn2.1) (ns_any hn2.2)) fun σ H Q w => mutB_lift mu_app w
    | rev => exact absurd har (by simp [Mut.ar])
    | clear => exact absurd har (by simp [Mut.ar])
    | pop => exact absurd har (by simp [Mut.ar])
theorem baseA_ok {X : Cx} {o : Expr} {n : Str} (h : baseA o = true) : attributeBase o n X.env (eval o X.env) = eval o X.env := by
  unfold baseA at h
  split at h <;> first | rfl | cases h
theorem mutA_ok {X : Cx} {o : Expr} {es : List Expr} {ap cp : Pos} {j : Nat} {a : Ms} {ta : WE} (m : Mut) (g : GoodX X B G sc raw) (ho : PE X o (liftE X.K X.mg ta)) (hbs : baseA o = true) (hl : (ap.endLine == cp.line) = true) (har : es.length = m.ar) (hc : ckMs B a sc raw es = true) (ha : PA X es (liftXs X.K X.mg (wFs G a))) :
    PE X (.Call (.Attribute o m.nm ap) es [] cp) (liftE X.K X.mg (wMutA m.s j ta (wFs G a))) := by
  have hn := ckMs_ns B a sc raw es hc
  cases es with
  | nil =>
    have e0 : a = .nil := by
      cases a with
      | nil => rfl
      | cons a r => unfold ckMs at hc; cases hc
    subst e0
    have en : wFs G .nil = wXnil := by rw [wFs]
    rw [en]
    cases m with
    | rev => exact PEimp (pe_bm0 PySem.F.plainAttrs_list PySem.F.slot_list_reverse PySem.F.type_list_reverse mt_reverse ho (baseA_ok hbs) hl) fun σ H Q w => mutA0_lift mu_rev w
    | clear => exact PEimp (pe_bm0 PySem.F.plainAttrs_list PySem.F.slot_list_clear PySem.F.type_list_clear mt_clear ho (baseA_ok hbs) hl) fun σ H Q w => mutA0_lift mu_clear w
    | pop => exact PEimp (pe_bm0 PySem.F.plainAttrs_list PySem.F.slot_list_pop PySem.F.type_list_pop mt_pop ho (baseA_ok hbs) hl) fun σ H Q w => mutA0_lift mu_pop w
    | _ => exact absurd har (by decide)
  | cons e es =>
    have hn2 : noStar e = true ∧ es.all noStar = true := by rw [List.all_cons, Bool.and_eq_true] at hn; exact hn
    have hlen : (e :: es).length < 29 := by rw [har]; cases m <;> decide
    cases m with
    | popAt => exact PEimp (pe_bm PySem.F.plainAttrs_list PySem.F.slot_list_pop PySem.F.type_list_pop mt_popAt ho ha (baseA_ok hbs) (few_ok hn hlen) hl (star_of hn2.1) (ns_any hn2.2)) fun σ H Q w => mutA_lift mu_popAt w
    | ins => exact PEimp (pe_bm PySem.F.plainAttrs_list PySem.F.slot_list_insert PySem.F.type_list_insert mt_insD ho ha (baseA_ok hbs) (few_ok hn hlen) hl (star_of hn2.1) (ns_any hn2.2)) fun σ H Q w => mutA_lift mu_ins w
    | app => exact PEimp (pe_bm PySem.F.plainAttrs_list PySem.F.slot_list_append PySem.F.type_list_append mt_append ho ha (baseA_ok hbs) (few_ok hn hlen) hl (star_of hn2.1) (ns_any hn2.2)) fun σ H Q w => mutA_lift mu_app w
    | rev => exact absurd har (by simp [Mut.ar])
    | clear => exact absurd har (by simp [Mut.ar])
    | pop => exact absurd har (by simp [Mut.ar])
inductive PEs (X : Cx) : List Expr → List TE → Prop
  | nil : PEs X [] []
  | cons {e es t ts} : PE X e t → PEs X es ts → PEs X (e :: es) (t :: ts)
theorem PEs.length {X : Cx} : ∀ {es ts}, PEs X es ts → es.length = ts.length
  | _, _, .nil => rfl
  | _, _, .cons _ t => by rw [List.length_cons, List.length_cons, PEs.length t]
mutual
theorem okM : ∀ (m : M) {B : Tb} {X : Cx} {sc raw : Scope} {e : Expr}, GoodX X B G sc raw → ckM B m sc raw e = true → PE X e (liftE X.K X.mg (wM G m))
  | .cst c, B, X, sc, raw, e, g, h => by
    unfold ckM at h
    simp only [Bool.and_eq_true, decide_eq_true_eq] at h
    obtain ⟨k, p, rfl⟩ := asCst_eq h.1
    unfold wM
    cases c with
    | non => exact PEimp pe_non fun σ H Q w => cst_lift (d := .non) (v := .non) (fun _ _ => .non) w
    | bl b => exact PEimp pe_bl fun σ H Q w => cst_lift (d := .bl b) (v := .bl b) (fun _ _ => .bl _) w
    | int i => exact PEimp pe_int fun σ H Q w => cst_lift (d := .int i) (v := .int i) (fun _ _ => .int _) w
    | str s => exact PEimp pe_str fun σ H Q w => cst_lift (d := .str s) (v := .str s) (fun _ _ => .str _ h.2) w
  | .var i, B, X, sc, raw, e, g, h => by
    obtain ⟨x, p, rfl, hp⟩ := ck_var g h i rfl
    unfold wM
    exact pe_varD hp
  | .glb k, B, X, sc, raw, e, g, h => by
    unfold ckM at h
    split at h
    · rename_i x hx
      obtain ⟨p, rfl⟩ := asName_eq hx
      simp only [Bool.and_eq_true, decide_eq_true_eq] at h
      unfold wM
      split
      · rename_i d hd
        obtain ⟨v, u, hm, r, rp⟩ := g.cn k x d h.1.1 hd
        exact PEimp (pe_glob (g.gl h.1.2) hm r (plainN_ok h.2).1) fun σ H Q w => cst_lift rp w
      · exact ⟨fun pins s σ H Q I w => by obtain ⟨_, _, _, _, _, _, z, _⟩ := w; cases z⟩
    · cases h
  | .tup a, B, X, sc, raw, e, g, h => by
    unfold ckM at h
    split at h
    · rename_i es hx
      obtain ⟨k, p, rfl⟩ := asTup_eq hx
      unfold wM
      exact PEimp (pe_tupT (okFs a g h)) fun σ H Q w => tup_lift w
    · cases h
  | .lst a, B, X, sc, raw, e, g, h => by
    unfold ckM at h
    split at h
    · rename_i es hx
      obtain ⟨p, rfl⟩ := asLst_eq hx
      unfold wM
      exact PEimp (pe_lst (okFs a g h)) fun σ H Q w => lst_lift w
    · cases h
  | .bin o a b, B, X, sc, raw, e, g, h => by
    unfold ckM at h
    split at h
    · rename_i x hx
      obtain ⟨p, rfl⟩ := asBin_eq hx
      simp only [Bool.and_eq_true, decide_eq_true_eq] at h
      unfold wM
      rw [h.1.1]
      exact PEimp (pe_op (bo_ok o).1 (opX_ok (okM a g h.1.2) (ck_var g h.1.2)) (opX_ok (okM b g h.2) (ck_var g h.2))) fun σ H Q w => bin_lift (bo_ok o).2 w
    · cases h
  | .cmp o a b, B, X, sc, raw, e, g, h => by
    unfold ckM at h
    split at h
    · rename_i x hx
      obtain ⟨p, rfl⟩ := asCmp_eq hx
      simp only [Bool.and_eq_true, decide_eq_true_eq] at h
      unfold wM
      rw [h.1.1.1]
      exact PEimp (pe_cmpR (co_ok g.un o).1 (opX_ok (okM a g h.1.1.2) (ck_var g h.1.1.2)) (opX_ok (okM b g h.1.2) (ck_var g h.1.2)) (noSet_beh h.2)) fun σ H Q w => bin_lift (co_ok g.un o).2 w
    · cases h
  | .neg a, B, X, sc, raw, e, g, h => by
    unfold ckM at h
    cases h
  | .ix a b, B, X, sc, raw, e, g, h => by
    unfold ckM at h
    split at h
    · rename_i x hx
      obtain ⟨p, rfl⟩ := asSub_eq hx
      simp only [Bool.and_eq_true, decide_eq_true_eq] at h
      unfold wM
      exact PEimp (pe_ix (IxR.or ix_seq (ix_dic (by have := g.un; omega))) (opX_ok (okM a g h.1.1) (ck_var g h.1.1)) (opX_ok (okM b g h.1.2) (ck_var g h.1.2)) (noSlice_ok h.2)) fun σ H Q w => bin_lift bl_ixA w
    · cases h
  | .cut a lo hi, B, X, sc, raw, e, g, h => by
    unfold ckM at h
    split at h
    · rename_i x hx
      obtain ⟨p, rfl⟩ := asSub_eq hx
      split at h
      · rename_i y hy
        obtain ⟨a1, b1⟩ := x
        obtain ⟨q, e2⟩ := asSl_eq hy
        simp only at e2
        subst e2
        simp only [Bool.and_eq_true, decide_eq_true_eq] at h
        unfold wM
        exact PEimp (pe_slice sr_cutA (opX_ok (okM a g h.1.1) (ck_var g h.1.1)) (okO lo g h.1.2) (okO hi g h.2)) fun σ H Q w => cut_lift w
      · cases h
    · cases h
  | .bf f a, B, X, sc, raw, e, g, h => by
    unfold ckM at h
    split at h
    · rename_i x hx
      obtain ⟨q, p, rfl⟩ := asCall_eq hx
      obtain ⟨x1, es, ks⟩ := x
      simp only [Bool.and_eq_true, decide_eq_true_eq, Bool.not_eq_true'] at h
      obtain ⟨⟨⟨⟨h1, h2⟩, h3⟩, h4⟩, h5⟩ := h
      obtain rfl := List.isEmpty_iff.mp h3
      subst h1
      unfold wM
      cases es with
      | nil => cases h4
      | cons e es => exact bf_ok g f (g.gl h2) (okMs a g h5) (ckMs_ns B a sc raw _ h5)
    · cases h
  | .call k a, B, X, sc, raw, e, g, h => by
    unfold ckM at h
    split at h
    · rename_i x hx
      obtain ⟨q, p, rfl⟩ := asCall_eq hx
      obtain ⟨x1, es, ks⟩ := x
      simp only [Bool.and_eq_true, decide_eq_true_eq, Bool.not_eq_true'] at h
      obtain ⟨⟨⟨⟨h1, h2⟩, h3⟩, h4⟩, h5⟩ := h
      obtain rfl := List.isEmpty_iff.mp h4
      unfold wM
      split
      · rename_i f hf
        obtain ⟨kk, ad, fd, ps, hm, F, hr, hk, hb⟩ := g.fn k x1 f h1 hf
        have hs := ckA_ns B a sc raw _ h5
        cases es with
        | nil =>
          have ha := okA a g h5
          refine PEimp (pe_callT0 F hr g.gd (g.gl h2) hm hk hb (plainN_ok h3).1) fun σ H Q w => ?_
          have w2 := callF_lift w
          unfold ckA at h5
          cases a with
          | nil =>
            obtain ⟨oh, τ, env, P, e0, S, t, kf⟩ := w2
            unfold wAs at t
            exact kf [] [] env H e0 .nil S Step.refl t
          | lend i r => cases h5
          | mv i r => cases h5
          | own a r => cases h5
          | fro a r => cases h5
        | cons e es =>
          rw [List.all_cons, Bool.and_eq_true] at hs
          exact PEimp (pe_callT F hr g.gd (g.gl h2) hm hk hb (okA a g h5) (plainN_ok h3).1 (star_of hs.1) (ns_any hs.2)) fun σ H Q w => callF_lift w
      · exact ⟨fun pins s σ H Q I w => by obtain ⟨_, _, _, _, _, _, z, _⟩ := w; cases z⟩
    · cases h
  | .callk k p q, B, X, sc, raw, e, g, h => by
    unfold ckM at h
    cases h
  | .bop c a, B, X, sc, raw, e, g, h => by
    unfold ckM at h
    split at h
    · rename_i x hx
      obtain ⟨p, rfl⟩ := asBool_eq hx
      obtain ⟨x1, es⟩ := x
      simp only [Bool.and_eq_true, decide_eq_true_eq, Bool.not_eq_true'] at h
      unfold wM
      exact okBo a c g h.1 h.2
    · cases h
  | .not a, B, X, sc, raw, e, g, h => by
    unfold ckM at h
    split at h
    · rename_i x hx
      obtain ⟨p, rfl⟩ := asUn_eq hx
      simp only [Bool.and_eq_true, decide_eq_true_eq, Bool.not_eq_true'] at h
      unfold wM
      rw [h.1]
      exact PEimp (pe_notT (okM a g h.2)) fun σ H Q w => notV_lift w
    · cases h
  | .ifx c a b, B, X, sc, raw, e, g, h => by
    unfold ckM at h
    split at h
    · rename_i x hx
      obtain ⟨p, rfl⟩ := asIf_eq hx
      simp only [Bool.and_eq_true, decide_eq_true_eq, Bool.not_eq_true'] at h
      unfold wM
      exact PEimp (pe_ifExp (okT c g h.1.1) (okM a g h.1.2) (okM b g h.2)) fun σ H Q w => if_lift w
    · cases h
  | .lc own it gt c m, B, X, sc, raw, e, g, h => by
    unfold ckM at h
    split at h
    · rename_i x hx
      obtain ⟨p, rfl⟩ := asLc_eq hx
      simp only [Bool.and_eq_true] at h
      obtain ⟨⟨⟨⟨⟨h1, h2⟩, h3⟩, h4⟩, h5⟩, h6⟩ := h
      unfold wM
      refine PEimpL (pe_lc (g := liftG X.K X.mg (lentC X.N.length (own.map (·.2))) (gW gt)) (tt := liftT X.K X.mg (wT G c)) g.calm g.nd (okI it g h2) ?_ ?_ ?_ ?_ (noSet_it h3)) fun σ H Q hl w => by
        have := lc_lift w
        rw [hl] at this
        exact this
      · rw [g.N, g.sc]; exact blkOk_by h1
      · intro s H C cl fp
        exact okG (fun i hi => not_lentC (by simpa using hi)) gt (g.blk s H x.scope cl C fp) h4
      · intro s H C cl fp
        have gb := g.blk s H x.scope cl C fp
        split at h5
        · rename_i e1
          rw [e1]
          split at h5
          · unfold wT
            exact ⟨fun pins s σ H Q I w => pts_nil.run pins s σ H Q I (yes_lift w)⟩
          · cases h5
        · rename_i i e1
          rw [e1]
          exact pts_one (okT c gb h5)
        · cases h5
      · intro s H C cl fp
        exact okM m (g.blk s H x.scope cl C fp) h6
    · cases h
  | .lco own it gt c m, B, X, sc, raw, e, g, h => by
    unfold ckM at h
    split at h
    · rename_i x hx
      obtain ⟨p, rfl⟩ := asLc_eq hx
      simp only [Bool.and_eq_true] at h
      obtain ⟨⟨⟨⟨⟨h1, h2⟩, h3⟩, h4⟩, h5⟩, h6⟩ := h
      unfold wM
      refine PEimpL (pe_lc (g := liftG X.K X.mg (lentC X.N.length (own.map (·.2))) (gW gt)) (tt := liftT X.K X.mg (wT G c)) g.calm g.nd (okI it g h2) ?_ ?_ ?_ ?_ (noSet_it h3)) fun σ H Q hl w => by
        have := lcQ_lift w
        rw [hl] at this
        exact this
      · rw [g.N, g.sc]; exact blkOk_by h1
      · intro s H C cl fp
        exact okG (fun i hi => not_lentC (by simpa using hi)) gt (g.blk s H x.scope cl C fp) h4
      · intro s H C cl fp
        have gb := g.blk s H x.scope cl C fp
        split at h5
        · rename_i e1
          rw [e1]
          split at h5
          · unfold wT
            exact ⟨fun pins s σ H Q I w => pts_nil.run pins s σ H Q I (yes_lift w)⟩
          · cases h5
        · rename_i i e1
          rw [e1]
          exact pts_one (okT c gb h5)
        · cases h5
      · intro s H C cl fp
        exact okM m (g.blk s H x.scope cl C fp) h6
    · cases h
  | .callt k a j, B, X, sc, raw, e, g, h => by
    unfold ckM at h
    split at h
    · rename_i x hx
      obtain ⟨q, p, rfl⟩ := asCall_eq hx
      obtain ⟨x1, es, ks⟩ := x
      simp only [Bool.and_eq_true, decide_eq_true_eq] at h
      obtain ⟨⟨⟨⟨h1, h2⟩, h3⟩, h4⟩, h5⟩ := h
      obtain rfl := List.isEmpty_iff.mp h4
      unfold wM
      split
      · rename_i f hf
        obtain ⟨kk, ad, fd, ps, hm, F, hr, hk, hb⟩ := g.fn k x1 f h1 hf
        split at h5
        · rename_i y z
          rw [Bool.and_eq_true] at h5
          obtain ⟨h6, h7⟩ := h5
          rw [Bool.and_eq_true] at h6
          split at h7
          · rename_i zn hz
            obtain ⟨q2, rfl⟩ := asName_eq hz
            exact PEimp (pe_callT F hr g.gd (g.gl h2) hm hk hb (pa_cons (okM a g h6.1) (pa_cons (g.var (by simpa using h7)) pa_nil rfl) (star_of h6.2)) (plainN_ok h3).1 (star_of h6.2) (ns_any rfl)) fun σ H Q w => callT_lift w
          · cases h7
        · cases h5
      · exact ⟨fun pins s σ H Q I w => by obtain ⟨_, _, _, _, _, _, z, _⟩ := w; cases z⟩
    · cases h
  | .rpb i, B, X, sc, raw, e, g, h => by
    unfold ckM at h
    split at h
    · rename_i x hx
      obtain ⟨q, p, rfl⟩ := asCall_eq hx
      obtain ⟨x1, es, ks⟩ := x
      simp only [Bool.and_eq_true, decide_eq_true_eq] at h
      obtain ⟨⟨⟨h1, h2⟩, h3⟩, h5⟩ := h
      obtain rfl := List.isEmpty_iff.mp h3
      subst h1
      unfold wM
      split at h5
      · rename_i y
        split at h5
        · rename_i yn hy
          obtain ⟨q1, rfl⟩ := asName_eq hy
          exact PEimp (pe_callB (cr_repr g.gd g.un) (g.gl h2) (g.bn _ BF.repr.nm_mem) PyProof.Rows.boot_repr (pa_cons (g.var (by simpa using h5)) pa_nil rfl) (show ("repr" : Str) ≠ ("__name__" : Str) by decide +kernel) (show (("repr" : Str) == ("__debug__" : Str)) = false by decide +kernel) rfl rfl) fun σ H Q w => rpb_lift w
        · cases h5
      · cases h5
    · cases h
  | .lc2 own it gt c vs1 it1 g1 c1 m, B, X, sc, raw, e, g, h => by
    unfold ckM at h
    split at h
    · rename_i x hx
      obtain ⟨p, rfl⟩ := asLc2_eq hx
      simp only [Bool.and_eq_true] at h
      obtain ⟨⟨⟨⟨⟨⟨h1, h2⟩, h3⟩, h4⟩, h5⟩, h6⟩, ⟨⟨⟨k1, k2⟩, k3⟩, k4⟩, k5⟩ := h
      have hv : ∀ i ∈ vs1, i ∈ own.map (·.2) := fun i hi => of_decide_eq_true (List.all_eq_true.mp k5 i hi)
      unfold wM
      refine PEimpL (pe_lc2 (g := liftG X.K X.mg (lentC X.N.length (own.map (·.2))) (gW gt)) (tt := liftT X.K X.mg (wT G c)) (g1 := liftG X.K X.mg (lentC X.N.length vs1) (gW g1)) (tt1 := liftT X.K X.mg (wT G c1)) (vs1 := vs1) g.calm g.nd (okI it g h2) ?_ hv ?_ ?_ ?_ ?_ ?_ ?_ (noSet_it h3) (fun env => noSet_it k2)) fun σ H Q hl w => by
        have := lc2_lift hv w
        rw [hl] at this
        exact this
      · rw [g.N, g.sc]; exact blkOk_by h1
      · intro s H C cl fp
        exact okG (fun i hi => not_lentC (by simpa using hi)) gt (g.blk s H x.scope cl C fp) h4
      · intro s H C cl fp
        have gb := g.blk s H x.scope cl C fp
        split at h5
        · rename_i e1
          rw [e1]
          split at h5
          · unfold wT
            exact ⟨fun pins s σ H Q I w => pts_nil.run pins s σ H Q I (yes_lift w)⟩
          · cases h5
        · rename_i i e1
          rw [e1]
          exact pts_one (okT c gb h5)
        · cases h5
      · intro s H C cl fp
        exact okI it1 (g.blk s H x.scope cl C fp) k1
      · intro s H C cl fp
        exact okG (fun i hi => not_lentC (by simpa using hi)) g1 (g.blk s H x.scope cl C fp) k3
      · intro s H C cl fp
        have gb := g.blk s H x.scope cl C fp
        split at k4
        · rename_i e1
          rw [e1]
          split at k4
          · unfold wT
            exact ⟨fun pins s σ H Q I w => pts_nil.run pins s σ H Q I (yes_lift w)⟩
          · cases k4
        · rename_i i e1
          rw [e1]
          exact pts_one (okT c1 gb k4)
        · cases k4
      · intro s H C cl fp
        exact okM m (g.blk s H x.scope cl C fp) h6
    · cases h
  | .isi ts tp a, B, X, sc, raw, e, g, h => by
    unfold ckM at h
    split at h
    · rename_i x hx
      obtain ⟨q, p, rfl⟩ := asCall_eq hx
      obtain ⟨x1, es, ks⟩ := x
      simp only [Bool.and_eq_true, decide_eq_true_eq, Bool.not_eq_true'] at h
      obtain ⟨⟨⟨h1, h2⟩, h3⟩, h4⟩ := h
      obtain rfl := List.isEmpty_iff.mp h3
      subst h1
      split at h4
      · rename_i y z
        simp only [Bool.and_eq_true] at h4
        obtain ⟨⟨⟨c1, c2⟩, c3⟩, c4⟩ := h4
        have hpa := opX_ok (okM a g c1) (ck_var g c1)
        have hp := ns_any (es := [z]) (env := X.env) (pos := p) (by rw [List.all_cons, c3]; rfl)
        unfold isiC at c4
        unfold wM
        split at c4
        · rename_i t
          obtain ⟨d1, d2⟩ := tyC_ok g c4
          refine PEimp (pe_callB call_isi (g.gl h2) (g.bn _ isi_nm) PyProof.Rows.boot_isinstance (pa_cons hpa (pa_cons d1 pa_nil (star_of d2)) (star_of c2)) isi_n1 isi_n2 (star_of c2) hp) fun σ H Q w => ?_
          rw [isiS_1] at w
          exact un_lift (ul_isi t) w
        · rename_i t ts
          split at c4
          · rename_i es hes
            obtain ⟨k, pz, rfl⟩ := asTup_eq hes
            rw [Bool.and_eq_true, decide_eq_true_eq] at c4
            obtain ⟨c4, c5⟩ := c4
            refine PEimp (pe_callB call_isiT (g.gl h2) (g.bn _ isi_nm) PyProof.Rows.boot_isinstance (pa_cons hpa (pa_cons (pe_tup (tysC_ok g c4)) pa_nil (star_of c3)) (star_of c2)) isi_n1 isi_n2 (star_of c2) hp) fun σ H Q w => ?_
            rw [isiS_t] at w
            have hsz : (t :: ts).length ≤ sizeLine := by rw [slen]; exact Nat.le_trans (Nat.le_of_lt_succ (by simpa using c5)) (by decide : 99 ≤ 16777216)
            have w2 := un_lift (r := fun x H Q => (t :: ts).length ≤ sizeLine ∧ rIsiN X.K (t :: ts) x H Q) (s := sIsiT (t :: ts)) (fun hot H x dx P Q hh rx q k => ⟨hsz, ul_isiT (by simp) hot H x dx P Q hh rx q k⟩) w
            obtain ⟨oh, τ, env, P, e0, S, t1, k1⟩ := w2
            refine ⟨oh, τ, env, P, e0, S, t1, fun v o env' H' b1 b2 b3 b4 b5 => ?_⟩
            obtain ⟨q1, q2⟩ := k1 v o env' H' b1 b2 b3 b4 b5
            show tTys (t :: ts) σ H' (fun xs H1 => xs.length ≤ sizeLine ∧ ∀ p, H1 p = none → rIsiT X.K [v, .ref p] (upd H1 p (.tup xs)) Q)
            rw [tTys_eq]
            exact ⟨by rw [List.length_map]; exact q1, fun p hp => q2 p hp⟩
          · cases c4
        · cases c4
      · cases h4
    · cases h
  | .dg1 a b, B, X, sc, raw, e, g, h => by
    unfold ckM at h
    cases h
  | .dg2 a b c, B, X, sc, raw, e, g, h => by
    unfold ckM at h
    cases h
  | .dnew, B, X, sc, raw, e, g, h => by
    unfold ckM at h
    cases h
  | .bdn, B, X, sc, raw, e, g, h => by
    unfold ckM at h
    cases h
  | .opv i, B, X, sc, raw, e, g, h => by
    unfold ckM at h
    cases h
  | .sda i k n a, B, X, sc, raw, e, g, h => by
    unfold ckM at h
    cases h
  | .sdx i k n a, B, X, sc, raw, e, g, h => by
    unfold ckM at h
    cases h
  | .gin k neg b, B, X, sc, raw, e, g, h => by
    unfold ckM at h
    cases h
  | .ext i a, B, X, sc, raw, e, g, h => by
    unfold ckM at h
    cases h
  | .opx a, B, X, sc, raw, e, g, h => by
    unfold ckM at h
    cases h
  | .tupb a, B, X, sc, raw, e, g, h => by
    unfold ckM at h
    cases h
  | .lstb a, B, X, sc, raw, e, g, h => by
    unfold ckM at h
    split at h
    · rename_i es hes
      obtain ⟨p, rfl⟩ := asLst_eq hes
      unfold wM
      exact PEimp (pe_lst (okA a g h)) fun σ H Q w => lstB_lift w
    · cases h
  | .mutb m i j a, B, X, sc, raw, e, g, h => by
    unfold ckM at h
    split at h
    · rename_i x hx
      obtain ⟨rfl, hl⟩ := asMeth_eq hx
      obtain ⟨x1, x2, x3, x4, x5⟩ := x
      simp only [Bool.and_eq_true, decide_eq_true_eq] at h
      obtain ⟨⟨⟨h1, h2⟩, h3⟩, h4⟩ := h
      subst h1
      split at h2
      · rename_i y hy
        obtain ⟨p, hy2⟩ := asSub_eq hy
        obtain ⟨y1, y2⟩ := y
        simp only at h2 hy2
        rw [Bool.and_eq_true] at h2
        obtain ⟨h5, h6⟩ := h2
        split at h5
        · rename_i z hz
          obtain ⟨q, rfl⟩ := asName_eq hz
          obtain ⟨k, q2, rfl⟩ := asCst_eq (of_decide_eq_true h6)
          subst hy2
          unfold wM
          exact mutB_ok m g (pe_ix ix_seq (g.var (by simpa using h5)) pe_int fun _ _ => rfl) hl h3 h4 (okFs a g h4)
        · cases h5
      · cases h2
    · cases h
  | .callr k a, B, X, sc, raw, e, g, h => by
    unfold ckM at h
    split at h
    · rename_i x hx
      obtain ⟨q, p, rfl⟩ := asCall_eq hx
      obtain ⟨x1, es, ks⟩ := x
      simp only [Bool.and_eq_true, decide_eq_true_eq, Bool.not_eq_true'] at h
      obtain ⟨⟨⟨⟨⟨h1, h2⟩, h3⟩, h4⟩, h6⟩, h5⟩ := h
      obtain rfl := List.isEmpty_iff.mp h4
      unfold wM
      split
      · rename_i f hf
        obtain ⟨kk, ad, fd, ps, hm, F, hr, hk, hb⟩ := g.fn k x1 f h1 hf
        have hs := ckMs_ns B a sc raw _ h5
        cases es with
        | nil => cases h6
        | cons e es =>
          rw [List.all_cons, Bool.and_eq_true] at hs
          exact PEimp (pe_callT F hr g.gd (g.gl h2) hm hk hb (okMs a g h5) (plainN_ok h3).1 (star_of hs.1) (ns_any hs.2)) fun σ H Q w => callR_lift w
      · exact ⟨fun pins s σ H Q I w => by obtain ⟨_, _, _, _, _, _, z, _⟩ := w; cases z⟩
    · cases h
  | .disp a b, B, X, sc, raw, e, g, h => by
    unfold ckM at h
    cases h
  | .rvk a k, B, X, sc, raw, e, g, h => by
    unfold ckM at h
    cases h
  | .dge a b, B, X, sc, raw, e, g, h => by
    unfold ckM at h
    cases h
  | .dge2 a b c, B, X, sc, raw, e, g, h => by
    unfold ckM at h
    cases h
  | .dup i a, B, X, sc, raw, e, g, h => by
    unfold ckM at h
    cases h
  | .ggt k b, B, X, sc, raw, e, g, h => by
    unfold ckM at h
    cases h
  | .rev a, B, X, sc, raw, e, g, h => by
    unfold ckM at h
    cases h
  | .lrg a, B, X, sc, raw, e, g, h => by
    unfold ckM at h
    cases h
  | .lenu a, B, X, sc, raw, e, g, h => by
    unfold ckM at h
    cases h
  | .chain o o' a b c, B, X, sc, raw, e, g, h => by
    unfold ckM at h
    cases h
  | .gix k b, B, X, sc, raw, e, g, h => by
    unfold ckM at h
    cases h
  | .callv i a, B, X, sc, raw, e, g, h => by
    unfold ckM at h
    cases h
  | .meth m o a, B, X, sc, raw, e, g, h => by
    unfold ckM at h
    split at h
    · rename_i x hx
      obtain ⟨rfl, hl⟩ := asMeth_eq hx
      obtain ⟨x1, x2, x3, x4, x5⟩ := x
      simp only [Bool.and_eq_true, decide_eq_true_eq, Bool.not_eq_true'] at h
      obtain ⟨⟨⟨⟨⟨h1, h2⟩, h3⟩, h4⟩, h5⟩, h6⟩ := h
      subst h1
      have hs := ckMs_ns B a sc raw _ h6
      unfold wM
      cases x3 with
      | nil => cases h5
      | cons e es => exact meth_ok g.un m (opX_ok (okM o g h3) (ck_var g h3)) h2 (okMs a g h6) hs h4 hl
    · cases h
  | .mutm m i a, B, X, sc, raw, e, g, h => by
    unfold ckM at h
    cases h
  | .dp1 i a, B, X, sc, raw, e, g, h => by
    unfold ckM at h
    cases h
  | .dp2 i a b, B, X, sc, raw, e, g, h => by
    unfold ckM at h
    cases h
  | .sdi a, B, X, sc, raw, e, g, h => by
    unfold ckM at h
    cases h
  | .sst a, B, X, sc, raw, e, g, h => by
    unfold ckM at h
    cases h
  | .lset a, B, X, sc, raw, e, g, h => by
    unfold ckM at h
    cases h
  | .upr a, B, X, sc, raw, e, g, h => by
    unfold ckM at h
    cases h
  | .bxl a, B, X, sc, raw, e, g, h => by
    unfold ckM at h
    cases h
  | .lcb own j gt c m, B, X, sc, raw, e, g, h => by
    unfold ckM at h
    split at h
    · rename_i x hx
      obtain ⟨p, rfl⟩ := asLc_eq hx
      simp only [Bool.and_eq_true, Bool.not_eq_true', decide_eq_false_iff_not] at h
      obtain ⟨⟨⟨⟨⟨⟨h1, h2⟩, h3⟩, h4⟩, h5⟩, h6⟩, h7⟩ := h
      split at h2
      · rename_i z hz
        obtain ⟨q, hq⟩ := asName_eq hz
        unfold wM
        refine PEimpL (pe_lc (g := liftG X.K X.mg (lentC X.N.length (own.map (·.2))) (gW gt)) (tt := liftT X.K X.mg (wT G c)) g.calm g.nd (pi_seq (by rw [hq]; exact g.var (by simpa using h2))) ?_ ?_ ?_ ?_ (noSet_it h3)) fun σ H Q hl w => by
          have := lcB_lift h7 w
          rw [hl] at this
          exact this
        · rw [g.N, g.sc]; exact blkOk_by h1
        · intro s H C cl fp
          exact okG (fun i hi => not_lentC (by simpa using hi)) gt (g.blk s H x.scope cl C fp) h4
        · intro s H C cl fp
          have gb := g.blk s H x.scope cl C fp
          split at h5
          · rename_i e1
            rw [e1]
            split at h5
            · unfold wT
              exact ⟨fun pins s σ H Q I w => pts_nil.run pins s σ H Q I (yes_lift w)⟩
            · cases h5
          · rename_i i e1
            rw [e1]
            exact pts_one (okT c gb h5)
          · cases h5
        · intro s H C cl fp
          exact okM m (g.blk s H x.scope cl C fp) h6
      · cases h2
    · cases h
  | .ixa i j k, B, X, sc, raw, e, g, h => by
    unfold ckM at h
    cases h
  | .eqn a, B, X, sc, raw, e, g, h => by
    unfold ckM at h
    cases h
  | .mua m j o a, B, X, sc, raw, e, g, h => by
    unfold ckM at h
    split at h
    · rename_i x hx
      obtain ⟨rfl, hl⟩ := asMeth_eq hx
      obtain ⟨x1, x2, x3, x4, x5⟩ := x
      simp only [Bool.and_eq_true, decide_eq_true_eq] at h
      obtain ⟨⟨⟨⟨h1, h2⟩, h3⟩, h4⟩, h5⟩ := h
      subst h1
      unfold wM
      exact mutA_ok m g (okM o g h3) h2 hl h4 h5 (okFs a g h5)
    · cases h
  | .callw k i j, B, X, sc, raw, e, g, h => by
    unfold ckM at h
    cases h
  | .callq k i a b, B, X, sc, raw, e, g, h => by
    unfold ckM at h
    cases h
  | .srtz a b n m, B, X, sc, raw, e, g, h => by
    unfold ckM at h
    cases h
  | .srt a n m, B, X, sc, raw, e, g, h => by
    unfold ckM at h
    cases h
  | .lrep a b, B, X, sc, raw, e, g, h => by
    unfold ckM at h
    split at h
    · rename_i x hx
      obtain ⟨p, rfl⟩ := asBin_eq hx
      obtain ⟨x1, x2, x3⟩ := x
      simp only [Bool.and_eq_true, decide_eq_true_eq] at h
      obtain ⟨⟨h1, h2⟩, h3⟩ := h
      subst h1
      split at h2
      · rename_i es hes
        obtain ⟨q, rfl⟩ := asLst_eq hes
        unfold wM
        exact PEimp (pe_op op_rep (PEimp (pe_lst (okFs a g h2)) fun σ H Q w => lst_lift w) (opX_ok (okM b g h3) (ck_var g h3))) fun σ H Q w => lrep_lift w
      · cases h2
    · cases h
theorem okMl : ∀ (a : Ms) {B : Tb} {X : Cx} {sc raw : Scope} {es : List Expr}, GoodX X B G sc raw → ckMs B a sc raw es = true → PEs X es ((wMl G a).map (liftE X.K X.mg))
  | .nil, B, X, sc, raw, es, g, h => by
    unfold ckMs at h
    cases es with
    | nil => unfold wMl; exact .nil
    | cons _ _ => cases h
  | .cons a r, B, X, sc, raw, es, g, h => by
    unfold ckMs at h
    cases es with
    | nil => cases h
    | cons e es =>
      simp only [Bool.and_eq_true] at h
      unfold wMl
      exact .cons (okM a g h.1.1) (okMl r g h.2)
theorem okMs : ∀ (a : Ms) {B : Tb} {X : Cx} {sc raw : Scope} {es : List Expr}, GoodX X B G sc raw → ckMs B a sc raw es = true → PA X es (liftXs X.K X.mg (wXs G a))
  | .nil, B, X, sc, raw, es, g, h => by
    unfold ckMs at h
    rw [List.isEmpty_iff.mp h]
    unfold wXs
    exact pa_nilD
  | .cons a r, B, X, sc, raw, es, g, h => by
    unfold ckMs at h
    split at h
    · cases h
    · simp only [Bool.and_eq_true] at h
      unfold wXs
      exact pa_consD (opX_ok (okM a g h.1.1) (ck_var g h.1.1)) (okMs r g h.2) h.1.2
theorem okFs : ∀ (a : Ms) {B : Tb} {X : Cx} {sc raw : Scope} {es : List Expr}, GoodX X B G sc raw → ckMs B a sc raw es = true → PA X es (liftXs X.K X.mg (wFs G a))
  | .nil, B, X, sc, raw, es, g, h => by
    unfold ckMs at h
    rw [List.isEmpty_iff.mp h]
    unfold wFs
    exact pa_nilD
  | .cons a r, B, X, sc, raw, es, g, h => by
    unfold ckMs at h
    split at h
    · cases h
    · simp only [Bool.and_eq_true] at h
      unfold wFs
      exact pa_consD (px_tm (okM a g h.1.1)) (okFs r g h.2) h.1.2
theorem okK : ∀ (a : Ms) {B : Tb} {X : Cx} {sc raw : Scope} {es : List Keyword}, GoodX X B G sc raw → ckK B a sc raw es = true → PK X es (liftXs X.K X.mg (wFs G a))
  | .nil, B, X, sc, raw, es, g, h => by
    unfold ckK at h
    rw [List.isEmpty_iff.mp h]
    unfold wFs
    exact pk_nilD
  | .cons a r, B, X, sc, raw, es, g, h => by
    unfold ckK at h
    split at h
    · cases h
    · rename_i e es
      obtain ⟨nm, e, kp⟩ := e
      simp only [Bool.and_eq_true] at h
      unfold wFs
      exact pk_consD (px_tm (okM a g h.1)) (okK r g h.2)
theorem okBo : ∀ (a : Ms) (c : Bool) {B : Tb} {X : Cx} {sc raw : Scope} {es : List Expr} {o : BoolOp} {p : Pos}, GoodX X B G sc raw → isAnd o = c → ckBo B a sc raw es = true → PE X (.BoolOp o es p) (liftE X.K X.mg (wBo G c a))
  | .nil, c, B, X, sc, raw, es, o, p, g, ho, h => by
    unfold ckBo at h; cases h
  | .cons a r, c, B, X, sc, raw, es, o, p, g, ho, h => by
    unfold ckBo at h
    split at h
    · cases h
    · rename_i e es
      split at h
      · simp only [Bool.and_eq_true] at h
        rw [List.isEmpty_iff.mp h.2]
        unfold wBo
        exact pe_one (okM a g h.1)
      · rename_i hr
        simp only [Bool.and_eq_true, Bool.not_eq_true'] at h
        have ha := okM a g h.1.1
        cases es with
        | nil => cases h.1.2
        | cons e2 es =>
          have hb := okBo (p := p) r c g ho h.2
          unfold wBo
          cases o with
          | And =>
            subst ho
            split
            · exact (hr rfl).elim
            · exact PEimp (pe_andT ha hb) fun σ H Q w => andV_lift w
          | Or =>
            subst ho
            split
            · exact (hr rfl).elim
            · exact PEimp (pe_orT ha hb) fun σ H Q w => orV_lift w
theorem okO : ∀ (a : Mo) {B : Tb} {X : Cx} {sc raw : Scope} {e : Option Expr}, GoodX X B G sc raw → ckO B a sc raw e = true → PO X e (liftO X.K X.mg (wOo G a))
  | .no, B, X, sc, raw, e, g, h => by
    unfold ckO at h
    unfold wOo
    rw [Option.isNone_iff_eq_none.mp h]
    exact po_noneD
  | .so a, B, X, sc, raw, e, g, h => by
    unfold ckO at h
    unfold wOo
    split at h
    · exact po_someD (okM a g h)
    · cases h
theorem okA : ∀ (a : As) {B : Tb} {X : Cx} {sc raw : Scope} {es : List Expr}, GoodX X B G sc raw → ckA B a sc raw es = true → PA X es (liftAs X.K X.mg (wAs G a))
  | .nil, B, X, sc, raw, es, g, h => by
    unfold ckA at h
    rw [List.isEmpty_iff.mp h]
    unfold wAs
    exact pas_nil
  | .lend i r, B, X, sc, raw, es, g, h => by
    unfold ckA at h
    split at h
    · cases h
    · simp only [Bool.and_eq_true] at h
      obtain ⟨h1, h2⟩ := h
      split at h1
      · rename_i x hx
        obtain ⟨p, rfl⟩ := asName_eq hx
        unfold wAs
        exact pas_cons (p1_ls (g.var (by simpa using h1))) (okA r g h2) rfl
      · cases h1
  | .mv i r, B, X, sc, raw, es, g, h => by
    unfold ckA at h
    split at h
    · cases h
    · simp only [Bool.and_eq_true] at h
      obtain ⟨h1, h2⟩ := h
      split at h1
      · rename_i x hx
        obtain ⟨p, rfl⟩ := asName_eq hx
        unfold wAs
        exact pas_cons (p1_mv (g.var (by simpa using h1))) (okA r g h2) rfl
      · cases h1
  | .own a r, B, X, sc, raw, es, g, h => by
    unfold ckA at h
    split at h
    · cases h
    · simp only [Bool.and_eq_true] at h
      unfold wAs
      exact pas_cons (p1_own (okM a g h.1.1)) (okA r g h.2) h.1.2
  | .fro a r, B, X, sc, raw, es, g, h => by
    unfold ckA at h
    split at h
    · cases h
    · simp only [Bool.and_eq_true] at h
      unfold wAs
      exact pas_cons (p1_fro (okM a g h.1.1)) (okA r g h.2) h.1.2
theorem okT : ∀ (a : T) {B : Tb} {X : Cx} {sc raw : Scope} {e : Expr}, GoodX X B G sc raw → ckT B a sc raw e = true → PT X e (liftT X.K X.mg (wT G a))
  | .yes, B, X, sc, raw, e, g, h => by unfold ckT at h; cases h
  | .eqn a, B, X, sc, raw, e, g, h => by
    unfold ckT at h
    cases h
  | .val a, B, X, sc, raw, e, g, h => by
    unfold ckT at h
    simp only [Bool.and_eq_true] at h
    unfold wT
    exact PTimp (pt_truth (opX_ok (okM a g h.1) (ck_var g h.1)) (plainT_ok h.2)) fun σ H Q w => tru_lift w
  | .gin k neg b, B, X, sc, raw, e, g, h => by
    unfold ckT at h
    cases h
  | .cmp o a b, B, X, sc, raw, e, g, h => by
    unfold ckT at h
    split at h
    · rename_i x hx
      obtain ⟨p, rfl⟩ := asCmp_eq hx
      simp only [Bool.and_eq_true, decide_eq_true_eq] at h
      unfold wT
      rw [h.1.1.1]
      refine PTimp (pt_cmpR (co_ok g.un o).1 (opX_ok (okM a g h.1.1.2) (ck_var g h.1.1.2)) (opX_ok (okM b g h.1.2) (ck_var g h.1.2)) (noSet_beh h.2)) fun σ H Q w => ?_
      exact bin_lift (co_ok g.un o).2 (tb_lift w)
    · cases h
  | .chain o o' a b c, B, X, sc, raw, e, g, h => by
    unfold ckT at h
    cases h
  | .not t, B, X, sc, raw, e, g, h => by
    unfold ckT at h
    split at h
    · rename_i x hx
      obtain ⟨p, rfl⟩ := asUn_eq hx
      simp only [Bool.and_eq_true, decide_eq_true_eq, Bool.not_eq_true'] at h
      unfold wT
      rw [h.1]
      exact PTimp (pt_not (okT t g h.2)) fun σ H Q w => not_lift w
    · cases h
  | .bop c a, B, X, sc, raw, e, g, h => by
    unfold ckT at h
    split at h
    · rename_i x hx
      obtain ⟨p, rfl⟩ := asBool_eq hx
      obtain ⟨x1, es⟩ := x
      simp only [Bool.and_eq_true, decide_eq_true_eq, Bool.not_eq_true'] at h
      unfold wT
      exact (okTs a c g h.1 h.2).pt
    · cases h
theorem okTs : ∀ (a : Ts) (c : Bool) {B : Tb} {X : Cx} {sc raw : Scope} {es : List Expr} {o : BoolOp} {p : Pos}, GoodX X B G sc raw → isAnd o = c → ckTs B a sc raw es = true → PW X (.BoolOp o es p) (liftT X.K X.mg (wTs G c a))
  | .nil, c, B, X, sc, raw, es, o, p, g, ho, h => by
    unfold ckTs at h; cases h
  | .cons a r, c, B, X, sc, raw, es, o, p, g, ho, h => by
    unfold ckTs at h
    split at h
    · cases h
    · rename_i e es
      split at h
      · simp only [Bool.and_eq_true] at h
        rw [List.isEmpty_iff.mp h.2]
        unfold wTs
        cases o with
        | And => exact pw_and1 (okT a g h.1)
        | Or => exact pw_or1 (okT a g h.1)
      · rename_i hr
        simp only [Bool.and_eq_true, Bool.not_eq_true'] at h
        have ha := okT a g h.1.1
        cases es with
        | nil => cases h.1.2
        | cons e2 es =>
          have hb := okTs (p := p) r c g ho h.2
          unfold wTs
          cases o with
          | And =>
            subst ho
            split
            · exact (hr rfl).elim
            · exact PWimp (pw_and ha hb) fun σ H Q w => and_lift w
          | Or =>
            subst ho
            split
            · exact (hr rfl).elim
            · exact PWimp (pw_or ha hb) fun σ H Q w => or_lift w
theorem okI : ∀ (a : I) {B : Tb} {X : Cx} {sc raw : Scope} {tg e : Expr}, GoodX X B G sc raw → ckI B a sc raw tg e = true → PI X tg e (liftI X.K X.mg (wI G a))
  | .seq a, B, X, sc, raw, tg, e, g, h => by
    unfold ckI at h
    unfold wI
    exact PIimp (pi_seqA (okM a g h)) fun σ H R w => seqA_items w
  | .rng1 a, B, X, sc, raw, tg, e, g, h => by
    unfold ckI at h
    split at h
    · rename_i x hx
      obtain ⟨q, p, rfl⟩ := asCall_eq hx
      obtain ⟨x1, es, ks⟩ := x
      simp only [Bool.and_eq_true, decide_eq_true_eq, Bool.not_eq_true'] at h
      obtain ⟨⟨⟨h1, h2⟩, h3⟩, h4⟩ := h
      obtain rfl := List.isEmpty_iff.mp h3
      subst h1
      split at h4
      · rename_i y
        simp only [Bool.and_eq_true] at h4
        unfold wI
        exact PIimp (pi_range1 (g.gl h2) (g.bn _ range_nm) (pa_consD (px_tm (okM a g h4.1)) pa_nilD h4.2) (by rw [star_of h4.2]; rfl)) fun σ H R w => rng1_items w
      · cases h4
    · cases h
  | .rng2 a b, B, X, sc, raw, tg, e, g, h => by
    unfold ckI at h
    cases h
  | .enu a, B, X, sc, raw, tg, e, g, h => by
    unfold ckI at h
    split at h
    · rename_i x hx
      obtain ⟨q, p, rfl⟩ := asCall_eq hx
      obtain ⟨x1, es, ks⟩ := x
      simp only [Bool.and_eq_true, decide_eq_true_eq, Bool.not_eq_true'] at h
      obtain ⟨⟨⟨⟨h1, h2⟩, h3⟩, h5⟩, h4⟩ := h
      obtain rfl := List.isEmpty_iff.mp h3
      obtain ⟨te, ht⟩ := Option.isSome_iff_exists.mp h5
      obtain ⟨kt, pt, rfl⟩ := asTup_eq ht
      subst h1
      split at h4
      · rename_i y
        simp only [Bool.and_eq_true] at h4
        unfold wI
        exact PIimp (pi_enumA (g.gl h2) (g.bn _ enum_nm) (pa_consD (px_tm (okM a g h4.1)) pa_nilD h4.2) (by rw [star_of h4.2]; rfl)) fun σ H R w => enumA_items w
      · cases h4
    · cases h
  | .zip a b, B, X, sc, raw, tg, e, g, h => by
    unfold ckI at h
    split at h
    · rename_i x hx
      obtain ⟨q, p, rfl⟩ := asCall_eq hx
      obtain ⟨x1, es, ks⟩ := x
      simp only [Bool.and_eq_true, decide_eq_true_eq, Bool.not_eq_true'] at h
      obtain ⟨⟨⟨⟨h1, h2⟩, h3⟩, h5⟩, h4⟩ := h
      obtain rfl := List.isEmpty_iff.mp h3
      obtain ⟨te, ht⟩ := Option.isSome_iff_exists.mp h5
      obtain ⟨kt, pt, rfl⟩ := asTup_eq ht
      subst h1
      split at h4
      · rename_i y z
        simp only [Bool.and_eq_true] at h4
        obtain ⟨⟨⟨a1, a2⟩, a3⟩, a4⟩ := h4
        unfold wI
        exact PIimp (RZ.pi_zipA (g.gl h2) (g.bn _ zip_nm) (pa_consD (px_tm (okM a g a1)) (pa_consD (px_tm (okM b g a3)) pa_nilD a4) a2) (star_of a2) (ns_any (by rw [List.all_cons, a4]; rfl))) fun σ H R w => zipA_items w
      · cases h4
    · cases h
  | .keys i, B, X, sc, raw, tg, e, g, h => by
    unfold ckI at h
    cases h
  | .zips a b, B, X, sc, raw, tg, e, g, h => by
    unfold ckI at h
    cases h
  | .zip3 a b c, B, X, sc, raw, tg, e, g, h => by
    unfold ckI at h
    cases h
end
end
end TL
namespace TL
open PySem PySem.Spec PyProof.Rows L2
theorem setAll_snoc {α : Type} : ∀ {is : List Nat} {l xs : List α} {i : Nat} {x : α}, is.length = xs.length → setAll l (is ++ [i]) (xs ++ [x]) = (setAll l is xs).set i x
  | [], l, [], i, x, _ => rfl
  | j :: is, l, y :: xs, i, x, h => setAll_snoc (l := l.set j y) (by simpa using h)
theorem setAll_set {α : Type} : ∀ {is : List Nat} {l xs : List α} {i : Nat} {x : α}, i ∉ is → setAll (l.set i x) is xs = (setAll l is xs).set i x
  | [], l, xs, i, x, _ => by cases xs <;> rfl
  | j :: is, l, [], i, x, h => rfl
  | j :: is, l, y :: xs, i, x, h => by
    show setAll ((l.set i x).set j y) is xs = (setAll (l.set j y) is xs).set i x
    rw [List.set_comm _ _ (fun e => h (by rw [e]; exact List.mem_cons_self)), setAll_set fun z => h (List.mem_cons_of_mem _ z)]
theorem setAll_rev {α : Type} : ∀ {is : List Nat} {l xs : List α}, is.Nodup → is.length = xs.length → setAll l is.reverse xs.reverse = setAll l is xs
  | [], l, [], _, _ => rfl
  | j :: is, l, y :: xs, n, h => by
    have n' := List.nodup_cons.mp n
    rw [List.reverse_cons, List.reverse_cons, setAll_snoc (by simpa using h), setAll_rev n'.2 (by simpa using h)]
    exact (setAll_set n'.1).symm
def noComp : Expr → Bool
  | .ListComp _ _ _ _ => false
  | .SetComp _ _ _ _ => false
  | .DictComp _ _ _ _ _ => false
  | _ => true
def stNames (sc : Scope) (line : Nat) (ts : List Expr) : List Str := ts.filterMap fun
  | .Name id pos => if sc.names.lookup id == some .local && pos.line == line then some id else none
  | _ => none
def swNone (sc : Scope) (t e : Expr) : Bool := match t, e with
  | .Tuple ts _ _, .Tuple vs _ _ => !(ts.length == 2 || ts.length == 3) || vs.length != ts.length || ((stNames sc ((ts.head?.map (·.pos.line)).getD 0) ts).length != ts.length) || vs.all (foldedForSure 8)
  | .List _ _, .Tuple _ _ _ => false
  | _, _ => true
def swSome (sc : Scope) (t e : Expr) (ns : List Str) : Bool := match t, e with
  | .Tuple ts _ _, .Tuple vs _ _ => (match sc.kind with | .function => true | _ => false) && (ts.length == 2 || ts.length == 3) && vs.length == ts.length && vs.all noStar && decide (stNames sc ((ts.head?.map (·.pos.line)).getD 0) ts = ns) && ns.length == ts.length &&
    decide (ns.eraseDups.length = ns.length) && !vs.all (foldedForSure 8) && !vs.all (constantsAlone 8)
  | _, _ => false
def isStar : Expr → Bool
  | .Starred _ _ => true
  | _ => false
theorem star_not (x : Expr) : isStar x = !noStar x := by cases x <;> rfl
theorem sw_unf {env : Env} {ts vs : List Expr} {k k2 : Nat} {p p2 : Pos} : swappedStores [.Tuple ts k p] (.Tuple vs k2 p2) env =
    (if (!(ts.length == 2 || ts.length == 3) || vs.length != ts.length || env.blockKind != .function) = true then pure none
    else if vs.any isStar = true then pure none
    else if ((stNames env.scope ((ts.head?.map (·.pos.line)).getD 0) ts).length != ts.length || (stNames env.scope ((ts.head?.map (·.pos.line)).getD 0) ts).eraseDups.length != (stNames env.scope ((ts.head?.map (·.pos.line)).getD 0) ts).length) = true then pure none
    else if vs.all (foldedForSure 8) = true then pure none
    else if vs.all (constantsAlone 8) = true then (do unsupported "assign.tuple-of-constant-expressions:order-of-the-stores"; pure (some (stNames env.scope ((ts.head?.map (·.pos.line)).getD 0) ts)))
    else pure (some (stNames env.scope ((ts.head?.map (·.pos.line)).getD 0) ts))) := by
  rfl
theorem swNone_ok {X : Cx} {sc : Scope} {t e : Expr} (hs : X.env.scope = sc) (h : swNone sc t e = true) : swappedStores [t] e X.env = pure none := by
  unfold swNone at h
  split at h
  · rename_i ts k p vs k2 p2
    rw [sw_unf, hs]
    simp only [Bool.or_eq_true] at h
    by_cases c1 : (!(ts.length == 2 || ts.length == 3) || vs.length != ts.length || X.env.blockKind != .function) = true
    · rw [if_pos c1]
    · rw [if_neg c1]
      simp only [Bool.or_eq_true, not_or] at c1
      by_cases c2 : vs.any isStar = true
      · rw [if_pos c2]
      · rw [if_neg c2]
        rcases h with ((h | h) | h) | h
        · exact (c1.1.1 (by simpa using h)).elim
        · exact (c1.1.2 h).elim
        · rw [if_pos (by rw [Bool.or_eq_true]; exact .inl h)]
        · split
          · rfl
          · first | rfl | rw [if_pos h]
  · cases h
  · rename_i h1 h2
    cases t <;> cases e <;> first | rfl | exact (h1 _ _ _ _ _ _ rfl rfl).elim | exact (h2 _ _ _ _ _ rfl rfl).elim
theorem swSome_ok {X : Cx} {sc : Scope} {t e : Expr} {ns : List Str} (hs : X.env.scope = sc) (h : swSome sc t e ns = true) : ∃ ts k p vs k2 p2, t = .Tuple ts k p ∧ e = .Tuple vs k2 p2 ∧ swappedStores [t] e X.env = pure (some ns) := by
  unfold swSome at h
  split at h
  · rename_i ts k p vs k2 p2
    refine ⟨ts, k, p, vs, k2, p2, rfl, rfl, ?_⟩
    simp only [Bool.and_eq_true, decide_eq_true_eq, Bool.not_eq_true'] at h
    obtain ⟨⟨⟨⟨⟨⟨⟨⟨a1, a2⟩, a3⟩, a4⟩, a5⟩, a6⟩, a7⟩, a8⟩, a9⟩ := h
    have hk : sc.kind = .function := by
      split at a1
      · assumption
      · cases a1
    have hb : X.env.blockKind = .function := by unfold Env.blockKind; rw [hs, hk]; rfl
    have l1 : vs.length = ts.length := by simpa using a3
    have l2 : ns.length = ts.length := by simpa using a6
    have hst : vs.any isStar = false := by
      rw [List.any_eq_false]
      intro x hx
      have h1 := List.all_eq_true.mp a4 x hx
      rw [star_not, h1]; decide
    rw [sw_unf, hs, a5, if_neg (by rw [a2, hb, l1]; simp), if_neg (by rw [hst]; decide), if_neg (by rw [a7, l2]; simp), if_neg (by rw [a8]; decide), if_neg (by rw [a9]; decide)]
  · cases h
def swF (sc : Scope) (t e : Expr) : Bool := match e with
  | .ListComp _ _ s p => (match t with
    | .Name y q => !(sc.names.lookup y == some .local) || !(q.line == p.line) || (s.names.any fun (n, k) => n == y && (k == .local || k == .cell))
    | _ => true)
  | .SetComp _ _ _ _ => false
  | .DictComp _ _ _ _ _ => false
  | _ => true
theorem swF_ok {X : Cx} {sc : Scope} {t e : Expr} {l : Nat} (hs : X.env.scope = sc) (h : swF sc t e = true) : swapsWith e (some t) l X.env = pure false := by
  unfold swF at h
  split at h
  · rename_i el gs s p
    split at h
    · rename_i y q
      unfold swapsWith
      show (pure (X.env.blockKind == .function && X.env.kindOf y == some .local && q.line == p.line && !(s.names.any fun (n, k) => n == y && (k == .local || k == .cell))) : Sem Bool) = pure false
      have ky : X.env.kindOf y = sc.names.lookup y := by rw [← hs]; rfl
      rw [ky]
      congr 1
      simp only [Bool.or_eq_true, Bool.not_eq_true'] at h
      rcases h with (h | h) | h
      · rw [h]; simp
      · rw [h]; simp
      · rw [h]; simp
    · rename_i hn
      cases t <;> first | rfl | exact (hn _ _ rfl).elim
  · cases h
  · cases h
  · rename_i h1 h2 h3
    cases e <;> first | rfl | exact (h1 _ _ _ _ rfl).elim | exact (h2 _ _ _ _ rfl).elim | exact (h3 _ _ _ _ _ rfl).elim
theorem noComp_ok {X : Cx} {e : Expr} {l : Nat} (h : noComp e = true) : swapsWith e none l X.env = pure false := by
  cases e <;> first | rfl | cases h
def asAsg : Stmt → Option (Expr × Expr × Pos)
  | .Assign [t] e p => some (t, e, p)
  | _ => none
theorem asAsg_eq {s : Stmt} {x} (h : asAsg s = some x) : s = .Assign [x.1] x.2.1 x.2.2 := by
  unfold asAsg at h
  split at h <;> first | (cases h; rfl) | cases h
def asExp : Stmt → Option Expr
  | .Expr e _ => some e
  | _ => none
theorem asExp_eq {s : Stmt} {x} (h : asExp s = some x) : ∃ p, s = .Expr x p := by
  unfold asExp at h
  split at h <;> first | (cases h; exact ⟨_, rfl⟩) | cases h
def asApp : Expr → Option (Str × Expr × Pos × Pos)
  | .Call (.Attribute (.Name x _) n ap) [e] [] cp => if n == "append" && ap.endLine == cp.line then some (x, e, ap, cp) else none
  | _ => none
theorem asApp_eq {e : Expr} {x} (h : asApp e = some x) : ∃ q, e = .Call (.Attribute (.Name x.1 q) "append" x.2.2.1) [x.2.1] [] x.2.2.2 ∧ (x.2.2.1.endLine == x.2.2.2.line) = true := by
  unfold asApp at h
  split at h
  · split at h
    · rename_i c
      simp only [Bool.and_eq_true, beq_iff_eq] at c
      cases h
      obtain ⟨rfl, c2⟩ := c
      exact ⟨_, rfl, by simpa using c2⟩
    · cases h
  · cases h
def asIfS : Stmt → Option (Expr × List Stmt × List Stmt)
  | .If c a b _ => some (c, a, b)
  | _ => none
theorem asIfS_eq {s : Stmt} {x} (h : asIfS s = some x) : ∃ p, s = .If x.1 x.2.1 x.2.2 p := by
  unfold asIfS at h
  split at h <;> first | (cases h; exact ⟨_, rfl⟩) | cases h
def asFor : Stmt → Option (Expr × Expr × List Stmt)
  | .For t i b [] _ => some (t, i, b)
  | _ => none
theorem asFor_eq {s : Stmt} {x} (h : asFor s = some x) : ∃ p, s = .For x.1 x.2.1 x.2.2 [] p := by
  unfold asFor at h
  split at h <;> first | (cases h; exact ⟨_, rfl⟩) | cases h
def asRet : Stmt → Option (Option Expr)
  | .Return e _ => some e
  | _ => none
theorem asRet_eq {s : Stmt} {x} (h : asRet s = some x) : ∃ p, s = .Return x p := by
  unfold asRet at h
  split at h <;> first | (cases h; exact ⟨_, rfl⟩) | cases h
def isPass : Stmt → Bool
  | .Pass _ => true
  | _ => false
theorem isPass_eq {s : Stmt} (h : isPass s = true) : ∃ p, s = .Pass p := by
  unfold isPass at h
  split at h <;> first | exact ⟨_, rfl⟩ | cases h
def lcSw (sc : Scope) (t e : Expr) : Bool := match t, e with
  | .Name y py, .ListComp _ _ s p => (match sc.kind with | .function => true | _ => false) && (sc.names.lookup y == some .local) && (py.line == p.line) && !(s.names.any fun (n, k) => n == y && (k == .local || k == .cell))
  | _, _ => false
mutual
def ckS (B : Tb) (lent : List Nat) : S → Scope → Scope → Stmt → Bool
  | .asg gt m, sc, raw, s => match asAsg s with
    | some x => ckG B (fun i => !decide (i ∈ lent)) gt sc raw x.1 && ckM B m sc raw x.2.1 && ((swF sc x.1 x.2.1 && swNone sc x.1 x.2.1) || lcSw sc x.1 x.2.1) && noStar x.1
    | none => false
  | .par is a, sc, raw, s => match asAsg s with
    | some x => match asTup x.2.1 with
      | some es => ckA B a sc raw es && decide (is.Nodup) && decide (is.length ≤ 16777216) && (is.all fun i => !decide (i ∈ lent)) && (is.all fun i => match B.N[i]? with | some y => (match sc.names.lookup y with | some .local => true | _ => false) | none => false) &&
        swSome sc x.1 x.2.1 (is.map fun i => (B.N[i]?).getD "")
      | none => false
    | none => false
  | .parT is a, sc, raw, s => false
  | .setI i ix m, sc, raw, s => match asAsg s with
    | some x => match asSub x.1 with
      | some y => (match asName y.1 with | some z => decide (B.N[i]? = some z) && visC sc z && plainN z | none => false) && ckM B ix sc raw y.2 && noSlice y.2 && ckM B m sc raw x.2.1 && swF sc x.1 x.2.1
      | none => false
    | none => false
  | .aug i o m, sc, raw, s => false
  | .app i m, sc, raw, s => match asExp s with
    | some e => match asApp e with
      | some x => decide (B.N[i]? = some x.1) && visC sc x.1 && plainN x.1 && ckM B m sc raw x.2.1 && noStar x.2.1
      | none => false
    | none => false
  | .appo i m, sc, raw, s => match asExp s with
    | some e => match asApp e with
      | some x => decide (B.N[i]? = some x.1) && visC sc x.1 && plainN x.1 && ckM B m sc raw x.2.1 && noStar x.2.1
      | none => false
    | none => false
  | .exp m, sc, raw, s => match asExp s with | some e => ckM B m sc raw e && noComp e | none => false
  | .iff c a b, sc, raw, s => match asIfS s with | some x => ckT B c sc raw x.1 && ckSs B lent a sc raw x.2.1 && ckSs B lent b sc raw x.2.2 | none => false
  | .loop it gt b, sc, raw, s => match asFor s with | some x => ckI B it sc raw x.1 x.2.1 && noSet x.2.1 && ckG B (fun i => !decide (i ∈ lent)) gt sc raw x.1 && ckSs B lent b sc raw x.2.2 | none => false
  | .loopb j i b, sc, raw, s => match asFor s with | some x => (match asName x.2.1 with | some z => decide (B.N[j]? = some z) && visC sc z && plainN z | none => false) && noSet x.2.1 && ckG B (fun k => !decide (k ∈ j :: lent)) (.name i) sc raw x.1 && ckSs B (j :: lent) b sc raw x.2.2 | none => false
  | .ret m, sc, raw, s => match asRet s with | some (some e) => ckM B m sc raw e | _ => false
  | .retv i, sc, raw, s => match asRet s with
    | some (some e) => match asName e with | some z => decide (B.N[i]? = some z) && visC sc z && plainN z | none => false
    | _ => false
  | .retn, _, _, s => false
  | .brk, _, _, s => false
  | .cont, _, _, s => false
  | .pass, _, _, s => isPass s
  | .nev, _, _, s => true
  | .sdc i own it g c kx m, sc, raw, s => false
  | .set2 i ix j jx m, sc, raw, s => false
  | .tryb b, sc, raw, s => false
def ckSs (B : Tb) (lent : List Nat) : Ss → Scope → Scope → List Stmt → Bool
  | .nil, _, _, ss => ss.isEmpty
  | .cons a r, sc, raw, ss => match ss with
    | [] => false
    | s :: ss => ckS B lent a sc raw s && ckSs B lent r sc raw ss
end
end TL
namespace TL
open PySem PySem.Spec PyProof.Rows L2
section
variable {B : Tb} {G : Gm} {lent : List Nat}
theorem get_map {is : List Nat} {α : Type} {f : Nat → α} {j : Nat} (h' : j < (is.map f).length) : (is.map f)[j] = f (is[j]'(by simpa using h')) := List.getElem_map ..
theorem setI_as {X : Cx} {o i : Expr} {pos : Pos} (h : noSlice i = true) : ∀ v, assign (.Subscript o i pos) X.env v = (do
      let ov ← holding [v] (eval o X.env)
      let iv ← holding [v, ov] (eval i X.env)
      standAt pos
      holding [v, ov, iv] (setItem ov iv v)
      release [v, ov, iv] []) := fun v => by cases i <;> first | rfl | cases h
theorem single_as {X : Cx} {t : Expr} (h : noStar t = true) : (assignEach [t] X.env).map (·.2) = [assign t X.env] := by rw [assign_of h]; rfl
mutual
theorem okS {lent : List Nat} : ∀ (a : S) {X : Cx} {sc raw : Scope} {s : Stmt}, GoodX X B G sc raw → ckS B lent a sc raw s = true → PS X s (liftS X.K X.mg lent (wS G a))
  | .asg gt m, X, sc, raw, s, g, h => by
    unfold ckS at h
    split at h
    · rename_i x hx
      obtain rfl := asAsg_eq hx
      obtain ⟨t, e, p⟩ := x
      simp only [Bool.and_eq_true] at h
      obtain ⟨⟨⟨h1, h2⟩, h3⟩, h4⟩ := h
      have hg := okG (lent := lent) (fun i hi => by simpa using hi) gt g h1
      have he := okM m g h2
      rw [Bool.or_eq_true] at h3
      unfold wS
      rcases h3 with h3 | h3
      · rw [Bool.and_eq_true] at h3
        exact PSimp (ps_asg he hg (swF_ok g.sc h3.1) (swNone_ok g.sc h3.2) (single_as h4)) fun D σ H w => asg_lift w
      · unfold lcSw at h3
        split at h3
        · rename_i t e y py el gs s2 p2
          cases m with
          | lc own it gt2 c m =>
            unfold ckM at h2
            split at h2
            · rename_i x hx
              obtain ⟨p3, e3⟩ := asLc_eq hx
              cases e3
              simp only [Bool.and_eq_true] at h2
              obtain ⟨⟨⟨⟨⟨h1', h2⟩, h3'⟩, h4⟩, h5⟩, h6⟩ := h2
              simp only [Bool.and_eq_true, Bool.not_eq_true', beq_iff_eq] at h3
              obtain ⟨⟨⟨k1, k2⟩, k3⟩, k4⟩ := h3
              have hk : X.env.scope.kind = .function := by
                rw [g.sc]
                split at k1
                · assumption
                · cases k1
              cases gt with
              | tup r => unfold ckG at h1; cases h1
              | ix a b => unfold ckG at h1; cases h1
              | name i =>
                unfold ckG at h1
                simp only [asName, Bool.and_eq_true, decide_eq_true_eq] at h1
                refine ⟨fun pins s σ H D I w => ?_⟩
                refine (ps_setLc (g := liftG X.K X.mg (lentC X.N.length (own.map (·.2))) (gW gt2)) (tt := liftT X.K X.mg (wT G c)) (te := liftE X.K X.mg (wM G m)) g.calm g.nd (by rw [g.N]; exact h1.1.1) (by rw [g.sc]; exact k2)
                  (sw_true hk (by rw [g.sc]; exact k2) (by simpa using k3) k4) (okI it g h2) (by rw [g.N, g.sc]; exact blkOk_by h1') ?_ ?_ ?_ (noSet_it h3')).run pins s σ H D I ?_
                · intro s H C cl fp
                  exact okG (fun i hi => not_lentC (by simpa using hi)) gt2 (g.blk s H x.scope cl C fp) h4
                · intro s H C cl fp
                  have gb := g.blk s H x.scope cl C fp
                  split at h5
                  · rename_i e1
                    rw [e1]
                    split at h5
                    · unfold wT
                      exact ⟨fun pins s σ H Q I w => pts_nil.run pins s σ H Q I (yes_lift w)⟩
                    · cases h5
                  · rename_i i e1
                    rw [e1]
                    exact pts_one (okT c gb h5)
                  · cases h5
                · intro s H C cl fp
                  exact okM m (g.blk s H x.scope cl C fp) h6
                · have w2 : tAsg (liftE X.K X.mg (wM G (M.lc own it gt2 c m))) (liftG X.K X.mg lent (gW (.name i))) D σ H := asg_lift w
                  have e9 : gW (.name i) = gwName i := by unfold gW; rfl
                  rw [e9] at w2
                  unfold wM at w2
                  have hgn : ∀ v H1, liftG X.K X.mg lent (gwName i) v σ H1 D.nx → gName i v σ H1 D.nx := fun v H1 z => gname_lift (by simpa using h1.2) z
                  obtain ⟨oh, τ, env, P, e0, S, t1, k⟩ := w2
                  have w4 := lc_lift (Q := fun x H1 => gName i x σ H1 D.nx) ⟨oh, τ, env, P, e0, S, t1, fun v o env' H' a1 a2 a3 a4 => hgn v H' (k v o env' H' a1 a2 a3 a4)⟩
                  rw [I.len] at w4
                  exact w4
            · cases h2
          | lco own it gt2 c m =>
            unfold ckM at h2
            split at h2
            · rename_i x hx
              obtain ⟨p3, e3⟩ := asLc_eq hx
              cases e3
              simp only [Bool.and_eq_true] at h2
              obtain ⟨⟨⟨⟨⟨h1', h2⟩, h3'⟩, h4⟩, h5⟩, h6⟩ := h2
              simp only [Bool.and_eq_true, Bool.not_eq_true', beq_iff_eq] at h3
              obtain ⟨⟨⟨k1, k2⟩, k3⟩, k4⟩ := h3
              have hk : X.env.scope.kind = .function := by
                rw [g.sc]
                split at k1
                · assumption
                · cases k1
              cases gt with
              | tup r => unfold ckG at h1; cases h1
              | ix a b => unfold ckG at h1; cases h1
              | name i =>
                unfold ckG at h1
                simp only [asName, Bool.and_eq_true, decide_eq_true_eq] at h1
                refine ⟨fun pins s σ H D I w => ?_⟩
                refine (ps_setLc (g := liftG X.K X.mg (lentC X.N.length (own.map (·.2))) (gW gt2)) (tt := liftT X.K X.mg (wT G c)) (te := liftE X.K X.mg (wM G m)) g.calm g.nd (by rw [g.N]; exact h1.1.1) (by rw [g.sc]; exact k2)
                  (sw_true hk (by rw [g.sc]; exact k2) (by simpa using k3) k4) (okI it g h2) (by rw [g.N, g.sc]; exact blkOk_by h1') ?_ ?_ ?_ (noSet_it h3')).run pins s σ H D I ?_
                · intro s H C cl fp
                  exact okG (fun i hi => not_lentC (by simpa using hi)) gt2 (g.blk s H x.scope cl C fp) h4
                · intro s H C cl fp
                  have gb := g.blk s H x.scope cl C fp
                  split at h5
                  · rename_i e1
                    rw [e1]
                    split at h5
                    · unfold wT
                      exact ⟨fun pins s σ H Q I w => pts_nil.run pins s σ H Q I (yes_lift w)⟩
                    · cases h5
                  · rename_i i e1
                    rw [e1]
                    exact pts_one (okT c gb h5)
                  · cases h5
                · intro s H C cl fp
                  exact okM m (g.blk s H x.scope cl C fp) h6
                · have w2 : tAsg (liftE X.K X.mg (wM G (M.lco own it gt2 c m))) (liftG X.K X.mg lent (gW (.name i))) D σ H := asg_lift w
                  have e9 : gW (.name i) = gwName i := by unfold gW; rfl
                  rw [e9] at w2
                  unfold wM at w2
                  have hgn : ∀ v H1, liftG X.K X.mg lent (gwName i) v σ H1 D.nx → gName i v σ H1 D.nx := fun v H1 z => gname_lift (by simpa using h1.2) z
                  obtain ⟨oh, τ, env, P, e0, S, t1, k⟩ := w2
                  have w4 := lcQ_lift (Q := fun x H1 => gName i x σ H1 D.nx) ⟨oh, τ, env, P, e0, S, t1, fun v o env' H' a1 a2 a3 a4 => hgn v H' (k v o env' H' a1 a2 a3 a4)⟩
                  rw [I.len] at w4
                  exact w4
            · cases h2
          | lcb own jb gt2 c m =>
            unfold ckM at h2
            split at h2
            · rename_i x hx
              obtain ⟨p3, e3⟩ := asLc_eq hx
              cases e3
              simp only [Bool.and_eq_true, Bool.not_eq_true', decide_eq_false_iff_not] at h2
              obtain ⟨⟨⟨⟨⟨⟨h1', h2⟩, h3'⟩, h4⟩, h5⟩, h6⟩, h7'⟩ := h2
              simp only [Bool.and_eq_true, Bool.not_eq_true', beq_iff_eq] at h3
              obtain ⟨⟨⟨k1, k2⟩, k3⟩, k4⟩ := h3
              have hk : X.env.scope.kind = .function := by
                rw [g.sc]
                split at k1
                · assumption
                · cases k1
              split at h2
              rotate_left
              · cases h2
              rename_i zb hzb
              obtain ⟨qb, hqb⟩ := asName_eq hzb
              cases gt with
              | tup r => unfold ckG at h1; cases h1
              | ix a b => unfold ckG at h1; cases h1
              | name i =>
                unfold ckG at h1
                simp only [asName, Bool.and_eq_true, decide_eq_true_eq] at h1
                refine ⟨fun pins s σ H D I w => ?_⟩
                refine (ps_setLc (g := liftG X.K X.mg (lentC X.N.length (own.map (·.2))) (gW gt2)) (tt := liftT X.K X.mg (wT G c)) (te := liftE X.K X.mg (wM G m)) g.calm g.nd (by rw [g.N]; exact h1.1.1) (by rw [g.sc]; exact k2)
                  (sw_true hk (by rw [g.sc]; exact k2) (by simpa using k3) k4) (pi_seq (by rw [hqb]; exact g.var (by simpa using h2))) (by rw [g.N, g.sc]; exact blkOk_by h1') ?_ ?_ ?_ (noSet_it h3')).run pins s σ H D I ?_
                · intro s H C cl fp
                  exact okG (fun i hi => not_lentC (by simpa using hi)) gt2 (g.blk s H x.scope cl C fp) h4
                · intro s H C cl fp
                  have gb := g.blk s H x.scope cl C fp
                  split at h5
                  · rename_i e1
                    rw [e1]
                    split at h5
                    · unfold wT
                      exact ⟨fun pins s σ H Q I w => pts_nil.run pins s σ H Q I (yes_lift w)⟩
                    · cases h5
                  · rename_i i e1
                    rw [e1]
                    exact pts_one (okT c gb h5)
                  · cases h5
                · intro s H C cl fp
                  exact okM m (g.blk s H x.scope cl C fp) h6
                · have w2 : tAsg (liftE X.K X.mg (wM G (M.lcb own jb gt2 c m))) (liftG X.K X.mg lent (gW (.name i))) D σ H := asg_lift w
                  have e9 : gW (.name i) = gwName i := by unfold gW; rfl
                  rw [e9] at w2
                  unfold wM at w2
                  have hgn : ∀ v H1, liftG X.K X.mg lent (gwName i) v σ H1 D.nx → gName i v σ H1 D.nx := fun v H1 z => gname_lift (by simpa using h1.2) z
                  obtain ⟨oh, τ, env, P, e0, S, t1, k⟩ := w2
                  have w4 := lcB_lift h7' (Q := fun x H1 => gName i x σ H1 D.nx) ⟨oh, τ, env, P, e0, S, t1, fun v o env' H' a1 a2 a3 a4 => hgn v H' (k v o env' H' a1 a2 a3 a4)⟩
                  rw [I.len] at w4
                  exact w4
            · cases h2
          | lc2 own it gt2 c vs1 it1 g1 c1 m =>
            unfold ckM at h2
            split at h2
            · rename_i x hx
              obtain ⟨p3, e3⟩ := asLc2_eq hx
              cases e3
              simp only [Bool.and_eq_true] at h2
              obtain ⟨⟨⟨⟨⟨⟨h1', h2⟩, h3'⟩, h4⟩, h5⟩, h6⟩, ⟨⟨⟨j1, j2⟩, j3⟩, j4⟩, j5⟩ := h2
              have hv : ∀ i ∈ vs1, i ∈ own.map (·.2) := fun i hi => of_decide_eq_true (List.all_eq_true.mp j5 i hi)
              simp only [Bool.and_eq_true, Bool.not_eq_true', beq_iff_eq] at h3
              obtain ⟨⟨⟨k1, k2⟩, k3⟩, k4⟩ := h3
              have hk : X.env.scope.kind = .function := by
                rw [g.sc]
                split at k1
                · assumption
                · cases k1
              cases gt with
              | tup r => unfold ckG at h1; cases h1
              | ix a b => unfold ckG at h1; cases h1
              | name i =>
                unfold ckG at h1
                simp only [asName, Bool.and_eq_true, decide_eq_true_eq] at h1
                refine ⟨fun pins s σ H D I w => ?_⟩
                refine (ps_setLc2 (wi1 := liftI X.K X.mg (wI G it1)) (g := liftG X.K X.mg (lentC X.N.length (own.map (·.2))) (gW gt2)) (tt := liftT X.K X.mg (wT G c)) (te := liftE X.K X.mg (wM G m)) (g1 := liftG X.K X.mg (lentC X.N.length vs1) (gW g1)) (tt1 := liftT X.K X.mg (wT G c1)) (vs1 := vs1) g.calm g.nd (by rw [g.N]; exact h1.1.1) (by rw [g.sc]; exact k2)
                  (sw_true hk (by rw [g.sc]; exact k2) (by simpa using k3) k4) (okI it g h2) (by rw [g.N, g.sc]; exact blkOk_by h1') hv ?_ ?_ ?_ ?_ ?_ ?_ (noSet_it h3') (fun env => noSet_it j2)).run pins s σ H D I ?_
                · intro s H C cl fp
                  exact okG (fun i hi => not_lentC (by simpa using hi)) gt2 (g.blk s H x.scope cl C fp) h4
                · intro s H C cl fp
                  have gb := g.blk s H x.scope cl C fp
                  split at h5
                  · rename_i e1
                    rw [e1]
                    split at h5
                    · unfold wT
                      exact ⟨fun pins s σ H Q I w => pts_nil.run pins s σ H Q I (yes_lift w)⟩
                    · cases h5
                  · rename_i i e1
                    rw [e1]
                    exact pts_one (okT c gb h5)
                  · cases h5
                · intro s H C cl fp
                  exact okI it1 (g.blk s H x.scope cl C fp) j1
                · intro s H C cl fp
                  exact okG (fun i hi => not_lentC (by simpa using hi)) g1 (g.blk s H x.scope cl C fp) j3
                · intro s H C cl fp
                  have gb := g.blk s H x.scope cl C fp
                  split at j4
                  · rename_i e1
                    rw [e1]
                    split at j4
                    · unfold wT
                      exact ⟨fun pins s σ H Q I w => pts_nil.run pins s σ H Q I (yes_lift w)⟩
                    · cases j4
                  · rename_i i e1
                    rw [e1]
                    exact pts_one (okT c1 gb j4)
                  · cases j4
                · intro s H C cl fp
                  exact okM m (g.blk s H x.scope cl C fp) h6
                · have w2 : tAsg (liftE X.K X.mg (wM G (M.lc2 own it gt2 c vs1 it1 g1 c1 m))) (liftG X.K X.mg lent (gW (.name i))) D σ H := asg_lift w
                  have e9 : gW (.name i) = gwName i := by unfold gW; rfl
                  rw [e9] at w2
                  unfold wM at w2
                  have hgn : ∀ v H1, liftG X.K X.mg lent (gwName i) v σ H1 D.nx → gName i v σ H1 D.nx := fun v H1 z => gname_lift (by simpa using h1.2) z
                  obtain ⟨oh, τ, env, P, e0, S, t1, k⟩ := w2
                  have w4 := lc2_lift hv (Q := fun x H1 => gName i x σ H1 D.nx) ⟨oh, τ, env, P, e0, S, t1, fun v o env' H' a1 a2 a3 a4 => hgn v H' (k v o env' H' a1 a2 a3 a4)⟩
                  rw [I.len] at w4
                  exact w4
            · cases h2
          | _ => first
            | (unfold ckM at h2; cases h2; done)
            | (unfold ckM at h2; simp [asCst, asName, asTup, asLst, asBin, asCmp, asUn, asSub, asCall, asBool, asIf, asChain, asRev, asLrg, isDnew, asGet1, asGet2, asMeth, asDict, asSrt] at h2)
        · cases h3
    · cases h
  | .par is a, X, sc, raw, s, g, h => by
    unfold ckS at h
    split at h
    · rename_i x hx
      obtain rfl := asAsg_eq hx
      obtain ⟨t, e, p⟩ := x
      split at h
      · rename_i es hes
        simp only [Bool.and_eq_true, decide_eq_true_eq, List.all_eq_true] at h
        obtain ⟨⟨⟨⟨⟨h1, h2⟩, h3⟩, h4⟩, h5⟩, h6⟩ := h
        obtain ⟨ts, k, p1, vs, k2, p2, rfl, rfl, hw⟩ := swSome_ok g.sc h6
        cases hes
        unfold wS
        refine PSimp (ps_parR (is := is) g.calm g.nd (by simp) (fun j hj hj' => ?_) (okA a g h1) hw h3) fun Y σ H w => ?_
        · have q := h5 is[j] (List.getElem_mem hj)
          rw [get_map hj']
          split at q
          · rename_i y hy
            refine ⟨by rw [g.N, hy]; rfl, ?_⟩
            rw [hy, g.sc]
            split at q
            · rename_i e; exact e
            · cases q
          · cases q
        · have w2 := par_lift (fun i hi => by simpa using h4 i hi) w
          obtain ⟨oh, τ, env, P, e0, S, t, kk⟩ := w2
          refine ⟨oh, τ, env, P, e0, S, t, fun vs os env' H' a1 a2 a3 a4 a5 => ?_⟩
          obtain ⟨q1, q2⟩ := kk vs os env' H' a1 a2 a3 a4 a5
          refine ⟨q1, ?_⟩
          rw [List.map_reverse, setAll_rev h2 (by rw [List.length_map]; exact q1.symm)]
          exact q2
      · cases h
    · cases h
  | .parT is a, X, sc, raw, s, g, h => by
    unfold ckS at h
    cases h
  | .setI i ix m, X, sc, raw, s, g, h => by
    unfold ckS at h
    split at h
    · rename_i x hx
      obtain rfl := asAsg_eq hx
      obtain ⟨t, e, p⟩ := x
      split at h
      · rename_i y hy
        obtain ⟨q, rfl⟩ := asSub_eq hy
        obtain ⟨y1, y2⟩ := y
        simp only [Bool.and_eq_true] at h
        obtain ⟨⟨⟨⟨h1, h2⟩, h3⟩, h4⟩, h5⟩ := h
        split at h1
        · rename_i z hz
          obtain ⟨q2, rfl⟩ := asName_eq hz
          unfold wS
          refine PSimp (ps_asg (okM m g h4) (pg_sub (g.var (by simpa using h1)) (okM ix g h2) (set_any (by have := g.un; omega)) (setI_as h3)) (swF_ok (l := p.line) g.sc h5) (by cases e <;> rfl) (by rfl)) fun D σ H w => setA_lift w
        · cases h1
      · cases h
    · cases h
  | .aug i o m, X, sc, raw, s, g, h => by
    unfold ckS at h
    cases h
  | .app i m, X, sc, raw, s, g, h => by
    unfold ckS at h
    split at h
    · rename_i e he
      obtain ⟨p, rfl⟩ := asExp_eq he
      split at h
      · rename_i x hx
        obtain ⟨q, rfl, hl⟩ := asApp_eq hx
        simp only [Bool.and_eq_true] at h
        obtain ⟨⟨⟨⟨h1, h2⟩, h3⟩, h4⟩, h5⟩ := h
        unfold wS
        have hs := star_of (es := []) (env := X.env) h5
        refine PSimp (ps_expr (pe_bm PySem.F.plainAttrs_list PySem.F.slot_list_append PySem.F.type_list_append mt_append (g.var (by rw [h1, h2, h3]; rfl)) (pa_cons (okM m g h4) pa_nil hs) (by rfl) ?_ hl hs (by rfl)) (by rfl)) fun D σ H w => app_lift w
        rw [hs]; rfl
      · cases h
    · cases h
  | .appo i m, X, sc, raw, s, g, h => by
    unfold ckS at h
    split at h
    · rename_i e he
      obtain ⟨p, rfl⟩ := asExp_eq he
      split at h
      · rename_i x hx
        obtain ⟨q, rfl, hl⟩ := asApp_eq hx
        simp only [Bool.and_eq_true] at h
        obtain ⟨⟨⟨⟨h1, h2⟩, h3⟩, h4⟩, h5⟩ := h
        unfold wS
        have hs := star_of (es := []) (env := X.env) h5
        refine PSimp (ps_expr (pe_bm PySem.F.plainAttrs_list PySem.F.slot_list_append PySem.F.type_list_append mt_append (g.var (by rw [h1, h2, h3]; rfl)) (pa_cons (okM m g h4) pa_nil hs) (by rfl) ?_ hl hs (by rfl)) (by rfl)) fun D σ H w => appo_lift w
        rw [hs]; rfl
      · cases h
    · cases h
  | .exp m, X, sc, raw, s, g, h => by
    unfold ckS at h
    split at h
    · rename_i e he
      obtain ⟨p, rfl⟩ := asExp_eq he
      simp only [Bool.and_eq_true] at h
      unfold wS
      exact PSimp (ps_expr (okM m g h.1) (noComp_ok h.2)) fun D σ H w => exp_lift w
    · cases h
  | .iff c a b, X, sc, raw, s, g, h => by
    unfold ckS at h
    split at h
    · rename_i x hx
      obtain ⟨p, rfl⟩ := asIfS_eq hx
      simp only [Bool.and_eq_true] at h
      unfold wS
      exact PSimp (ps_if (okT c g h.1.1) (okSs a g h.1.2) (okSs b g h.2)) fun D σ H w => ifS_lift w
    · cases h
  | .loop it gt b, X, sc, raw, s, g, h => by
    unfold ckS at h
    split at h
    · rename_i x hx
      obtain ⟨p, rfl⟩ := asFor_eq hx
      simp only [Bool.and_eq_true] at h
      obtain ⟨⟨⟨h1, h2⟩, h3⟩, h4⟩ := h
      unfold wS
      refine PSimp (ps_for (by rw [g.xe]; exact PassesOwn.never) g.calm (okI it g h1) (okG (lent := lent) (fun i hi => by simpa using hi) gt g h3) (okSs b g h4) (noSet_it h2)) fun D σ H w => for_lift w
    · cases h
  | .loopb j i b, X, sc, raw, s, g, h => by
    unfold ckS at h
    split at h
    · rename_i x hx
      obtain ⟨p, rfl⟩ := asFor_eq hx
      obtain ⟨x1, x2, x3⟩ := x
      simp only [Bool.and_eq_true] at h
      obtain ⟨⟨⟨h1, h2⟩, h3⟩, h4⟩ := h
      split at h1
      · rename_i z hz
        obtain ⟨q, hq⟩ := asName_eq hz
        subst hq
        unfold wS
        refine PSimp (ps_for (by rw [g.xe]; exact PassesOwn.never) g.calm (pi_seq (g.var (by simpa using h1))) (okG (lent := j :: lent) (fun i hi => by simpa using hi) (.name i) g h3) (okSs b g h4) (noSet_it h2)) fun D σ H w => forB_lift w
      · cases h1
    · cases h
  | .ret m, X, sc, raw, s, g, h => by
    unfold ckS at h
    split at h
    · rename_i e he
      obtain ⟨p, rfl⟩ := asRet_eq he
      unfold wS
      exact PSimp (ps_ret (okM m g h)) fun D σ H w => ret_lift w
    · cases h
  | .retv i, X, sc, raw, s, g, h => by
    unfold ckS at h
    split at h
    · rename_i e he
      obtain ⟨p, rfl⟩ := asRet_eq he
      split at h
      · rename_i z hz
        obtain ⟨q, rfl⟩ := asName_eq hz
        unfold wS
        exact PSimp (ps_ret (g.var h)) fun D σ H w => retV_lift w
      · cases h
    · cases h
  | .retn, X, sc, raw, s, g, h => by
    unfold ckS at h
    cases h
  | .brk, X, sc, raw, s, g, h => by
    unfold ckS at h
    cases h
  | .cont, X, sc, raw, s, g, h => by
    unfold ckS at h
    cases h
  | .pass, X, sc, raw, s, g, h => by
    unfold ckS at h
    obtain ⟨p, rfl⟩ := isPass_eq h
    unfold wS
    exact PSimp ps_pass fun D σ H w => nil_lift w
  | .nev, X, sc, raw, s, g, h => by
    unfold wS
    exact ⟨fun pins s σ H Y I w => by obtain ⟨_, _, _, _, _, z, _⟩ := w; exact (show False from z).elim⟩
  | .set2 i ix j jx m, X, sc, raw, s, g, h => by
    unfold ckS at h
    cases h
  | .sdc i own it gt2 c kx m, X, sc, raw, s, g, h => by
    unfold ckS at h
    cases h
  | .tryb b, X, sc, raw, s, g, h => by
    unfold ckS at h
    cases h
theorem okSs {lent : List Nat} : ∀ (a : Ss) {X : Cx} {sc raw : Scope} {ss : List Stmt}, GoodX X B G sc raw → ckSs B lent a sc raw ss = true → PSs X ss (liftS X.K X.mg lent (wSs G a))
  | .nil, X, sc, raw, ss, g, h => by
    unfold ckSs at h
    rw [List.isEmpty_iff.mp h]
    unfold wSs
    exact PSsimp pss_nil fun D σ H w => nil_lift w
  | .cons a r, X, sc, raw, ss, g, h => by
    unfold ckSs at h
    split at h
    · cases h
    · simp only [Bool.and_eq_true] at h
      unfold wSs
      exact PSsimp (pss_cons (okS a g h.1) (okSs r g h.2)) fun D σ H w => seq_lift w
end
end
end TL
namespace TL
open PySem PySem.Spec PyProof.Rows L2
structure FunG (K : PySem.W.Frag) (x qual : Str) (st : Stmt) (f : Addr) (fd : FuncData) (dV kV : Value) : Prop where
  ex : ∃ (oc : Value) (od : Option Addr) (doc pm : Value) (an : Option Addr) (cdv ct : Value) (osl : Array (Option Value)),
    fd = PySem.W.fnOf x qual (defArgs st) (defBody st) (defScope st) dV kV doc pm an cdv ct ∧ K.lookup f = some ⟨oc, od, .func fd, osl⟩ ∧ PySem.W.codeIn K cdv qual = true
  kp : PySem.W.keepIn K (.ref f) = true
theorem funG_mk {K : PySem.W.Frag} {x qual : Str} {st : Stmt} {f : Addr} {oc : Value} {od an : Option Addr} {osl : Array (Option Value)} {dV kV doc pm cdv ct : Value} (l : K.lookup f = some ⟨oc, od, .func (PySem.W.fnOf x qual (defArgs st) (defBody st) (defScope st) dV kV doc pm an cdv ct), osl⟩)
    (c : PySem.W.codeIn K cdv qual = true) (k : PySem.W.keepIn K (.ref f) = true) : FunG K x qual st f (PySem.W.fnOf x qual (defArgs st) (defBody st) (defScope st) dV kV doc pm an cdv ct) dV kV :=
  ⟨⟨oc, od, doc, pm, an, cdv, ct, osl, rfl, l, c⟩, k⟩
section
variable {P : Program} {w : World} {K : PySem.W.Frag} {mg : Str → Option Value} {base : Heap} {k : Nat} {B : Tb} {G : Gm}
theorem snoc_get {α : Type} {l : List α} {a b : α} {j : Nat} (h : (l ++ [a])[j]? = some b) : l[j]? = some b ∨ (j = l.length ∧ b = a) := by
  rw [List.getElem?_append] at h
  split at h
  · exact .inl h
  · rename_i hj
    have : j - l.length = 0 := by
      cases e : j - l.length with
      | zero => rfl
      | succ n => rw [e] at h; cases h
    rw [this] at h
    exact .inr ⟨by omega, (Option.some.inj h).symm⟩
theorem Facts.nil (hb : ∀ x ∈ bnames, mg x = none) : Facts P w K mg base k B ⟨[], [], [], []⟩ := ⟨fun j x f _ h => (nomatch h), fun j x f _ h => (nomatch h), fun j x f _ h => (nomatch h), hb, fun j f h => (nomatch h), fun j x f _ h => (nomatch h)⟩
theorem Facts.names {fs : List FE} {cs : List D} {ks : List TL.KE} {ts : List (List (Str × D))} (F : Facts P w K mg base k B ⟨fs, cs, ks, ts⟩) {N : List Str} {l : Bool} : Facts P w K mg base k { B with N := N, lam := l } ⟨fs, cs, ks, ts⟩ := ⟨F.fn, F.cn, F.kw, F.bn, F.fx, F.dn⟩
theorem Facts.mono {j : Nat} (F : Facts P w K mg base j B G) (h : j ≤ k) : Facts P w K mg base k B G :=
  ⟨fun j x f a b => let ⟨kk, ad, fd, ps, h1, r⟩ := F.fn j x f a b; ⟨kk, ad, fd, ps, Nat.le_trans h1 h, r⟩, F.cn, fun j x f a b => let ⟨kk, ad, fd, ps, dU, dV, h1, r⟩ := F.kw j x f a b; ⟨kk, ad, fd, ps, dU, dV, Nat.le_trans h1 h, r⟩, F.bn, F.fx, F.dn⟩
theorem Facts.addC {fs : List FE} {cs : List D} {ks : List TL.KE} {ts : List (List (Str × D))} (F : Facts P w K mg base k B ⟨fs, cs, ks, ts⟩) {x : Str} {d : D} (hx : B.cn[cs.length]? = some x) {v : V} {u : Value} (h1 : mg x = some u) (h2 : RelV v u) (h3 : ∀ hot H, Rep K mg hot H v d) : Facts P w K mg base k B ⟨fs, cs ++ [d], ks, ts⟩ := by
  refine ⟨F.fn, fun j y e a b => ?_, F.kw, F.bn, F.fx, F.dn⟩
  rcases snoc_get b with b | ⟨rfl, rfl⟩
  · exact F.cn j y e a b
  · rw [hx] at a
    cases a
    exact ⟨v, u, h1, h2, h3⟩
theorem Facts.addF {fs : List FE} {cs : List D} {ks : List TL.KE} {ts : List (List (Str × D))} (F : Facts P w K mg base k B ⟨fs, cs, ks, ts⟩) {x : Str} {f : FE} (hx : B.fn[fs.length]? = some x) {ad : Addr} {fd : FuncData} {ps : List Str} (h1 : mg x = some (.ref ad)) (h2 : FnT P w K mg base k ad fd ps (spT K mg f.n f.t))
    (h3 : PySem.W.keepIn K (.ref ad) = true) (h4 : Binds K fd ps []) (h5 : f.x = x) : Facts P w K mg base k B ⟨fs ++ [f], cs, ks, ts⟩ := by
  refine ⟨fun j y e a b => ?_, F.cn, F.kw, F.bn, fun j e b => ?_, F.dn⟩
  · rcases snoc_get b with b | ⟨rfl, rfl⟩
    · exact F.fn j y e a b
    · rw [hx] at a
      cases a
      exact ⟨k, ad, fd, ps, Nat.le_refl _, h1, h2, h3, h4⟩
  · rcases snoc_get b with b | ⟨rfl, rfl⟩
    · exact F.fx j e b
    · rw [hx, h5]
end
def outA : EnvD → Option (List Val)
  | [] => some []
  | some x :: r => match outA r with
    | some l => some (x :: l)
    | none => none
  | none :: _ => none
theorem outA_eq : ∀ {e : EnvD} {l : List Val}, outA e = some l → e = l.map some
  | [], l, h => by cases h; rfl
  | some x :: r, l, h => by
    unfold outA at h
    split at h
    · rename_i l' e
      cases h
      rw [outA_eq e]; rfl
    · cases h
  | none :: _, l, h => by cases h
def FinA (n : Nat) (env : EnvD) (Q : List Val → Prop) : Prop := ∃ l, outA (env.take n) = some l ∧ Q l
def endA (n : Nat) (P : Val → List Val → Prop) : Out → EnvD → Prop
  | .nx, env => FinA n env (P (fz .non))
  | .rt v, env => FinA n env (P v)
  | _, _ => False
def endB (args : List Val) (P : Val → List Val → Prop) : Out → EnvD → Prop
  | .nx, _ => P (fz .non) args
  | .rt v, _ => P v args
  | _, _ => False
def env0 (N : List Str) (args : List Val) : EnvD := args.map some ++ List.replicate (N.length - args.length) none
theorem core_rep : ∀ m : Nat, core (List.replicate m ((none : Option V), (none : Option Val))) = []
  | 0 => rfl
  | m + 1 => by rw [List.replicate_succ, core_cons_none, core_rep m]
theorem core_start {N : List Str} {vs : List V} {args : List Val} (h : vs.length = args.length) : core ((start N vs).zip (env0 N args)) = core (zipA vs args) := by
  unfold L2.start env0 zipA
  rw [List.zip_append (by simpa using h), h, core_append, List.zip_replicate', core_rep, List.append_nil]
theorem take_lent {n : Nat} {σ σ' : L2.St} (hl : σ'.length = σ.length) (h : LentEq (List.range n) σ σ') : σ'.take n = σ.take n := by
  apply List.ext_getElem?
  intro i
  rw [List.getElem?_take, List.getElem?_take]
  split
  · exact h i (by simpa using ‹i < n›)
  · rfl
section
variable {P : Program} {w : World} {K : PySem.W.Frag} {mg : Str → Option Value} {base : Heap} {k n : Nat} {x qual : Str} {st : Stmt} {f : Addr} {fd : FuncData} {dV kV : Value} {ps : List Str} {B : Tb} {G : Gm}
theorem fnG_of {N : List Str} {sp : Sp} (F : FunG K x qual st f fd dV kV) (S : FnScope N ps (defScope st)) (len : ∀ vs H Q E, sp vs H Q E → vs.length = ps.length)
    (hbody : ∀ (cdv : Value), fd.code = cdv → ∀ (A : Around) (outer : List Env) (s : Shared) (H : Hp) (vs : List V) (Q : VK), Room k (A.deeper (envOfC qual (defScope st) s.heap.objs.size f cdv)) → (A.deeper (envOfC qual (defScope st) s.heap.objs.size f cdv)).guards = some [] → sp vs H Q E0 →
      ∃ t, PSs (cxOf CX0 P w K mg base N qual (defScope st) f cdv A outer s H E0).nox (defBody st) t ∧ t { nx := fun _ H' => Q .non H', rt := Q } (start N vs) H) : FnT P w K mg base (k + 1) f fd ps sp := by
  obtain ⟨oc, od, doc, pm, an, cdv, ct, osl, rfl, lk, hcd⟩ := F.ex
  refine ⟨len, fun A outer s H args us vs Q hr hg e0 hb r hsp => ?_⟩
  have hl := len _ _ _ _ hsp
  have keepB : ∀ b o, base.get? b = some o → s.heap.get? b = some o := fun b o e => (e0.bs b o e).1
  have KX : K.In s.heap := e0.mod.kin.keeps keepB
  have lim : s.heap.NoLimit := e0.mod.nolimit.keeps keepB
  have hkind : ∀ y ∈ ps.zip us, (defScope st).names.lookup y.1 = some .local ∨ ((defScope st).names.lookup y.1 = some .cell ∧ ((cellsFrom (s.heap.objs.size + 1) (defScope st).names []).lookup y.1).isSome = true) := by
    rintro ⟨n, v⟩ hy
    exact (S.par n (List.of_mem_zip hy).1).imp id fun q => ⟨q, PySem.W.cellsFrom_some _ _ _ (.inl q)⟩
  refine codeAny_call_function hr.depth (KX _ _ lk) rfl S.co S.gen rfl (PySem.W.codeRec_of KX hcd) (hb _ _ _ _ (wpAny_newFunctionEnv_cells S.kind hkind fun env he s1 z => ?_))
  subst he
  refine ⟨lim.keeps z.toInCall.keep, codeAny_func ?_⟩
  obtain ⟨t, ht, hq⟩ := hbody cdv rfl A outer s H vs Q (hr.deeper _) hg hsp
  have I : L2.Inv (cxOf CX0 P w K mg base N qual (defScope st) f cdv A outer s H E0) [] (start N vs) H s1 := inv_start S hr.hd e0 hl r z
  refine wpAny_mono (ht.nox.run [] s1 (start N vs) H _ I hq) (fun fl s' hs => ?_) fun e s' hs => hs
  match fl, hs with
  | .ret u, hs =>
    obtain ⟨v, σ', H', J, rv, q⟩ := hs
    exact ⟨v, H', J.os, J.bare, J.base, J.hok, rv, q⟩
  | .next, hs =>
    obtain ⟨σ', H', J, q⟩ := hs
    exact ⟨.non, H', J.os, J.bare, J.base, J.hok, rfl, q⟩
  | .brk, hs => obtain ⟨_, _, _, q⟩ := hs; exact False.elim q
  | .cont, hs => obtain ⟨_, _, _, q⟩ := hs; exact False.elim q
theorem fnT_no {kk : Nat} (hn : ps.length = n) : FnT P w K mg base kk f fd ps (spT K mg n fun _ _ => False) :=
  ⟨fun vs H Q E h => by obtain ⟨_, _, _, _, _, _, z, _⟩ := h; exact z.elim, fun A outer s H args us vs Q hr hg e0 hb r hsp => by obtain ⟨_, _, _, _, _, _, z, _⟩ := hsp; exact z.elim⟩
theorem def_A (F : FunG K x qual st f fd dV kV) (S : FnScope B.N ps (defScope st)) (hn : ps.length = n) (Φ : Facts P w K mg base k B G) (body : Ss) (hc : ckSs B (List.range n) body (defScope st) (defScope st) (defBody st) = true) {t : DSpec}
    (hw : ∀ args Q, t args Q → args.length = n → wSs G body (env0 B.N args) (endA n Q)) (hl : LamF P w K mg base k B G qual fd.code := by exact fun z => Bool.noConfusion z) : FnT P w K mg base (k + 1) f fd ps (spT K mg n t) := by
  refine fnG_of F S (fun vs H Q E h => ?_) fun cdv hcd A outer s H vs Q hr hg h => ?_
  · obtain ⟨_, _, _, h, _⟩ := h
    rw [h, hn]
  · obtain ⟨oh, args, Pd, h1, h2, S0, ht, k0⟩ := h
    have g := good_of (outer := outer) (H := H) Φ S.nd hr hg (hcd ▸ hl)
    refine ⟨_, okSs body g hc, ?_⟩
    have hc0 := core_start (N := B.N) (h1.trans h2.symm)
    have S1 : StR K mg oh H ((start B.N vs).zip (env0 B.N args)) := S0.core (E := []) (by rw [hc0, List.append_nil])
    have hr0 : roots ((start B.N vs).zip (env0 B.N args)) = roots (zipA vs args) := by rw [← roots_core, hc0, roots_core]
    have hlen : (start B.N vs).length = (env0 B.N args).length := by unfold L2.start env0; simp [h1, h2]
    have ft : ∀ {σ' : L2.St} {env' : EnvD} {l : List Val}, σ'.length = (start B.N vs).length → LentEq (List.range n) (start B.N vs) σ' → outA (env'.take n) = some l → zipA vs l = (σ'.zip env').take n := by
      intro σ' env' l e2 e3 ho
      have a1 : σ'.take n = vs.map some := by
        rw [take_lent e2 e3]
        unfold L2.start
        rw [List.take_append_of_le_length (by rw [List.length_map, h1]; exact Nat.le_refl _), List.take_of_length_le (by rw [List.length_map, h1]; exact Nat.le_refl _)]
      rw [List.zip_eq_zipWith, List.take_zipWith, ← List.zip_eq_zipWith, a1, outA_eq ho]
      rfl
    have fl : ∀ {σ' : L2.St} {env' : EnvD} {l : List Val}, σ'.length = env'.length → σ'.length = (start B.N vs).length → outA (env'.take n) = some l → l.length = n := by
      intro σ' env' l e1 e2 ho
      have := congrArg List.length (outA_eq ho)
      rw [List.length_take, List.length_map] at this
      have q : n ≤ env'.length := by
        rw [← e1, e2]; unfold L2.start; rw [List.length_append, List.length_map, h1]; omega
      omega
    refine ⟨oh, env0 B.N args, _, hlen, S1, hw args Pd ht h2, ?_, ?_, ?_, ?_⟩
    · rintro σ' env' H' e1 e2 e3 S' s' ⟨l, ho, q⟩
      refine k0 .non (fz .non) l H' (fl e1 e2 ho) ?_ ?_ q
      · refine StR.push ?_ (StR.one_fro ⟨fun a ha => ?_, S'.tr.tb⟩ .non) Step.one_fro
        · rw [ft e2 e3 ho]
          exact S'.less (fun p hp => .inr (List.mem_of_mem_take hp)) (S'.nd.sublist (roots_sublist (List.take_sublist _ _)))
        · rw [ft e2 e3 ho] at ha
          exact ha.elim (S'.tr.tr a) fun z => S'.root_there ((roots_sublist (List.take_sublist _ _)).subset z)
      · refine (s'.coreL' hr0).lessR fun a ha => ?_
        rw [roots_fro, ft e2 e3 ho] at ha
        exact (roots_sublist (List.take_sublist _ _)).subset ha
    · rintro σ' env' H' e1 e2 e3 S' s' q; exact q.elim
    · rintro σ' env' H' e1 e2 e3 S' s' q; exact q.elim
    · rintro v val σ' env' H' e1 e2 e3 S' s' ⟨l, ho, q⟩
      have sub : ((some v, some val) :: zipA vs l).Sublist ((some v, some val) :: σ'.zip env') := by
        rw [ft e2 e3 ho]; exact List.Sublist.cons_cons _ (List.take_sublist _ _)
      refine k0 v val l H' (fl e1 e2 ho) ?_ ?_ q
      · exact S'.less (fun p hp => .inr (sub.subset hp)) (S'.nd.sublist (roots_sublist sub))
      · exact (s'.coreL' hr0).lessR fun a ha => (roots_sublist sub).subset ha
theorem def_B (F : FunG K x qual st f fd dV kV) (S : FnScope B.N ps (defScope st)) (hn : ps.length = n) (Φ : Facts P w K mg base k B G) (body : Ss) (hc : ckSs B [] body (defScope st) (defScope st) (defBody st) = true) {t : DSpec}
    (hf : ∀ args Q, t args Q → ∃ ds : List D, args = ds.map fz) (hw : ∀ args Q, t args Q → args.length = n → wSs G body (env0 B.N args) (endB args Q)) (hl : LamF P w K mg base k B G qual fd.code := by exact fun z => Bool.noConfusion z) : FnT P w K mg base (k + 1) f fd ps (spT K mg n t) := by
  refine fnG_of F S (fun vs H Q E h => ?_) fun cdv hcd A outer s H vs Q hr hg h => ?_
  · obtain ⟨_, _, _, h, _⟩ := h
    rw [h, hn]
  · obtain ⟨oh, args, Pd, h1, h2, S0, ht, k0⟩ := h
    have g := good_of (outer := outer) (H := H) Φ S.nd hr hg (hcd ▸ hl)
    refine ⟨_, okSs body g hc, ?_⟩
    have hc0 := core_start (N := B.N) (h1.trans h2.symm)
    have S1 : StR K mg oh H ((start B.N vs).zip (env0 B.N args)) := S0.core (E := []) (by rw [hc0, List.append_nil])
    have hr0 : roots ((start B.N vs).zip (env0 B.N args)) = roots (zipA vs args) := by rw [← roots_core, hc0, roots_core]
    have hlen : (start B.N vs).length = (env0 B.N args).length := by unfold L2.start env0; simp [h1, h2]
    obtain ⟨ds, rfl⟩ := hf args Pd ht
    have hz : roots (zipA vs (ds.map fz)) = [] := roots_zipA_fz
    have rs : Reps K mg (hotL oh []) H vs ds := by
      clear hc0 S1 hr0 hlen k0 ht g hw
      have aux : ∀ (L : Lay) {vs : List V} {ds : List D}, roots L = [] → vs.length = ds.length → (∀ c ∈ zipA vs (ds.map fz), c ∈ L) → StR K mg oh H L → Reps K mg (hotL oh L) H vs ds := by
        intro L vs
        induction vs with
        | nil => intro ds hL hl _ _; cases ds with
          | nil => exact .nil
          | cons d ds => cases hl
        | cons v vs ih =>
          intro ds hL hl hm S
          cases ds with
          | nil => cases hl
          | cons d ds =>
            refine .cons ?_ (ih hL (by simpa using hl) (fun c hc => hm c (List.mem_cons_of_mem _ hc)) S)
            obtain ⟨v', e, r⟩ := S.all _ (hm (some v, some (fz d)) List.mem_cons_self) _ rfl
            cases e
            cases r with
            | fro r => exact r
      have := aux (zipA vs (ds.map fz)) hz (by rw [h1, ← h2, List.length_map]) (fun _ h => h) S0
      unfold hotL at this ⊢
      rw [hz] at this
      exact this
    refine ⟨oh, env0 B.N (ds.map fz), _, hlen, S1, hw _ Pd ht h2, ?_, ?_, ?_, ?_⟩
    · rintro σ' env' H' e1 e2 e3 S' s' q
      have s2 := s'.coreL' hr0
      have s3 : Step [] H [] H' := (s2.coreL' (L2 := []) hz).lessR fun a ha => (nomatch ha)
      have kp := s3.keeps (oh := oh) (B := [])
      rw [List.append_nil] at kp
      have T0 : StR K mg oh H' [] := StR.nil S'.tr
      have T1 := push_fros (rs.mono kp) T0
      rw [List.append_nil] at T1
      refine k0 .non (fz .non) _ H' h2 (StR.push T1 (StR.one_fro T1.hots .non) Step.one_fro) ?_ q
      refine (s3.coreL' (L2 := zipA vs (ds.map fz)) hz.symm).lessR fun a ha => ?_
      rw [roots_fro, hz] at ha
      exact ha
    · rintro σ' env' H' e1 e2 e3 S' s' q; exact q.elim
    · rintro σ' env' H' e1 e2 e3 S' s' q; exact q.elim
    · rintro v val σ' env' H' e1 e2 e3 S' s' q
      have s2 := s'.coreL' hr0
      have S2 : StR K mg oh H' [(some v, some val)] := S'.less (fun p hp => .inr (by
        rw [List.mem_singleton] at hp; rw [hp]; exact List.mem_cons_self)) (S'.nd.sublist (roots_sublist (List.Sublist.cons_cons _ (List.nil_sublist _))))
      have s3 : Step [] H [(some v, some val)] H' := (s2.coreL' (L2 := []) hz).lessR fun a ha => (roots_sublist (List.Sublist.cons_cons _ (List.nil_sublist _))).subset ha
      have kp := s3.keeps (oh := oh) (B := [])
      rw [List.append_nil, List.append_nil] at kp
      have T1 := push_fros (rs.mono kp) S2
      have pm : (zipA vs (ds.map fz) ++ [(some v, some val)]).Perm ((some v, some val) :: zipA vs (ds.map fz)) := List.perm_append_singleton _ _
      refine k0 v val _ H' h2 (T1.perm pm) ?_ q
      refine (s3.coreL' (L2 := zipA vs (ds.map fz)) hz.symm).lessR fun a ha => ?_
      rw [← (roots_perm pm), roots_append, hz] at ha
      exact ha
end
end TL
namespace TL
open PySem PySem.Spec PyProof.Rows L2
section
variable {P : Program} {w : World} {K : PySem.W.Frag} {mg : Str → Option Value} {base : Heap} {k n m : Nat} {x qual : Str} {st : Stmt} {f : Addr} {fd : FuncData} {dV kV : Value} {ps : List Str} {B : Tb} {G : Gm}
end
end TL
namespace TL
open PySem PySem.Spec PyProof.Rows L2
theorem FunG.binds {K : PySem.W.Frag} {x qual : Str} {st : Stmt} {f : Addr} {fd : FuncData} {dV kV : Value} {ps : List Str} (F : FunG K x qual st f fd dV kV)
    (h : ∀ (doc pm : Value) (an : Option Addr) (cdv ct : Value) (us : List Value), us.length = ps.length → bindArgs (PySem.W.fnOf x qual (defArgs st) (defBody st) (defScope st) dV kV doc pm an cdv ct) ⟨us, []⟩ = pure (ps.zip us)) : Binds K fd ps [] := by
  obtain ⟨oc, od, doc, pm, an, cdv, ct, osl, rfl, lk, hcd⟩ := F.ex
  exact .all (h doc pm an cdv ct)
def tLawD : DSpec := fun args Q => ∃ ns : List Int, args = [fz (.lst (ns.map D.int))] ∧ ns.length ≤ 63 ∧ ∀ val xs, val.d = .bl true → Q val xs
section
variable {P : Program} {w : World} {K : PySem.W.Frag} {mg : Str → Option Value}
theorem reps_ints {hot : Pr} {H : Hp} : ∀ ns : List Int, Reps K mg hot H (ns.map V.int) (ns.map D.int)
  | [] => .nil
  | n :: ns => .cons (.int n) (reps_ints ns)
theorem spT_law {H : Hp} {a : Addr} {ns : List Int} (hT : LamX.Tabs (tabsOf K) H) (hn : ns.length ≤ 63) (S : SqL K H a (ns.map V.int)) : spT K mg 1 tLawD [.ref a] H (fun v _ => v = .bl true) E0 := by
  have noh : ∀ b, ¬ hotL (fun _ => False) ([] : Lay) b := fun b z => z.elim id (fun q => (nomatch q))
  have r : Rep K mg (hotL (fun _ => False) []) H (.ref a) (.lst (ns.map D.int)) := .lst (S.elim (fun q => .inl ⟨noh a, q⟩) .inr) (reps_ints ns)
  refine ⟨fun _ => False, [fz (.lst (ns.map D.int))], fun val _ => val.d = .bl true, rfl, rfl, ?_, ⟨ns, rfl, hn, fun val xs h => h⟩, fun v val as H' h1 S' s' h => S'.head.to_bl h⟩
  exact StR.push (StR.nil ⟨fun b z => z.elim, hT⟩) (StR.one_fro ⟨fun b z => (noh b z).elim, hT⟩ r) Step.one_fro
abbrev noTab : Obj := { cls := .none, data := .fields #[] }
structure LamK (K : PySem.W.Frag) (h : Heap) : Prop where
  at_ : ∀ x ∈ lamNames, ∀ c P, PySem.W.tabIn K x = some (c, P) → PySem.W.CodeHd h c P ∧ h.get? P = some noTab ∧ K.lookup P = none
abbrev TabsB (K : PySem.W.Frag) (base : Heap) (mg : Str → Option Value) : Prop := ∀ x ∈ lamNames, ∀ c P, PySem.W.tabIn K x = some (c, P) → LamX.TabB base mg c P
theorem mem_tabs {p : Addr × Str} (h : p ∈ tabsOf K) : ∃ x ∈ lamNames, ∃ c, PySem.W.tabIn K x = some (c, p.1) ∧ p.2 = x ++ ".<locals>." ++ "<lambda>" := by
  obtain ⟨x, hx, e⟩ := List.mem_filterMap.mp h
  cases e2 : PySem.W.tabIn K x with
  | none => rw [e2] at e; cases e
  | some q =>
    obtain ⟨c, P'⟩ := q
    rw [e2] at e
    cases e
    exact ⟨x, hx, c, e2, rfl⟩
theorem hide_keeps {H : Hp} {h0 : Heap} {a : Addr} {vals : List Value} (hs : h0.get? a = some { cls := .type "list", data := .seq vals.toArray }) (one : ∀ b, H b ≠ none → b = a ∨ h0.get? b = some noTab) :
    ∀ {b : Addr} {o : Obj}, h0.get? b = some o → (∀ vals : List Value, o ≠ { cls := .type "list", data := .seq vals.toArray }) → o ≠ noTab → (hidT h0 H).get? b = some o := by
  intro b o e no nt
  refine hidT_get e ?_
  cases q : H b with
  | none => rfl
  | some u =>
    rcases one b (by rw [q]; exact fun z => nomatch z) with hb | hb
    · rw [hb, hs] at e
      exact (no vals (Option.some.inj e).symm).elim
    · rw [hb] at e
      exact (nt (Option.some.inj e).symm).elim
theorem law_run {mb : Str → Option Value} {k : Nat} {fa a : Addr} {fd : FuncData} {x : Str} {sh : Shared} {vals : List Value} {ns : List Int}
    (kin : K.In sh.heap) (gl : sh.heap.Ns mainGlobals mg) (bl : sh.heap.Ns builtinsNs mb) (bb : ∀ y : Str, y ≠ "__name__" → mb y = bootBuiltins y) (lim : sh.heap.NoLimit) (gens : sh.gens = #[])
    (bm : ∃ (m : Addr) (ob : Obj), mg "__builtins__" = some (.ref m) ∧ m ≠ builtinsNs ∧ sh.heap.get? m = some ob ∧ ob.cls = .type "module" ∧ ob.dict = some builtinsNs ∧ ob.data = .plain) (LK : LamK K sh.heap)
    (hs : sh.heap.get? a = some { cls := .type "list", data := .seq vals.toArray }) (hi : IntsAre vals ns) (hn : ns.length ≤ 63) (room : Room k callerA)
    (Fn : ∀ base : Heap, K.In base → base.Ns mainGlobals mg → TabsB K base mg → FnT P w K mg base k fa fd [x] (spT K mg 1 tLawD)) (bind : ∀ (s : Shared) (u : Value), BindsTo s fd ⟨[u], []⟩ [(x, u)]) :
    codeAny (model P w) callerA (.call (.ref fa) ⟨[.ref a], []⟩) (fun r t => r = .ok (.ret (.bool true)) ∧ OldK sh.heap t.heap ∧ t.os = sh.os ∧ AllBare t.gens) sh := by
  have small : ns.length ≤ sizeLine := Nat.le_trans hn (by decide)
  have len := hi.length
  have rel := vals_ints hi
  have tabAt : ∀ b, b ∈ (tabsOf K).map (·.1) → ∃ x ∈ lamNames, ∃ c, PySem.W.tabIn K x = some (c, b) := fun b hb => by
    obtain ⟨p, hp, rfl⟩ := List.mem_map.mp hb
    obtain ⟨x, hx, c, e, _⟩ := mem_tabs hp
    exact ⟨x, hx, c, e⟩
  have tabG : ∀ b, b ∈ (tabsOf K).map (·.1) → sh.heap.get? b = some noTab := fun b hb => let ⟨x, hx, c, e⟩ := tabAt b hb; (LK.at_ x hx c b e).2.1
  have tabN : ∀ b, b ∈ (tabsOf K).map (·.1) → K.lookup b = none := fun b hb => let ⟨x, hx, c, e⟩ := tabAt b hb; (LK.at_ x hx c b e).2.2
  have tabI : ∀ x ∈ lamNames, ∀ c P, PySem.W.tabIn K x = some (c, P) → P ∈ (tabsOf K).map (·.1) := fun x hx c P e => List.mem_map.mpr ⟨(P, x ++ ".<locals>." ++ "<lambda>"), List.mem_filterMap.mpr ⟨x, hx, by rw [e]; rfl⟩, rfl⟩
  have aT : a ∉ (tabsOf K).map (·.1) := fun z => by
    have q := tabG a z
    rw [hs] at q
    cases q
  have go : ∀ H : Hp, (∀ b u, H b = some u → (b = a ∧ K.lookup a = none ∧ u = .frz { cls := .type "list", data := .seq vals.toArray } (.lst (ns.map V.int))) ∨ (b ∈ (tabsOf K).map (·.1) ∧ u = .tbl #[])) → (∀ b ∈ (tabsOf K).map (·.1), H b = some (.tbl #[])) →
      HOk P w H sh.heap → SqL K H a (ns.map V.int) → codeAny (model P w) callerA (.call (.ref fa) ⟨[.ref a], []⟩) (fun r t => r = .ok (.ret (.bool true)) ∧ OldK sh.heap t.heap ∧ t.os = sh.os ∧ AllBare t.gens) sh := by
    intro H only tb ok seen
    have one : ∀ b, H b ≠ none → b = a ∨ sh.heap.get? b = some noTab := fun b z => by
      cases q : H b with
      | none => exact (z q).elim
      | some u => exact (only b u q).imp (fun h => h.1) fun h => tabG b h.1
    have kb : K.In (hidT sh.heap H) := by
      intro b o e
      refine hidT_get (kin b o e) ?_
      cases q : H b with
      | none => rfl
      | some u =>
        rcases only b u q with ⟨rfl, z, _⟩ | ⟨z, _⟩
        · rw [z] at e; cases e
        · rw [tabN b z] at e; cases e
    have nsb : ∀ {b : Addr} {m : Str → Option Value}, sh.heap.Ns b m → (hidT sh.heap H).Ns b m := by
      rintro b m ⟨o, es, ep, e, d, r⟩
      refine ⟨o, es, ep, hide_keeps hs one e (fun l z => ?_) (fun z => ?_), d, r⟩
      · rw [z] at d; cases d
      · rw [z] at d; cases d
    have TB : TabsB K (hidT sh.heap H) mg := fun x hx c P' e => by
      obtain ⟨cd, gP, _⟩ := LK.at_ x hx c P' e
      refine ⟨?_, ?_, fun z => ?_⟩
      · obtain ⟨o, us, file, tf, flags, tg, inF, text, tt, e1, r1, r2, r3, r4, r5⟩ := cd
        refine ⟨o, us, file, tf, flags, tg, inF, text, tt, hide_keeps hs one e1 (fun l z => ?_) (fun z => ?_), r1, r2, r3, r4, r5⟩
        · rw [z] at r2; cases r2
        · rw [z] at r2; cases r2; cases r3
      · obtain ⟨m, ob, b1, b2, b3, b4, b5, b6⟩ := bm
        have nG : m ≠ mainGlobals := fun z => by
          obtain ⟨o, es, ep, e, hd, _⟩ := gl
          rw [z, e] at b3; cases b3
          rw [hd] at b6; cases b6
        have nP : m ≠ P' := fun z => by
          rw [z, gP] at b3; cases b3; cases b6
        refine ⟨m, ob, b1, b2, nG, nP, hide_keeps hs one b3 (fun l z => ?_) (fun z => ?_), b4, b5, b6⟩
        · rw [z] at b6; cases b6
        · rw [z] at b6; cases b6
      · obtain ⟨o, es, ep, e, hd, _⟩ := gl
        rw [z, gP] at e; cases e; cases hd
    obtain ⟨mc, l1, l2⟩ := lim
    have M : Mod K mg (hidT sh.heap H) := ⟨kb, nsb gl, ⟨mb, nsb bl, bb⟩, ⟨mc, nsb l1, l2⟩⟩
    have en : Env0 P w K mg (hidT sh.heap H) callerA [] sh H := ⟨rfl, M, fun _ _ e => of_hidT e, Nat.le_of_eq (hidT_size _ _), trivial, fun _ z => (nomatch z), ok, .of_eq gens⟩
    have tabs : LamX.Tabs (tabsOf K) H := fun p hp => LamX.TabS.nil (tb p.1 (List.mem_map.mpr ⟨p, hp, rfl⟩))
    have run := (Fn _ kb (nsb gl) TB).run callerA [] sh H ⟨[.ref a], []⟩ [.ref a] [.ref a] _ room rfl en (bind sh (.ref a)) (.cons rfl .nil) (spT_law tabs hn seen)
    refine codeAny_mono run fun r t h => ?_
    match r, h with
    | .ok (.ret u), ⟨v, H', os, bare, un, ok', r', q⟩ =>
      have q : v = .bl true := q
      subst q
      have r' : u = Value.bool true := r'
      subst r'
      have stay : ∀ b o, b ∉ (tabsOf K).map (·.1) → sh.heap.get? b = some o → t.heap.get? b = some o := fun b o nb e => by
        cases q : H b with
        | none => exact un.keep b o e q (fun z => nomatch z) (fun z => nomatch z)
        | some u =>
          rcases only b u q with ⟨rfl, _, rfl⟩ | ⟨z, _⟩
          · have z1 := (ok b _ q).1
            have z2 := (ok' b _ (un.frzs b _ _ q)).1
            rw [z1] at e; cases e
            exact z2
          · exact absurd z nb
      have grown : ∀ b, b ∈ (tabsOf K).map (·.1) → ∃ more : Array Value, t.heap.get? b = some { cls := .none, data := .fields more } := fun b hb => by
        obtain ⟨more, z⟩ := un.tbls b #[] (tb b hb)
        exact ⟨_, ok' b _ z⟩
      refine ⟨rfl, ⟨fun b o e => ?_, fun b o e => ?_⟩, os, bare⟩
      · by_cases hb : b ∈ (tabsOf K).map (·.1)
        · obtain ⟨more, hm⟩ := grown b hb
          obtain ⟨x, hx, c, et⟩ := tabAt b hb
          obtain ⟨cd, gP, _⟩ := LK.at_ x hx c b et
          rw [gP] at e
          cases e
          exact .inr (.inl ⟨(cd.tab gP).isCodeTable, rfl, #[], more, rfl, by rw [Array.empty_append]; exact hm⟩)
        · exact .inl (stay b o hb e)
      · by_cases hb : b ∈ (tabsOf K).map (·.1)
        · obtain ⟨more, hm⟩ := grown b hb
          exact ⟨_, hm⟩
        · exact ⟨o, stay b o hb e⟩
    | .ok .next, h => exact False.elim h
    | .ok .brk, h => exact False.elim h
    | .ok .cont, h => exact False.elim h
    | .error e, h => exact False.elim h
  let u0 : HO := .frz { cls := .type "list", data := .seq vals.toArray } (.lst (ns.map V.int))
  let H0 : Hp := fun b => if b ∈ (tabsOf K).map (·.1) then some (.tbl #[]) else none
  have t0 : ∀ b u, H0 b = some u → b ∈ (tabsOf K).map (·.1) ∧ u = .tbl #[] := fun b u z => by
    by_cases hb : b ∈ (tabsOf K).map (·.1)
    · exact ⟨hb, (Option.some.inj (((if_pos hb).symm.trans z) : some (HO.tbl #[]) = some u)).symm⟩
    · cases ((if_neg hb).symm.trans z : (none : Option HO) = some u)
  cases hk : K.lookup a with
  | some o =>
    have e := kin a o hk
    rw [hs] at e; cases e
    refine go H0 (fun b u z => .inr (t0 b u z)) (fun b hb => if_pos hb) (fun b u z => ?_) (.inr ⟨_, vals.toArray, _, hk, rfl, rfl, rfl, by rw [List.size_toArray, len]; exact small, by simpa using rel⟩)
    obtain ⟨hb, rfl⟩ := t0 b u z
    exact tabG b hb
  | none =>
    let H1 : Hp := fun b => if b = a then some u0 else H0 b
    have t1 : ∀ b u, H1 b = some u → (b = a ∧ u = u0) ∨ (b ∈ (tabsOf K).map (·.1) ∧ u = .tbl #[]) := fun b u z => by
      by_cases hb : b = a
      · exact .inl ⟨hb, (Option.some.inj (((if_pos hb).symm.trans z) : some u0 = some u)).symm⟩
      · exact .inr (t0 b u ((if_neg hb).symm.trans z))
    refine go H1 (fun b u z => (t1 b u z).imp (fun h => ⟨h.1, hk, h.2⟩) id) (fun b hb => ?_) (fun b u z => ?_) (.inl (.inr ⟨_, if_pos rfl⟩))
    · exact (if_neg (fun z : b = a => aT (by rw [← z]; exact hb))).trans (if_pos hb)
    · rcases t1 b u z with ⟨rfl, rfl⟩ | ⟨hb, rfl⟩
      · exact ⟨hs, by rw [List.length_map]; exact small, vals, _, rel, hs⟩
      · exact tabG b hb
end
def LamAt (q : Program) (K : PySem.W.Frag) (x : Str) : Prop := PySem.W.tabIn K x = none ∨ ∃ c P d, PySem.W.tabIn K x = some (c, P) ∧ K.lookup P = none ∧ (recsOf q).find? (fun e => e.name == x) = some d
theorem lamAt_no {q : Program} {K : PySem.W.Frag} {x : Str} (h : PySem.W.nsIn K mainGlobals x = some none) : LamAt q K x := .inl (by unfold PySem.W.tabIn; rw [h])
theorem tabIn_mk {K : PySem.W.Frag} {x : Str} {f c P : Addr} {oc oc2 : Value} {od od2 : Option Addr} {fd : FuncData} {sl sl2 : Array (Option Value)} {vs : Array Value} (h1 : PySem.W.nsIn K mainGlobals x = some (some (.ref f))) (h2 : K.lookup f = some ⟨oc, od, .func fd, sl⟩) (h3 : fd.code = .ref c) (h4 : K.lookup c = some ⟨oc2, od2, .fields vs, sl2⟩) (h5 : vs[11]? = some (.ref P)) : PySem.W.tabIn K x = some (c, P) := by
  unfold PySem.W.tabIn
  rw [h1]
  dsimp only
  rw [h2]
  dsimp only
  rw [h3]
  dsimp only
  rw [h4]
  dsimp only
  rw [h5]
theorem law_walk {l : PySem.W.OpenLaw} {k : Nat} {q : Program} {loose : List Str} {XP : (Str → Option Value) → Heap → Prop} {YP : World → Heap → Prop} {d : DefRec} {K : Params → PySem.W.Frag} {x : Str} (hn : l.most = some 63) (hdf : d.params.defaults = []) (room : Room k callerA)
    (hY : ∀ (w : World) (h : Heap), YP w h → (K w.params).In h)
    (hlam : ∀ w : World, ∀ x ∈ lamNames, LamAt q (K w.params) x)
    (F : ∀ (w : World) (mg : Str → Option Value) (fa : Addr) (h : Heap), (K w.params).In h → h.Ns mainGlobals mg → mg d.name = some (.ref fa) →
      ∃ fd : FuncData, (∀ (s : Shared) (u : Value), BindsTo s fd ⟨[u], []⟩ [(x, u)]) ∧ ∀ base : Heap, (K w.params).In base → base.Ns mainGlobals mg → TabsB (K w.params) base mg → FnT l.prog w (K w.params) mg base k fa fd [x] (spT (K w.params) mg 1 tLawD)) :
    PySem.W.WalkO q loose XP YP l.row.toRowW d [] (fun f vs => PySem.call f vs) := by
  refine Att.attach_call hn hdf fun w _ sh mg mb fa _ _ _ _ a vals ns gr Y _ _ _ hmg hobj hints hlen hgens => ?_
  have kin := hY w _ Y
  obtain ⟨fd, bind, Fn⟩ := F w mg fa _ kin gr.T.g hmg
  refine law_run kin gr.T.g gr.T.b gr.T.builtins gr.T.nolimit hgens gr.T.bmain ⟨fun x hx c P e => ?_⟩ hobj hints hlen room Fn bind
  rcases hlam w x hx with z | ⟨c', P', d', z, n, r⟩
  · rw [e] at z; cases z
  · rw [e] at z
    cases z
    obtain ⟨a1, a2⟩ := PySem.W.tab_of gr.T kin r e
    exact ⟨a1, a2, n⟩
end TL
namespace TL
open PySem PySem.Spec PyProof.Rows L2
theorem forD_ind {g : WG} {body : WS} {P : Out → EnvD → Prop} (I : List D → EnvD → Prop) (step : ∀ d ds env, I (d :: ds) env → ∀ K : EnvD → Prop, (∀ e, I ds e → K e) → g (fz d) env fun e1 => body e1 fun o e2 => match o with
      | .nx => K e2
      | .ct => K e2
      | .bk => P .nx e2
      | .rt v => P (.rt v) e2) (fin : ∀ env, I [] env → P .nx env) : ∀ (ds : List D) (env : EnvD), I ds env → forD g body ds env P
  | [], env, h => fin env h
  | d :: ds, env, h => step d ds env h (fun e => forD g body ds e P) fun e he => forD_ind I step fin ds e he
theorem lcD_ind {vs : List Nat} {g : WG} {tt : WT} {te : WE} {P : List D → EnvD → Prop} (I : List D → List D → EnvD → Prop)
    (step : ∀ d ds acc env, I (d :: ds) acc env → ∀ K : List D → EnvD → Prop, (∀ a e, I ds a e → K a e) → g (fz d) env fun e1 => tt e1 fun b e2 => if b then te e2 fun val e3 => acc.length < 16777216 ∧ K (acc ++ [val.d]) (wipeD e3 vs) else K acc (wipeD e2 vs))
    (fin : ∀ acc env, I [] acc env → P acc env) : ∀ (ds acc : List D) (env : EnvD), I ds acc env → lcD vs g tt te ds acc env P
  | [], acc, env, h => fin acc env h
  | d :: ds, acc, env, h => step d ds acc env h (fun a e => lcD vs g tt te ds a e P) fun a e he => lcD_ind I step fin ds a e he
@[simp ↓] theorem opX_var (i : Nat) (t : WE) : opX (.var i) t = wVarX i := (rfl)
@[simp] theorem atI_nat {α : Type} (xs : List α) (i : Nat) : atI xs (i : Int) = xs[i]? := by
  unfold atI ixN
  rw [if_pos (by omega)]
  by_cases h : (i : Int) < xs.length
  · rw [if_pos h]; rfl
  · rw [if_neg h]; simp; omega
@[simp] theorem atI_ofNat {α : Type} (xs : List α) (i : Nat) : atI xs (no_index (OfNat.ofNat i : Int)) = xs[i]? := atI_nat xs i
@[simp] theorem atI_zero {α : Type} (xs : List α) : atI xs (0 : Int) = xs[0]? := atI_nat xs 0
@[simp] theorem atI_one {α : Type} (xs : List α) : atI xs (1 : Int) = xs[1]? := atI_nat xs 1
@[simp] theorem ixN_nat {n i : Nat} : ixN n (i : Int) = if i < n then some i else none := by
  unfold ixN
  rw [if_pos (by omega)]
  by_cases h : i < n
  · rw [if_pos (by omega), if_pos h]; rfl
  · rw [if_neg (by omega), if_neg h]
@[simp] theorem ixN_ofNat {n i : Nat} : ixN n (no_index (OfNat.ofNat i : Int)) = if i < n then some i else none := ixN_nat
@[simp] theorem ixN_zero {n : Nat} : ixN n (0 : Int) = if 0 < n then some 0 else none := ixN_nat (i := 0)
@[simp] theorem ixN_one {n : Nat} : ixN n (1 : Int) = if 1 < n then some 1 else none := ixN_nat (i := 1)
@[simp ↓] theorem opX_cst (c : Cn) (t : WE) : opX (.cst c) t = wTm t := (rfl)
@[simp ↓] theorem opX_glb (c : Nat) (t : WE) : opX (.glb c) t = wTm t := (rfl)
@[simp ↓] theorem opX_tup (a : Ms) (t : WE) : opX (.tup a) t = wTm t := (rfl)
@[simp ↓] theorem opX_lst (a : Ms) (t : WE) : opX (.lst a) t = wTm t := (rfl)
@[simp ↓] theorem opX_bin (o : BO) (a b : M) (t : WE) : opX (.bin o a b) t = wTm t := (rfl)
@[simp ↓] theorem opX_cmp (o : CO) (a b : M) (t : WE) : opX (.cmp o a b) t = wTm t := (rfl)
@[simp ↓] theorem opX_neg (a : M) (t : WE) : opX (.neg a) t = wTm t := (rfl)
@[simp ↓] theorem opX_ix (a b : M) (t : WE) : opX (.ix a b) t = wTm t := (rfl)
@[simp ↓] theorem opX_cut (a : M) (b c : Mo) (t : WE) : opX (.cut a b c) t = wTm t := (rfl)
@[simp ↓] theorem opX_bf (f : BF) (a : Ms) (t : WE) : opX (.bf f a) t = wTm t := (rfl)
@[simp ↓] theorem opX_call (k : Nat) (a : As) (t : WE) : opX (.call k a) t = wTm t := (rfl)
@[simp ↓] theorem opX_callk (k : Nat) (a b : Ms) (t : WE) : opX (.callk k a b) t = wTm t := (rfl)
@[simp ↓] theorem opX_bop (c : Bool) (a : Ms) (t : WE) : opX (.bop c a) t = wTm t := (rfl)
@[simp ↓] theorem opX_not (a : M) (t : WE) : opX (.not a) t = wTm t := (rfl)
@[simp ↓] theorem opX_ifx (c : T) (a b : M) (t : WE) : opX (.ifx c a b) t = wTm t := (rfl)
@[simp ↓] theorem opX_lc (o : List (Str × Nat)) (i : I) (g : Tg) (c : T) (e : M) (t : WE) : opX (.lc o i g c e) t = wTm t := (rfl)
@[simp ↓] theorem x_wTm (t : WE) env P : wTm t env P = (t env fun val env1 => P (.tm val.d) env1) := (rfl)
@[simp ↓] theorem x_wXnil  env P : wXnil env P = (P [] env) := (rfl)
@[simp ↓] theorem x_wXcons (t : WX) (ts : WXs) env P : wXcons t ts env P = (t env fun o env1 => ts env1 fun os env2 => P (o :: os) env2) := (rfl)
@[simp ↓] theorem x_wC (d : D) env P : wC d env P = (P (fz d) env) := (rfl)
@[simp ↓] theorem x_wNotT (t : WT) env P : wNotT t env P = (t env fun b env1 => P (!b) env1) := (rfl)
@[simp ↓] theorem x_wAndT (t u : WT) env P : wAndT t u env P = (t env fun b env1 => if b then u env1 P else P false env1) := (rfl)
@[simp ↓] theorem x_wOrT (t u : WT) env P : wOrT t u env P = (t env fun b env1 => if b then P true env1 else u env1 P) := (rfl)
@[simp ↓] theorem x_wIf (c : WT) (t u : WE) env P : wIf c t u env P = (c env fun b env1 => if b then t env1 P else u env1 P) := (rfl)
@[simp ↓] theorem x_wLs (i : Nat) env P : wLs i env P = ((∃ x, env[i]? = some (some x)) ∧ P (.ls i) env) := (rfl)
@[simp ↓] theorem x_wOwn (t : WE) env P : wOwn t env P = (t env fun val env1 => P (.vl val) env1) := (rfl)
@[simp ↓] theorem x_wFro (t : WE) env P : wFro t env P = (t env fun val env1 => P (.vl (fz val.d)) env1) := (rfl)
@[simp ↓] theorem x_wAnil  env P : wAnil env P = (P [] env) := (rfl)
@[simp ↓] theorem x_wAcons (t : WA1) (ts : WAs) env P : wAcons t ts env P = (t env fun o env1 => ts env1 fun os env2 => P (o :: os) env2) := (rfl)
@[simp ↓] theorem x_gwName (i : Nat) val env P : gwName i val env P = (i < env.length ∧ P (env.set i (some val))) := (rfl)
@[simp ↓] theorem x_gwNil  ds env P : gwNil ds env P = (ds = [] ∧ P env) := (rfl)
@[simp ↓] theorem x_wsNil  env P : wsNil env P = (P .nx env) := (rfl)
@[simp ↓] theorem x_wsIf (c : WT) (t u : WS) env P : wsIf c t u env P = (c env fun b env1 => if b then t env1 P else u env1 P) := (rfl)
@[simp ↓] theorem x_wsAsg (t : WE) (g : WG) env P : wsAsg t g env P = (t env fun val env1 => g val env1 fun env2 => P .nx env2) := (rfl)
@[simp ↓] theorem x_wsExp (t : WE) env P : wsExp t env P = (t env fun _ env1 => P .nx env1) := (rfl)
@[simp ↓] theorem x_wsRet (t : WE) env P : wsRet t env P = (t env fun val env1 => P (.rt val) env1) := (rfl)
@[simp ↓] theorem x_wYes  env P : wYes env P = (P true env) := (rfl)
@[simp ↓] theorem x_wsPar (is : List Nat) (ts : WAs) env P : wsPar is ts env P = (ts env fun os env1 => ∃ xs, vls os = some xs ∧ xs.length = is.length ∧ (∀ i ∈ is, i < env1.length) ∧ P .nx (setAll env1 is (xs.map some))) := (rfl)
@[simp ↓] theorem x_wNoPart  env P : wNoPart env P = (P none env) := (rfl)
@[simp ↓] theorem x_wPart (t : WE) env P : wPart t env P = (t env fun val env1 => ∃ i, val.d = .int i ∧ P (some i) env1) := (rfl)
@[simp ↓] theorem x_56 {G : Gm} (c) : wM G (.cst c) = wC c.d := by rw [wM]
@[simp ↓] theorem x_57 {G : Gm} (i) : wM G (.var i) = wVar i := by rw [wM]
@[simp ↓] theorem x_58 {G : Gm} (a) : wM G (.tup a) = wTup (wFs G a) := by rw [wM]
@[simp ↓] theorem x_59 {G : Gm} (a) : wM G (.lst a) = wLst (wFs G a) := by rw [wM]
@[simp ↓] theorem x_60 {G : Gm} (o a b) : wM G (.bin o a b) = wBin o.s (opX a (wM G a)) (opX b (wM G b)) := by rw [wM]
@[simp ↓] theorem x_61 {G : Gm} (o a b) : wM G (.cmp o a b) = wBin o.s (opX a (wM G a)) (opX b (wM G b)) := by rw [wM]
@[simp ↓] theorem x_63 {G : Gm} (a b) : wM G (.ix a b) = wBin sIxA (opX a (wM G a)) (opX b (wM G b)) := by rw [wM]
@[simp ↓] theorem x_64 {G : Gm} (a lo hi) : wM G (.cut a lo hi) = wCut (opX a (wM G a)) (wOo G lo) (wOo G hi) := by rw [wM]
@[simp ↓] theorem x_65 {G : Gm} (f a) : wM G (.bf f a) = wCall f.s (wXs G a) := by rw [wM]
@[simp ↓] theorem x_66 {G : Gm} (c a) : wM G (.bop c a) = wBo G c a := by rw [wM]
@[simp ↓] theorem x_67 {G : Gm} (a) : wM G (.not a) = wNotV (wM G a) := by rw [wM]
@[simp ↓] theorem x_68 {G : Gm} (c a b) : wM G (.ifx c a b) = wIf (wT G c) (wM G a) (wM G b) := by rw [wM]
@[simp ↓] theorem x_69 {G : Gm} (own it g c e) : wM G (.lc own it g c e) = wLc (wI G it) (own.map (·.2)) (gW g) (wT G c) (wM G e) := by rw [wM]
@[simp ↓] theorem x_lc2 {G : Gm} (own it g c vs1 it1 g1 c1 e) : wM G (.lc2 own it g c vs1 it1 g1 c1 e) = wLc2 (wI G it) (own.map (·.2)) (gW g) (wT G c) (wI G it1) vs1 (gW g1) (wT G c1) (wM G e) := by rw [wM]
@[simp ↓] theorem x_70 {G : Gm}  : wXs G .nil = wXnil := by rw [wXs]
@[simp ↓] theorem x_71 {G : Gm} (a r) : wXs G (.cons a r) = wXcons (opX a (wM G a)) (wXs G r) := by rw [wXs]
@[simp ↓] theorem x_72 {G : Gm}  : wFs G .nil = wXnil := by rw [wFs]
@[simp ↓] theorem x_73 {G : Gm} (a r) : wFs G (.cons a r) = wXcons (wTm (wM G a)) (wFs G r) := by rw [wFs]
@[simp ↓] theorem x_74 {G : Gm} (c a) : wBo G c (.cons a .nil) = wM G a := by rw [wBo]
@[simp ↓] theorem x_75 {G : Gm} (a b r) : wBo G true (.cons a (.cons b r)) = wAndV (wM G a) (wBo G true (.cons b r)) := by rw [wBo]; rfl; (intro h; cases h)
@[simp ↓] theorem x_76 {G : Gm} (a b r) : wBo G false (.cons a (.cons b r)) = wOrV (wM G a) (wBo G false (.cons b r)) := by rw [wBo]; rfl; (intro h; cases h)
@[simp ↓] theorem x_77 {G : Gm}  : wOo G .no = wNoPart := by rw [wOo]
@[simp ↓] theorem x_78 {G : Gm} (a) : wOo G (.so a) = wPart (wM G a) := by rw [wOo]
@[simp ↓] theorem x_79 {G : Gm}  : wAs G .nil = wAnil := by rw [wAs]
@[simp ↓] theorem x_80m {G : Gm} (i r) : wAs G (.mv i r) = wAcons (wMv i) (wAs G r) := by rw [wAs]
@[simp ↓] theorem x_80 {G : Gm} (i r) : wAs G (.lend i r) = wAcons (wLs i) (wAs G r) := by rw [wAs]
@[simp ↓] theorem x_81 {G : Gm} (a r) : wAs G (.own a r) = wAcons (wOwn (wM G a)) (wAs G r) := by rw [wAs]
@[simp ↓] theorem x_82 {G : Gm} (a r) : wAs G (.fro a r) = wAcons (wFro (wM G a)) (wAs G r) := by rw [wAs]
@[simp ↓] theorem x_83 {G : Gm}  : wT G .yes = wYes := by rw [wT]
@[simp ↓] theorem x_84 {G : Gm} (a) : wT G (.val a) = wTru (opX a (wM G a)) := by rw [wT]
@[simp ↓] theorem x_85 {G : Gm} (o a b) : wT G (.cmp o a b) = wTB (wBin o.s (opX a (wM G a)) (opX b (wM G b))) := by rw [wT]
@[simp ↓] theorem x_86 {G : Gm} (t) : wT G (.not t) = wNotT (wT G t) := by rw [wT]
@[simp ↓] theorem x_87 {G : Gm} (c t) : wT G (.bop c t) = wTs G c t := by rw [wT]
@[simp ↓] theorem x_88 {G : Gm} (c a) : wTs G c (.cons a .nil) = wT G a := by rw [wTs]
@[simp ↓] theorem x_89 {G : Gm} (a b r) : wTs G true (.cons a (.cons b r)) = wAndT (wT G a) (wTs G true (.cons b r)) := by rw [wTs]; rfl; (intro h; cases h)
@[simp ↓] theorem x_90 {G : Gm} (a b r) : wTs G false (.cons a (.cons b r)) = wOrT (wT G a) (wTs G false (.cons b r)) := by rw [wTs]; rfl; (intro h; cases h)
@[simp ↓] theorem x_91 {G : Gm} (a) : wI G (.seq a) = wiSeqA (wM G a) := by rw [wI]
@[simp ↓] theorem x_92 {G : Gm} (a) : wI G (.rng1 a) = wiRng1 (wXcons (wTm (wM G a)) wXnil) := by rw [wI]
@[simp ↓] theorem x_94 {G : Gm} (a) : wI G (.enu a) = wiEnumA (wXcons (wTm (wM G a)) wXnil) := by rw [wI]
@[simp ↓] theorem x_95 {G : Gm} (a b) : wI G (.zip a b) = wiZipA (wXcons (wTm (wM G a)) (wXcons (wTm (wM G b)) wXnil)) := by rw [wI]
@[simp ↓] theorem x_96 {G : Gm} (g e) : wS G (.asg g e) = wsAsg (wM G e) (gW g) := by rw [wS]
@[simp ↓] theorem x_97 {G : Gm} (is a) : wS G (.par is a) = wsPar is (wAs G a) := by rw [wS]
@[simp ↓] theorem x_98 {G : Gm} (i ix e) : wS G (.setI i ix e) = wsSetA i (wM G e) (wM G ix) := by rw [wS]
@[simp ↓] theorem x_100 {G : Gm} (i e) : wS G (.app i e) = wsApp i (wM G e) := by rw [wS]
@[simp ↓] theorem x_101 {G : Gm} (e) : wS G (.exp e) = wsExp (wM G e) := by rw [wS]
@[simp ↓] theorem x_102 {G : Gm} (c a b) : wS G (.iff c a b) = wsIf (wT G c) (wSs G a) (wSs G b) := by rw [wS]
@[simp ↓] theorem x_103 {G : Gm} (it g b) : wS G (.loop it g b) = wsFor (wI G it) (gW g) (wSs G b) := by rw [wS]
@[simp ↓] theorem x_104 {G : Gm} (e) : wS G (.ret e) = wsRet (wM G e) := by rw [wS]
@[simp ↓] theorem x_105 {G : Gm} (i) : wS G (.retv i) = wsRetV i := by rw [wS]
@[simp ↓] theorem x_109 {G : Gm}  : wS G .pass = wsNil := by rw [wS]
@[simp ↓] theorem x_110 {G : Gm}  : wSs G .nil = wsNil := by rw [wSs]
@[simp ↓] theorem x_111 {G : Gm} (a r) : wSs G (.cons a r) = wsSeq (wS G a) (wSs G r) := by rw [wSs]
@[simp ↓] theorem x_115 (i) : gW (.name i) = gwName i := by rw [gW]
@[simp ↓] theorem x_116 (r) : gW (.tup r) = if gW.st r then gwTupS (gW.len r) (gW.gWs r) else gwTup (gW.len r) (gW.gWs r) := by rw [gW]
@[simp] theorem x_st0 : gW.st .nil = false := by rw [gW.st]
@[simp] theorem x_st1 (a r) : gW.st (.cons a r) = gW.st r := by rw [gW.st]
@[simp] theorem x_st2 (i) : gW.st (.star i) = true := by rw [gW.st]
@[simp ↓] theorem x_gws2 (i) : gW.gWs (.star i) = gwStL i := by rw [gW.gWs]
@[simp ↓] theorem x_gwl2 (i) : gW.len (.star i) = 0 := by rw [gW.len]
@[simp ↓] theorem x_117  : gW.gWs .nil = gwNil := by rw [gW.gWs]
@[simp ↓] theorem x_118 (a r) : gW.gWs (.cons a r) = gwCons (gW a) (gW.gWs r) := by rw [gW.gWs]
@[simp ↓] theorem x_119  : gW.len .nil = 0 := by rw [gW.len]
@[simp ↓] theorem x_120 (a r) : gW.len (.cons a r) = gW.len r + 1 := by rw [gW.len]
@[simp] theorem x_tr_n : truthD .non = some false := (rfl)
@[simp] theorem x_tr_b (b) : truthD (.bl b) = some b := (rfl)
@[simp] theorem x_tr_i (i) : truthD (.int i) = some (i != 0) := (rfl)
@[simp] theorem x_tr_l (xs) : truthD (.lst xs) = some (!xs.isEmpty) := (rfl)
@[simp] theorem x_tr_t (xs) : truthD (.tup xs) = some (!xs.isEmpty) := (rfl)
@[simp] theorem x_fl_n : flatD .non = true := (rfl)
@[simp] theorem x_fl_b (b) : flatD (.bl b) = true := (rfl)
@[simp] theorem x_fl_i (b) : flatD (.int b) = true := (rfl)
@[simp] theorem x_fl_s (b) : flatD (.str b) = true := (rfl)
@[simp] theorem x_nn_n : isNonD .non = true := (rfl)
@[simp] theorem x_nn_b (b) : isNonD (.bl b) = false := (rfl)
@[simp] theorem x_nn_i (b) : isNonD (.int b) = false := (rfl)
@[simp] theorem x_nn_s (b) : isNonD (.str b) = false := (rfl)
@[simp] theorem x_nn_l (b) : isNonD (.lst b) = false := (rfl)
@[simp] theorem x_nn_t (b) : isNonD (.tup b) = false := (rfl)
@[simp] theorem x_tms0 : tms [] = some [] := (rfl)
@[simp] theorem x_tms1 (d os) : tms (.tm d :: os) = (tms os).map (d :: ·) := (rfl)
@[simp] theorem x_res_t (env d) : Opd.res env (.tm d) = some d := (rfl)
@[simp] theorem x_ra0 (env) : resAll env [] = some [] := (rfl)
@[simp] theorem x_ld0 (env) : lendA env [] = some ([], env) := (rfl)
@[simp] theorem x_gv0 (env xs) : giveA env [] xs = env := by cases xs <;> rfl
@[simp] theorem x_gv1 (env i os x xs) : giveA env (.ls i :: os) (x :: xs) = giveA (env.set i (some x)) os xs := (rfl)
@[simp] theorem x_gv2 (env y os x xs) : giveA env (.vl y :: os) (x :: xs) = giveA env os xs := (rfl)
@[simp] theorem x_sa0 {α : Type} (l xs : List α) : setAll l [] xs = l := by cases xs <;> rfl
@[simp] theorem x_sa1 {α : Type} (l xs : List α) (i is x) : setAll l (i :: is) (x :: xs) = setAll (l.set i x) is xs := (rfl)
@[simp] theorem x_vl0 : vls [] = some [] := (rfl)
@[simp] theorem x_vl1 (x os) : vls (.vl x :: os) = (vls os).map (x :: ·) := (rfl)
@[simp] theorem x_cn0 : Cn.d .non = .non := (rfl)
@[simp] theorem x_cn1 (b) : Cn.d (.bl b) = .bl b := (rfl)
@[simp] theorem x_cn2 (b) : Cn.d (.int b) = .int b := (rfl)
@[simp] theorem x_cn3 (b) : Cn.d (.str b) = .str b := (rfl)
@[simp] theorem x_bo_add : BO.s .add = sAddB := (rfl)
@[simp] theorem x_bo_sub : BO.s .sub = sSubB := (rfl)
@[simp] theorem x_bo_mul : BO.s .mul = sMulT := (rfl)
@[simp] theorem x_bo_div : BO.s .div = sDivA := (rfl)
@[simp] theorem x_bo_mod : BO.s .mod = sMod := (rfl)
@[simp] theorem x_bo_pow : BO.s .pow = sPow := (rfl)
@[simp] theorem x_co_lt : CO.s .lt = sLt := (rfl)
@[simp] theorem x_co_le : CO.s .le = sLeS := (rfl)
@[simp] theorem x_co_gt : CO.s .gt = sGt := (rfl)
@[simp] theorem x_co_ge : CO.s .ge = sGe := (rfl)
@[simp] theorem x_co_eq : CO.s .eq = sEq false := (rfl)
@[simp] theorem x_co_ne : CO.s .ne = sEq true := (rfl)
@[simp] theorem x_co_is : CO.s .is = sIsX false := (rfl)
@[simp] theorem x_co_isnot : CO.s .isnot = sIsX true := (rfl)
@[simp] theorem x_co_isin : CO.s .isin = sInB false := (rfl)
@[simp] theorem x_co_notin : CO.s .notin = sInB true := (rfl)
@[simp] theorem x_bf_len : BF.s .len = sLen := (rfl)
@[simp] theorem x_bf_abs : BF.s .abs = sAbs := (rfl)
@[simp] theorem x_bf_int : BF.s .int = sIntOf := (rfl)
@[simp] theorem x_bf_list : BF.s .list = sList := (rfl)
@[simp] theorem x_bf_tuple : BF.s .tuple = sTuple := (rfl)
@[simp] theorem x_bf_all : BF.s .all = sAll := (rfl)
@[simp] theorem x_bf_any : BF.s .any = sAny := (rfl)
@[simp] theorem x_bf_repr : BF.s .repr = sRepr := (rfl)
@[simp] theorem x_wip0 (env) : wipeD env [] = env := (rfl)
@[simp] theorem x_wip1 (env v vs) : wipeD env (v :: vs) = (wipeD env vs).set v none := (rfl)
@[simp] theorem x_bk0 (env0 env) : backD env0 env [] = env := (rfl)
@[simp] theorem x_bk1 (env0 env v vs) : backD env0 env (v :: vs) = backD env0 (env.set v (((wipeD env0 vs)[v]?).getD none)) vs := (rfl)
@[simp ↓] theorem x_env0 (N args) : env0 N args = args.map some ++ List.replicate (N.length - args.length) none := (rfl)
@[simp ↓] theorem x_ea0 (n P env) : endA n P .nx env = FinA n env (P (fz .non)) := (rfl)
@[simp ↓] theorem x_ea1 (n P v env) : endA n P (.rt v) env = FinA n env (P v) := (rfl)
@[simp ↓] theorem x_eb0 (a P env) : endB a P .nx env = P (fz .non) a := (rfl)
@[simp ↓] theorem x_eb1 (a P v env) : endB a P (.rt v) env = P v a := (rfl)
@[simp] theorem x_oa0 : outA [] = some [] := (rfl)
@[simp] theorem x_oa1 (x r) : outA (some x :: r) = (outA r).map (x :: ·) := by show (match outA r with | some l => some (x :: l) | none => none) = _; cases outA r <;> rfl
@[simp] theorem x_pick0 {α : Type} (d : α) (l) : pick d [] l = [] := (rfl)
@[simp] theorem x_pick1 {α : Type} (d : α) (i is) (l : List α) : pick d (i :: is) l = l.getD i d :: pick d is l := (rfl)
@[simp ↓] theorem x_wsSeq (t u env P) : wsSeq t u env P = t env (fun o env1 => match o with | .nx => u env1 P | o => P o env1) := (rfl)
@[simp] theorem x_pu0 : pure' .non = true := (rfl)
@[simp] theorem x_pu1 (b) : pure' (.bl b) = true := (rfl)
@[simp] theorem x_pu2 (b) : pure' (.int b) = true := (rfl)
@[simp] theorem x_pu3 (b) : pure' (.str b) = true := (rfl)
@[simp] theorem x_pu4 (b) : pure' (.lst b) = pures b := (rfl)
@[simp] theorem x_pu5 (b) : pure' (.tup b) = pures b := (rfl)
@[simp] theorem x_pus0 : pures [] = true := (rfl)
@[simp] theorem x_pus1 (x xs) : pures (x :: xs) = (pure' x && pures xs) := (rfl)
class Kt (α : Type) where
  run : α → Prop
def onB (d : D) [k : Kt Bool] : Prop := match d with
  | .bl b => k.run b
  | _ => False
def onS {α : Type} (o : Option α) [k : Kt α] : Prop := match o with
  | some x => k.run x
  | none => False
def onSS {α : Type} (o : Option (Option α)) [k : Kt α] : Prop := match o with
  | some (some x) => k.run x
  | _ => False
def op2 (s : S2) (x y : D) [k : Kt Val] : Prop := s x y k.run
def op1 (s : S1) (x : D) [k : Kt Val] : Prop := s x k.run
def opN (s : SN) (x : List D) [k : Kt Val] : Prop := s x k.run
def opD (t : DSpec) (x : List Val) [k : Kt (Val × List Val)] : Prop := t x fun v xs => k.run (v, xs)
def lcK (vs : List Nat) (g : WG) (tt : WT) (te : WE) (ds : List D) (acc : List D) (env : EnvD) [k : Kt (List D × EnvD)] : Prop := lcD vs g tt te ds acc env fun a e => k.run (a, e)
def lcOK (vs : List Nat) (g : WG) (tt : WT) (it1 : WI) (vs1 : List Nat) (g1 : WG) (tt1 : WT) (te : WE) (ds : List D) (acc : List D) (env : EnvD) [k : Kt (List D × EnvD)] : Prop := lcO vs g tt it1 vs1 g1 tt1 te ds acc env fun a e => k.run (a, e)
def forK (g : WG) (body : WS) (ds : List D) (env : EnvD) [k : Kt (Out × EnvD)] : Prop := forD g body ds env fun a e => k.run (a, e)
@[simp] theorem onB_bl (b k) : @onB (.bl b) k = k.run b := (rfl)
@[simp] theorem onS_some {α : Type} (b : α) (k) : @onS α (some b) k = k.run b := (rfl)
@[simp] theorem onSS_some {α : Type} (b : α) (k) : @onSS α (some (some b)) k = k.run b := (rfl)
theorem onB_eq (d : D) (k : Bool → Prop) : (∃ b, d = .bl b ∧ k b) = @onB d ⟨k⟩ := by
  cases d with
  | bl b => exact propext ⟨fun ⟨c, e, q⟩ => by cases e; exact q, fun q => ⟨b, rfl, q⟩⟩
  | _ => exact propext ⟨fun ⟨c, e, q⟩ => (by cases e), fun q => (show False from q).elim⟩
theorem onS_eq {α : Type} (o : Option α) (k : α → Prop) : (∃ b, o = some b ∧ k b) = @onS α o ⟨k⟩ := by
  cases o with
  | some b => exact propext ⟨fun ⟨c, e, q⟩ => by cases e; exact q, fun q => ⟨b, rfl, q⟩⟩
  | none => exact propext ⟨fun ⟨c, e, q⟩ => (by cases e), fun q => (show False from q).elim⟩
theorem onSS_eq {α : Type} (o : Option (Option α)) (k : α → Prop) : (∃ b, o = some (some b) ∧ k b) = @onSS α o ⟨k⟩ := by
  cases o with
  | some b => cases b with
    | some b => exact propext ⟨fun ⟨c, e, q⟩ => (by cases e; exact q), fun q => ⟨b, rfl, q⟩⟩
    | none => exact propext ⟨fun ⟨c, e, q⟩ => (by cases e), fun q => (show False from q).elim⟩
  | none => exact propext ⟨fun ⟨c, e, q⟩ => (by cases e), fun q => (show False from q).elim⟩
theorem onS_el {α : Type} {o : Option α} {k : Kt α} (h : @onS α o k) : ∃ x, o = some x ∧ k.run x := by
  cases o with
  | some x => exact ⟨x, rfl, h⟩
  | none => exact (show False from h).elim
theorem ex2 {α β : Type} {p : α → Prop} {q : β → Prop} {r : α → β → Prop} : (∃ x y, p x ∧ q y ∧ r x y) = ∃ x, p x ∧ ∃ y, q y ∧ r x y :=
  propext ⟨fun ⟨x, y, a, b, c⟩ => ⟨x, a, y, b, c⟩, fun ⟨x, a, y, b, c⟩ => ⟨x, y, a, b, c⟩⟩
def onL (x : Val) [k : Kt (List D)] : Prop := match x with
  | ⟨true, .lst ds⟩ => k.run ds
  | _ => False
def onI (d : D) [k : Kt Int] : Prop := match d with
  | .int i => k.run i
  | _ => False
@[simp] theorem onL_l (ds k) : @onL ⟨true, .lst ds⟩ k = k.run ds := (rfl)
@[simp] theorem onI_i (i k) : @onI (.int i) k = k.run i := (rfl)
theorem onL_eq (x : Val) (k : List D → Prop) : (∃ ds, x = ⟨true, .lst ds⟩ ∧ k ds) = @onL x ⟨k⟩ := by
  obtain ⟨o, d⟩ := x
  cases o <;> cases d <;> first
    | exact propext ⟨fun ⟨c, e, q⟩ => (by cases e; exact q), fun q => ⟨_, rfl, q⟩⟩
    | exact propext ⟨fun ⟨c, e, q⟩ => (by cases e), fun q => (show False from q).elim⟩
theorem onI_eq (x : D) (k : Int → Prop) : (∃ ds, x = .int ds ∧ k ds) = @onI x ⟨k⟩ := by
  cases x <;> first
    | exact propext ⟨fun ⟨c, e, q⟩ => (by cases e; exact q), fun q => ⟨_, rfl, q⟩⟩
    | exact propext ⟨fun ⟨c, e, q⟩ => (by cases e), fun q => (show False from q).elim⟩
theorem onSL_eq {o : Option (Option Val)} {k : List D → Prop} : (∃ ds, o = some (some ⟨true, .lst ds⟩) ∧ k ds) = @onSS _ o ⟨fun x => @onL x ⟨k⟩⟩ := by
  rw [← onSS_eq]
  simp only [← onL_eq]
  exact propext ⟨fun ⟨ds, h, q⟩ => ⟨_, h, ds, rfl, q⟩, fun ⟨x, h, ds, e, q⟩ => ⟨ds, by rw [h, e], q⟩⟩
@[simp ↓] theorem x_wVar (i env P) : wVar i env P = @onSS _ env[i]? ⟨fun x => P (fz x.d) (env.set i (some (fz x.d)))⟩ := by unfold wVar; rw [onSS_eq]
@[simp ↓] theorem x_wVarX (i env P) : wVarX i env P = @onSS _ env[i]? ⟨fun _ => P (.sl i) env⟩ := by
  unfold wVarX; rw [← onSS_eq]; exact propext ⟨fun ⟨⟨x, h⟩, p⟩ => ⟨x, h, p⟩, fun ⟨x, h, p⟩ => ⟨⟨x, h⟩, p⟩⟩
@[simp ↓] theorem x_wBin (s ta tb env P) : wBin s ta tb env P = ta env fun oa env1 => tb env1 fun ob env2 => @onS _ (oa.res env2) ⟨fun x => @onS _ (ob.res env2) ⟨fun y => @op2 s x y ⟨fun val => P val env2⟩⟩⟩ := by
  unfold wBin op2; simp only [ex2, onS_eq]
@[simp ↓] theorem x_wUn (s ta env P) : wUn s ta env P = ta env fun oa env1 => @onS _ (oa.res env1) ⟨fun x => @op1 s x ⟨fun val => P val env1⟩⟩ := by unfold wUn op1; simp only [onS_eq]
@[simp ↓] theorem x_wCall (s ts env P) : wCall s ts env P = ts env fun os env1 => @onS _ (resAll env1 os) ⟨fun ds => @opN s ds ⟨fun val => P val env1⟩⟩ := by unfold wCall opN; simp only [onS_eq]
@[simp ↓] theorem x_wCut (ta tl th env P) : wCut ta tl th env P = ta env fun oa env1 => tl env1 fun lo env2 => th env2 fun hi env3 => @onS _ (oa.res env3) ⟨fun x => @op1 (sCutA lo hi) x ⟨fun val => P val env3⟩⟩ := by unfold wCut op1; simp only [onS_eq]
@[simp ↓] theorem x_wLst (ts env P) : wLst ts env P = ts env fun os env1 => @onS _ (tms os) ⟨fun ds => ds.length ≤ 16777216 ∧ P ⟨true, .lst ds⟩ env1⟩ := by unfold wLst; simp only [onS_eq]
@[simp ↓] theorem x_wTup (ts env P) : wTup ts env P = ts env fun os env1 => @onS _ (tms os) ⟨fun ds => ds.length ≤ 16777216 ∧ P (fz (.tup ds)) env1⟩ := by unfold wTup; simp only [onS_eq]
@[simp ↓] theorem x_wCallF (n t ts env P) : wCallF n t ts env P = ts env fun os env1 => @onS _ (lendA env1 os) ⟨fun r => os.length = n ∧ @opD t r.1 ⟨fun p => P p.1 (giveA r.2 os p.2)⟩⟩ := by unfold wCallF opD; simp only [onS_eq]
@[simp ↓] theorem x_wsRetV (i env P) : wsRetV i env P = @onSS _ env[i]? ⟨fun x => P (.rt x) (env.set i none)⟩ := by unfold wsRetV; rw [onSS_eq]
@[simp ↓] theorem x_fin (n env Q) : FinA n env Q = @onS _ (outA (env.take n)) ⟨Q⟩ := by unfold FinA; rw [onS_eq]
@[simp ↓] theorem x_wTB (t env P) : wTB t env P = t env (fun val env1 => @onB val.d ⟨fun b => P b env1⟩) := by
  unfold wTB; simp only [onB_eq]
@[simp ↓] theorem x_wTru (t env P) : wTru t env P = t env (fun o env1 => @onS _ (o.res env1) ⟨fun d => @onS _ (truthD d) ⟨fun b => P b env1⟩⟩) := by
  unfold wTru
  congr 1; funext o env1
  rw [← onS_eq]
  simp only [← onS_eq]
  exact propext ⟨fun ⟨d, b, h1, h2, h3⟩ => ⟨d, h1, b, h2, h3⟩, fun ⟨d, h1, b, h2, h3⟩ => ⟨d, b, h1, h2, h3⟩⟩
@[simp ↓] theorem x_wAndV (t u env P) : wAndV t u env P = t env (fun val env1 => @onS _ (truthD val.d) ⟨fun b => if b then u env1 P else P val env1⟩) := by
  unfold wAndV; simp only [onS_eq]
@[simp ↓] theorem x_wOrV (t u env P) : wOrV t u env P = t env (fun val env1 => @onS _ (truthD val.d) ⟨fun b => if b then P val env1 else u env1 P⟩) := by
  unfold wOrV; simp only [onS_eq]
@[simp ↓] theorem x_wNotV (t env P) : wNotV t env P = t env (fun val env1 => @onS _ (truthD val.d) ⟨fun b => P (fz (.bl (!b))) env1⟩) := by
  unfold wNotV; simp only [onS_eq]
@[simp ↓] theorem x_wLc (it vs g tt te env P) : wLc it vs g tt te env P = it env fun ds env1 => @lcK vs g tt te ds [] (wipeD env1 vs) ⟨fun p => P ⟨true, .lst p.1⟩ (backD env1 p.2 vs)⟩ := (rfl)
@[simp ↓] theorem x_wLc2 (it vs g tt it1 vs1 g1 tt1 te env P) : wLc2 it vs g tt it1 vs1 g1 tt1 te env P = it env fun ds env1 => @lcOK vs g tt it1 vs1 g1 tt1 te ds [] (wipeD env1 vs) ⟨fun p => P ⟨true, .lst p.1⟩ (backD env1 p.2 vs)⟩ := (rfl)
@[simp ↓] theorem x_wsFor (it g body env P) : wsFor it g body env P = it env fun ds env1 => @forK g body ds env1 ⟨fun p => P p.1 p.2⟩ := (rfl)
@[simp ↓] theorem x_wsApp (i te env P) : wsApp i te env P = @onSS _ env[i]? ⟨fun x => @onL x ⟨fun _ => te env fun val env1 => @onSS _ env1[i]? ⟨fun x => @onL x ⟨fun ds => ds.length < 16777216 ∧ P .nx (env1.set i (some ⟨true, .lst (ds ++ [val.d])⟩))⟩⟩⟩⟩ := by
  unfold wsApp; simp only [onSL_eq]; rw [← onSL_eq]
  exact propext ⟨fun ⟨⟨ds, h⟩, p⟩ => ⟨ds, h, p⟩, fun ⟨ds, h, p⟩ => ⟨⟨ds, h⟩, p⟩⟩
def stA (x : Val) (i v : D) [k : Kt Val] : Prop := match x with
  | ⟨true, .lst ds⟩ => @onI i ⟨fun j => @onS _ (ixN ds.length j) ⟨fun n => k.run ⟨true, .lst (ds.set n v)⟩⟩⟩
  | ⟨true, .dic ks ds⟩ => @onS _ (keyU i) ⟨fun key => ks.length < 16777216 ∧ k.run ⟨true, .dic (dput ks ds key v).1 (dput ks ds key v).2⟩⟩
  | _ => False
@[simp] theorem stA_l (ds i v k) : @stA ⟨true, .lst ds⟩ i v k = @onI i ⟨fun j => @onS _ (ixN ds.length j) ⟨fun n => k.run ⟨true, .lst (ds.set n v)⟩⟩⟩ := (rfl)
@[simp] theorem stA_d (ks ds i v k) : @stA ⟨true, .dic ks ds⟩ i v k = @onS _ (keyU i) ⟨fun key => ks.length < 16777216 ∧ k.run ⟨true, .dic (dput ks ds key v).1 (dput ks ds key v).2⟩⟩ := (rfl)
theorem stA_eq (o : Option (Option Val)) (i v : D) (Pn : Val → Prop) :
    ((∃ ds j k, o = some (some ⟨true, .lst ds⟩) ∧ i = .int j ∧ ixN ds.length j = some k ∧ Pn ⟨true, .lst (ds.set k v)⟩) ∨
      ∃ ks ds k, o = some (some ⟨true, .dic ks ds⟩) ∧ keyU i = some k ∧ ks.length < 16777216 ∧ Pn ⟨true, .dic (dput ks ds k v).1 (dput ks ds k v).2⟩) = @onSS _ o ⟨fun x => @stA x i v ⟨Pn⟩⟩ := by
  rw [← onSS_eq]
  refine propext ⟨fun h => ?_, fun ⟨x, e, h⟩ => ?_⟩
  · rcases h with ⟨ds, j, k, a, b, c, d⟩ | ⟨ks, ds, k, a, b, c, d⟩
    · refine ⟨_, a, ?_⟩
      rw [stA_l, ← onI_eq]; simp only [← onS_eq]
      exact ⟨j, b, k, c, d⟩
    · refine ⟨_, a, ?_⟩
      rw [stA_d, ← onS_eq]
      exact ⟨k, b, c, d⟩
  · unfold stA at h
    split at h
    · rw [← onI_eq] at h; simp only [← onS_eq] at h
      obtain ⟨j, b, k, c, d⟩ := h
      exact .inl ⟨_, j, k, e, b, c, d⟩
    · rw [← onS_eq] at h
      obtain ⟨k, b, c, d⟩ := h
      exact .inr ⟨_, _, k, e, b, c, d⟩
    · exact h.elim
@[simp ↓] theorem x_wsSetA (i tv ti env P) : wsSetA i tv ti env P = tv env fun val env1 => @onSS _ env1[i]? ⟨fun _ => ti env1 fun iv env2 => @onSS _ env2[i]? ⟨fun x => @stA x iv.d val.d ⟨fun nv => P .nx (env2.set i (some nv))⟩⟩⟩ := by
  unfold wsSetA
  congr 1; funext val env1
  rw [← onSS_eq]
  have : ∀ (iv : Val) (env2 : EnvD), _ = _ := fun iv env2 => stA_eq env2[i]? iv.d val.d fun nv => P .nx (env2.set i (some nv))
  simp only [this]
  exact propext ⟨fun ⟨⟨ds, h⟩, p⟩ => ⟨ds, h, p⟩, fun ⟨ds, h, p⟩ => ⟨⟨ds, h⟩, p⟩⟩
@[simp ↓] theorem x_glb {G : Gm} (k env P) : wM G (.glb k) env P = @onS _ G.cs[k]? ⟨fun d => wC d env P⟩ := by
  unfold wM; cases G.cs[k]? <;> rfl
@[simp ↓] theorem x_call {G : Gm} (k a env P) : wM G (.call k a) env P = @onS _ G.fs[k]? ⟨fun f => wCallF f.n f.t (wAs G a) env P⟩ := by
  unfold wM; cases G.fs[k]? <;> rfl
@[simp] theorem x_res_s (env i) : Opd.res env (.sl i) = (env[i]?).bind fun o => o.map (·.d) := by
  show (match env[i]? with | some (some x) => some x.d | _ => none) = _
  cases env[i]? with
  | none => rfl
  | some o => cases o <;> rfl
@[simp] theorem x_ra1 (env o os) : resAll env (o :: os) = (o.res env).bind fun d => (resAll env os).map (d :: ·) := by
  show (match o.res env, resAll env os with | some d, some ds => some (d :: ds) | _, _ => none) = _
  cases o.res env <;> cases resAll env os <;> rfl
@[simp] theorem x_ld1 (env x os) : lendA env (.vl x :: os) = (lendA env os).map fun r => (x :: r.1, r.2) := by
  show (match lendA env os with | some r => some (x :: r.1, r.2) | none => none) = _
  cases lendA env os <;> rfl
@[simp] theorem x_ld2 (env i os) : lendA env (.ls i :: os) = (env[i]?).bind fun o => o.bind fun x => (lendA (env.set i none) os).map fun r => (x :: r.1, r.2) := by
  show (match env[i]? with | some (some x) => (match lendA (env.set i none) os with | some r => some (x :: r.1, r.2) | none => none) | _ => none) = _
  cases env[i]? with
  | none => rfl
  | some o => cases o with
    | none => rfl
    | some x => cases h : lendA (env.set i none) os <;> simp
def onC (ds : List D) [k : Kt (D × List D)] : Prop := match ds with
  | d :: r => k.run (d, r)
  | [] => False
@[simp] theorem onC_c (d r k) : @onC (d :: r) k = k.run (d, r) := (rfl)
@[simp ↓] theorem x_gwCons (g gs ds env P) : gwCons g gs ds env P = @onC ds ⟨fun p => g (fz p.1) env fun env1 => gs p.2 env1 P⟩ := by
  cases ds with
  | nil => exact propext ⟨fun ⟨d, r, e, _⟩ => (by cases e), fun q => (show False from q).elim⟩
  | cons d r => exact propext ⟨fun ⟨d', r', e, q⟩ => (by cases e; exact q), fun q => ⟨d, r, rfl, q⟩⟩
def onU (d : D) [k : Kt (List D)] : Prop := match d with
  | .lst ds => k.run ds
  | .tup ds => k.run ds
  | .lse ds => k.run ds
  | _ => False
@[simp] theorem onU_l (d k) : @onU (.lst d) k = k.run d := (rfl)
@[simp] theorem onU_t (d k) : @onU (.tup d) k = k.run d := (rfl)
@[simp] theorem onU_e (d k) : @onU (.lse d) k = k.run d := (rfl)
@[simp ↓] theorem x_gwTup (n g val env P) : gwTup n g val env P = @onU val.d ⟨fun ds => ds.length = n ∧ g ds env P⟩ := by
  obtain ⟨o, d⟩ := val
  unfold gwTup
  cases d <;> first
    | exact propext ⟨fun ⟨d', e, q⟩ => (by rcases e with e | e | e <;> cases e; exact q), fun q => ⟨_, by simp, q⟩⟩
    | exact propext ⟨fun ⟨d', e, q⟩ => (by rcases e with e | e | e <;> cases e), fun q => (show False from q).elim⟩
def onW (d : D) [k : Kt (List D)] : Prop := match d with
  | .lst ds => k.run ds
  | .tup ds => k.run ds
  | .str s => k.run (charsD s)
  | _ => False
@[simp] theorem onW_l (d k) : @onW (.lst d) k = k.run d := (rfl)
@[simp] theorem onW_t (d k) : @onW (.tup d) k = k.run d := (rfl)
@[simp] theorem onW_s (d k) : @onW (.str d) k = k.run (charsD d) := (rfl)
@[simp ↓] theorem x_wiSeqA (t env P) : wiSeqA t env P = t env fun val env1 => @onW val.d ⟨fun ds => P ds env1⟩ := by
  unfold wiSeqA
  congr 1; funext val env1
  obtain ⟨o, d⟩ := val
  cases d with
  | lst ds => exact propext ⟨fun h => (by rcases h with ⟨d', e | e, q⟩ | ⟨s, e, q⟩ <;> cases e; exact q), fun q => .inl ⟨_, .inl rfl, q⟩⟩
  | tup ds => exact propext ⟨fun h => (by rcases h with ⟨d', e | e, q⟩ | ⟨s, e, q⟩ <;> cases e; exact q), fun q => .inl ⟨_, .inr rfl, q⟩⟩
  | str s => exact propext ⟨fun h => (by rcases h with ⟨d', e | e, q⟩ | ⟨s, e, q⟩ <;> cases e; exact q), fun q => .inr ⟨_, rfl, q⟩⟩
  | _ => exact propext ⟨fun h => (by rcases h with ⟨d', e | e, q⟩ | ⟨s, e, q⟩ <;> cases e), fun q => (show False from q).elim⟩
def onI1 (l : List D) [k : Kt Int] : Prop := match l with
  | [.int i] => k.run i
  | _ => False
@[simp] theorem onI1_i (i k) : @onI1 [.int i] k = k.run i := (rfl)
theorem onI1_eq (o : Option (List D)) (k : Int → Prop) : (∃ j, o = some [.int j] ∧ k j) = @onS _ o ⟨fun l => @onI1 l ⟨k⟩⟩ := by
  rw [← onS_eq]
  refine propext ⟨fun ⟨j, e, q⟩ => ⟨_, e, q⟩, fun ⟨l, e, q⟩ => ?_⟩
  unfold onI1 at q
  split at q
  · exact ⟨_, e, q⟩
  · exact q.elim
@[simp ↓] theorem x_wiRng1 (t env P) : wiRng1 t env P = t env fun os env1 => @onS _ (resAll env1 os) ⟨fun l => @onI1 l ⟨fun j => -(2 ^ 62) ≤ j ∧ j < 2 ^ 62 ∧ P (rngD 0 j.toNat) env1⟩⟩ := by
  unfold wiRng1; simp only [onI1_eq]
@[simp] theorem o_add_i (i j k) : @op2 sAddB (.int i) (.int j) k = k.run (fz (.int (i + j))) := (rfl)
@[simp] theorem o_add_s (s t k) : @op2 sAddB (.str s) (.str t) k = (s.length + t.length ≤ 16777216 ∧ k.run (fz (.str (s ++ t)))) := (rfl)
@[simp] theorem o_add_l (xs ys k) : @op2 sAddB (.lst xs) (.lst ys) k = (xs.length + ys.length ≤ 16777216 ∧ k.run ⟨true, .lst (xs ++ ys)⟩) := (rfl)
@[simp] theorem o_add_t (xs ys k) : @op2 sAddB (.tup xs) (.tup ys) k = (xs.length + ys.length ≤ 16777216 ∧ k.run (fz (.tup (xs ++ ys)))) := (rfl)
@[simp] theorem o_sub (i j k) : @op2 sSubB (.int i) (.int j) k = k.run (fz (.int (i - j))) := (rfl)
@[simp] theorem o_sub_b (b j k) : @op2 sSubB (.bl b) (.int j) k = k.run (fz (.int (b01 b - j))) := (rfl)
@[simp] theorem o_add_b (b j k) : @op2 sAddB (.bl b) (.int j) k = k.run (fz (.int (b01 b + j))) := (rfl)
@[simp] theorem o_div (i j k) : @op2 sDivA (.int i) (.int j) k = ((0 < j ∧ j < 1208925819614629174706176) ∧ k.run (fz (.int (i / j)))) := (rfl)
@[simp] theorem o_mod (i j k) : @op2 sMod (.int i) (.int j) k = (0 < j ∧ k.run (fz (.int (i % j)))) := (rfl)
@[simp] theorem o_pow (i j k) : @op2 sPow (.int i) (.int j) k = ((0 ≤ j ∧ j ≤ 1000000 ∧ i.natAbs < 2 ^ 64) ∧ k.run (fz (.int (i ^ j.toNat)))) := (rfl)
@[simp] theorem o_lt (i j k) : @op2 sLt (.int i) (.int j) k = k.run (fz (.bl (decide (i < j)))) := (rfl)
@[simp] theorem o_lts (i j k) : @op2 sLt (.str i) (.str j) k = k.run (fz (.bl (decide (i.cps.toList < j.cps.toList)))) := (rfl)
@[simp] theorem o_le (i j k) : @op2 sLeS (.int i) (.int j) k = k.run (fz (.bl (decide (i ≤ j)))) := (rfl)
@[simp] theorem o_gt (i j k) : @op2 sGt (.int i) (.int j) k = k.run (fz (.bl (decide (j < i)))) := (rfl)
@[simp] theorem o_ge (i j k) : @op2 sGe (.int i) (.int j) k = k.run (fz (.bl (decide (j ≤ i)))) := (rfl)
@[simp] theorem o_eq (neg x y k) : @op2 (sEq neg) x y k = (pure' x = true ∧ pure' y = true ∧ (depthD x ≤ 64 ∨ depthD y ≤ 64) ∧ k.run (fz (.bl (if neg then !eqD x y else eqD x y)))) := (rfl)
@[simp] theorem o_les (i j k) : @op2 sLeS (.str i) (.str j) k = k.run (fz (.bl (!decide (j.cps.toList < i.cps.toList)))) := (rfl)
@[simp] theorem o_is (neg x k) : @op2 (sIsX neg) x .non k = k.run (fz (.bl (if neg then !isNonD x else isNonD x))) := propext ⟨fun h => h.elim (fun z => by cases x <;> exact z) fun z => by cases x <;> exact (show False from z).elim, fun z => .inl (by cases x <;> exact z)⟩
@[simp] theorem o_isxi (neg i b k) : @op2 (sIsX neg) (.int i) (.bl b) k = k.run (fz (.bl neg)) := propext ⟨fun h => h.elim (fun z => (show False from z).elim) fun z => z.2, fun z => .inr ⟨rfl, z⟩⟩
@[simp] theorem o_iss (neg i b k) : @op2 (sIsX neg) (.str i) (.bl b) k = k.run (fz (.bl neg)) := propext ⟨fun h => h.elim (fun z => (show False from z).elim) fun z => z.2, fun z => .inr ⟨rfl, z⟩⟩
@[simp] theorem o_isl (neg i b k) : @op2 (sIsX neg) (.lst i) (.bl b) k = k.run (fz (.bl neg)) := propext ⟨fun h => h.elim (fun z => (show False from z).elim) fun z => z.2, fun z => .inr ⟨rfl, z⟩⟩
@[simp] theorem o_ist (neg i b k) : @op2 (sIsX neg) (.tup i) (.bl b) k = k.run (fz (.bl neg)) := propext ⟨fun h => h.elim (fun z => (show False from z).elim) fun z => z.2, fun z => .inr ⟨rfl, z⟩⟩
@[simp] theorem o_isn (neg b k) : @op2 (sIsX neg) .non (.bl b) k = k.run (fz (.bl neg)) := propext ⟨fun h => h.elim (fun z => (show False from z).elim) fun z => z.2, fun z => .inr ⟨rfl, z⟩⟩
@[simp] theorem o_isb (neg a b k) : @op2 (sIsX neg) (.bl a) (.bl b) k = k.run (fz (.bl (if neg then !decide (a = b) else decide (a = b)))) := propext ⟨fun h => h.elim (fun z => z) fun z => (Bool.false_ne_true z.1).elim, fun z => .inl z⟩
@[simp] theorem o_mul (i j k) : @op2 sMulT (.int i) (.int j) k = (((-(2 ^ 64) < i ∧ i < 2 ^ 64) ∨ (-(2 ^ 64) < j ∧ j < 2 ^ 64)) ∧ k.run (fz (.int (i * j)))) := (rfl)
@[simp] theorem o_mult (xs j k) : @op2 sMulT (.tup xs) (.int j) k = ((xs ≠ [] ∧ 1 ≤ j ∧ j ≤ 1000 ∧ xs.length ≤ 1000) ∧ k.run (fz (.tup (List.replicate j.toNat xs).flatten))) := (rfl)
@[simp] theorem o_mull (xs j k) : @op2 sMulT (.lst xs) (.int j) k = ((-(2 ^ 63) ≤ j ∧ j < 2 ^ 63 ∧ xs.length * j.toNat ≤ 16777216) ∧ k.run ⟨true, .lst (List.replicate j.toNat xs).flatten⟩) := (rfl)
@[simp] theorem o_muls (s j k) : @op2 sMulT (.str s) (.int j) k = ((-(2 ^ 62) ≤ j ∧ j < 2 ^ 62 ∧ s.length * j.toNat ≤ 16777216) ∧ k.run (fz (.str (repS s j)))) := (rfl)
@[simp] theorem o_in_l (neg x xs k) : @op2 (sInB neg) x (.lst xs) k = (((flatD x = true ∧ xs.all flatD = true) ∨ (pure' x = true ∧ pures xs = true ∧ depthDs xs ≤ 60)) ∧ k.run (fz (.bl (if neg then !inD x xs else inD x xs)))) := by
  refine propext ⟨fun h => ?_, fun h => ?_⟩
  · rcases h with (h | h) | h
    · have h : flatD x = true ∧ xs.all flatD = true ∧ k.run (fz (.bl (if neg then !inD x xs else inD x xs))) := by cases x <;> exact h
      exact ⟨.inl ⟨h.1, h.2.1⟩, h.2.2⟩
    · cases x <;> exact (show False from h).elim
    · have h : pure' x = true ∧ pures xs = true ∧ depthDs xs ≤ 60 ∧ k.run (fz (.bl (if neg then !inD x xs else inD x xs))) := by cases x <;> exact h
      exact ⟨.inr ⟨h.1, h.2.1, h.2.2.1⟩, h.2.2.2⟩
  · obtain ⟨h | h, q⟩ := h
    · exact .inl (.inl (by cases x <;> exact ⟨h.1, h.2, q⟩))
    · exact .inr (by cases x <;> exact ⟨h.1, h.2.1, h.2.2, q⟩)
@[simp] theorem o_in_t (neg x xs k) : @op2 (sInB neg) x (.tup xs) k = (((flatD x = true ∧ xs.all flatD = true) ∨ (pure' x = true ∧ pures xs = true ∧ depthDs xs ≤ 60)) ∧ k.run (fz (.bl (if neg then !inD x xs else inD x xs)))) := by
  refine propext ⟨fun h => ?_, fun h => ?_⟩
  · rcases h with (h | h) | h
    · have h : flatD x = true ∧ xs.all flatD = true ∧ k.run (fz (.bl (if neg then !inD x xs else inD x xs))) := by cases x <;> exact h
      exact ⟨.inl ⟨h.1, h.2.1⟩, h.2.2⟩
    · cases x <;> exact (show False from h).elim
    · have h : pure' x = true ∧ pures xs = true ∧ depthDs xs ≤ 60 ∧ k.run (fz (.bl (if neg then !inD x xs else inD x xs))) := by cases x <;> exact h
      exact ⟨.inr ⟨h.1, h.2.1, h.2.2.1⟩, h.2.2.2⟩
  · obtain ⟨h | h, q⟩ := h
    · exact .inl (.inl (by cases x <;> exact ⟨h.1, h.2, q⟩))
    · exact .inr (by cases x <;> exact ⟨h.1, h.2.1, h.2.2, q⟩)
@[simp] theorem o_in_d (neg x ks ds k) : @op2 (sInB neg) x (.dic ks ds) k = @onS _ (keyU x) ⟨fun key => k.run (fz (.bl (if neg then !(dget ks ds key).isSome else (dget ks ds key).isSome)))⟩ := by
  rw [← onS_eq]
  refine propext ⟨fun h => ?_, fun z => .inl (.inr (by cases x <;> exact z))⟩
  rcases h with (z | z) | z
  · cases x <;> exact (show False from z).elim
  · cases x <;> exact z
  · cases x <;> exact (show False from z).elim
@[simp] theorem keyU_i (i) : keyU (.int i) = some (.inl i) := (rfl)
@[simp] theorem keyU_s (i) : keyU (.str i) = some (.inr i) := (rfl)
@[simp ↓] theorem x_lstb {G : Gm} (a) : wM G (.lstb a) = wLstB (wAs G a) := by rw [wM]
@[simp ↓] theorem x_mutb {G : Gm} (m i j a) : wM G (.mutb m i j a) = wMutB m.s i j (wFs G a) := by rw [wM]
@[simp ↓] theorem x_callr {G : Gm} (k a env P) : wM G (.callr k a) env P = @onS _ G.fs[k]? ⟨fun f => wCallR f.n f.t (wXs G a) env P⟩ := by
  unfold wM; cases G.fs[k]? <;> rfl
@[simp ↓] theorem x_wCallR (n t ts env P) : wCallR n t ts env P = ts env fun os env1 => @onS _ (resAll env1 os) ⟨fun ds => os.length = n ∧ @opD t (ds.map fun d => fz (unb d)) ⟨fun p => flatR p.1.d = true ∧ P (fz p.1.d) env1⟩⟩ := by
  unfold wCallR opD; simp only [onS_eq]
@[simp ↓] theorem x_wMv (i env P) : wMv i env P = @onSS _ env[i]? ⟨fun x => P (.vl x) (env.set i none)⟩ := by unfold wMv; rw [onSS_eq]
def sBK (xs : List Val) [k : Kt (List D)] : Prop := sB xs k.run
@[simp] theorem sBK_0 (k) : @sBK [] k = k.run [] := (rfl)
@[simp] theorem sBK_f (d r k) : @sBK (⟨false, d⟩ :: r) k = @sBK r ⟨fun ds => k.run (d :: ds)⟩ := (rfl)
@[simp] theorem sBK_o (l r k) : @sBK (⟨true, .lst l⟩ :: r) k = ∀ a, @sBK r ⟨fun ds => k.run (.own a l :: ds)⟩ := (rfl)
@[simp ↓] theorem x_wLstB (ts env P) : wLstB ts env P = ts env fun os env1 => @onS _ (vls os) ⟨fun xs => xs.length ≤ 16777216 ∧ @sBK xs ⟨fun ds => P ⟨true, .box (.lst ds)⟩ env1⟩⟩ := by
  unfold wLstB sBK; simp only [onS_eq]
@[simp] theorem opn_t (ds) : opnV ⟨true, .box (.tup ds)⟩ = fz (.tup (ds.map cl1)) := (rfl)
@[simp] theorem opn_l (ds) : opnV ⟨true, .box (.lst ds)⟩ = ⟨true, .lst (ds.map cl1)⟩ := (rfl)
@[simp] theorem opn_d (ks ds) : opnV ⟨true, .box (.dic ks ds)⟩ = ⟨true, .dic ks (ds.map cl1)⟩ := (rfl)
@[simp] theorem opn_f (d) : opnV ⟨false, d⟩ = ⟨false, d⟩ := (rfl)
@[simp] theorem opn_ol (ds) : opnV ⟨true, .lst ds⟩ = ⟨true, .lst ds⟩ := (rfl)
@[simp] theorem cl1_o (a xs) : cl1 (.own a xs) = .lst xs := (rfl)
@[simp] theorem cl1_n : cl1 .non = .non := (rfl)
@[simp] theorem cl1_b (b) : cl1 (.bl b) = .bl b := (rfl)
@[simp] theorem cl1_i (b) : cl1 (.int b) = .int b := (rfl)
@[simp] theorem cl1_s (b) : cl1 (.str b) = .str b := (rfl)
@[simp] theorem cl1_l (b) : cl1 (.lst b) = .lst b := (rfl)
@[simp] theorem cl1_t (b) : cl1 (.tup b) = .tup b := (rfl)
@[simp] theorem unb_b (c) : unb (.box c) = opnD c := (rfl)
@[simp] theorem unb_n : unb .non = .non := (rfl)
@[simp] theorem unb_bl (b) : unb (.bl b) = .bl b := (rfl)
@[simp] theorem unb_i (b) : unb (.int b) = .int b := (rfl)
@[simp] theorem unb_s (b) : unb (.str b) = .str b := (rfl)
@[simp] theorem unb_l (b) : unb (.lst b) = .lst b := (rfl)
@[simp] theorem unb_t (b) : unb (.tup b) = .tup b := (rfl)
@[simp] theorem opnD_t (ds) : opnD (.tup ds) = .tup (ds.map cl1) := (rfl)
@[simp] theorem opnD_l (ds) : opnD (.lst ds) = .lst (ds.map cl1) := (rfl)
@[simp] theorem opnD_d (ks ds) : opnD (.dic ks ds) = .dic ks (ds.map cl1) := (rfl)
@[simp] theorem flatR_n : flatR .non = true := (rfl)
@[simp] theorem flatR_b (b) : flatR (.bl b) = true := (rfl)
@[simp] theorem flatR_i (b) : flatR (.int b) = true := (rfl)
@[simp] theorem flatR_s (b) : flatR (.str b) = true := (rfl)
@[simp ↓] theorem opX_opx (a t) : opX (.opx a) t = wTm t := (rfl)
@[simp ↓] theorem opX_lstb (a t) : opX (.lstb a) t = wTm t := (rfl)
@[simp ↓] theorem opX_tupb (a t) : opX (.tupb a) t = wTm t := (rfl)
@[simp ↓] theorem opX_mutb (m i j a t) : opX (.mutb m i j a) t = wTm t := (rfl)
@[simp ↓] theorem opX_callr (k a t) : opX (.callr k a) t = wTm t := (rfl)
@[simp ↓] theorem x_wMl0 {G : Gm} : wMl G .nil = [] := by rw [wMl]
@[simp ↓] theorem x_wMl1 {G : Gm} (a r) : wMl G (.cons a r) = wM G a :: wMl G r := by rw [wMl]
@[simp ↓] theorem opX_disp (a b t) : opX (.disp a b) t = wTm t := (rfl)
@[simp ↓] theorem opX_gin (k neg b t) : opX (.gin k neg b) t = wTm t := (rfl)
@[simp ↓] theorem opX_ext (i a t) : opX (.ext i a) t = wTm t := (rfl)
@[simp ↓] theorem opX_sdx (i k n a t) : opX (.sdx i k n a) t = wTm t := (rfl)
@[simp ↓] theorem opX_bdn (t) : opX .bdn t = wTm t := (rfl)
@[simp ↓] theorem opX_opv (i t) : opX (.opv i) t = wTm t := (rfl)
@[simp ↓] theorem opX_sda (i k n a t) : opX (.sda i k n a) t = wTm t := (rfl)
@[simp ↓] theorem opX_dg1 (a b t) : opX (.dg1 a b) t = wTm t := (rfl)
@[simp ↓] theorem opX_dg2 (a b c t) : opX (.dg2 a b c) t = wTm t := (rfl)
@[simp ↓] theorem opX_dnew (t) : opX .dnew t = wTm t := (rfl)
@[simp] theorem o_ix_l (xs i k) : @op2 sIxA (.lst xs) (.int i) k = @onS _ (atI xs i) ⟨fun d => k.run (fz d)⟩ := by rw [← onS_eq]; exact propext ⟨fun h => h.elim id fun z => (show False from z).elim, .inl⟩
@[simp] theorem o_ix_t (xs i k) : @op2 sIxA (.tup xs) (.int i) k = @onS _ (atI xs i) ⟨fun d => k.run (fz d)⟩ := by rw [← onS_eq]; exact propext ⟨fun h => h.elim id fun z => (show False from z).elim, .inl⟩
@[simp] theorem o_ix_d (ks ds x k) : @op2 sIxA (.dic ks ds) x k = @onS _ (keyU x) ⟨fun key => @onS _ (dget ks ds key) ⟨fun d => k.run (fz d)⟩⟩ := by
  rw [← onS_eq]; simp only [← onS_eq]
  exact propext ⟨fun h => h.elim (fun z => (show False from z).elim) fun ⟨key, d, a, b, c⟩ => ⟨key, a, d, b, c⟩, fun ⟨key, a, d, b, c⟩ => .inr ⟨key, d, a, b, c⟩⟩
@[simp] theorem o_ix_ldc (ks ds x k) : @op2 sIxA (.ldc ks ds) x k = @onS _ (keyU x) ⟨fun key => @onS _ (dget ks ds key) ⟨fun d => k.run (fz d)⟩⟩ := by
  rw [← onS_eq]; simp only [← onS_eq]
  exact propext ⟨fun h => h.elim (fun z => (show False from z).elim) fun ⟨key, d, a, b, c⟩ => ⟨key, a, d, b, c⟩, fun ⟨key, a, d, b, c⟩ => .inr ⟨key, d, a, b, c⟩⟩
@[simp] theorem o_cut_l (lo hi xs k) : @op1 (sCutA lo hi) (.lst xs) k = k.run ⟨true, .lst (cut xs lo hi)⟩ := (rfl)
@[simp] theorem o_cut_s (lo hi z k) : @op1 (sCutA lo hi) (.str z) k = (z.length ≤ 16777216 ∧ k.run (fz (.str (cutS z lo hi)))) := (rfl)
@[simp] theorem o_cut_t (lo hi xs k) : @op1 (sCutA lo hi) (.tup xs) k = k.run (fz (.tup (cut xs lo hi))) := (rfl)
@[simp] theorem o_max2 (i j k) : @opN sMaxA [.int i, .int j] k = k.run (fz (.int (if j > i then j else i))) := (rfl)
@[simp] theorem o_min2 (i j k) : @opN sMinA [.int i, .int j] k = k.run (fz (.int (if j < i then j else i))) := (rfl)
@[simp] theorem o_maxl (xs k) : @opN sMaxA [.lst xs] k = @onS _ (unInts xs) ⟨fun ns => 0 < ns.length ∧ ∀ m, m ∈ ns → (∀ y, y ∈ ns → y ≤ m) → k.run (fz (.int m))⟩ := by rw [← onS_eq]; rfl
@[simp] theorem o_minl (xs k) : @opN sMinA [.lst xs] k = @onS _ (unInts xs) ⟨fun ns => 0 < ns.length ∧ ∀ m, m ∈ ns → (∀ y, y ∈ ns → m ≤ y) → k.run (fz (.int m))⟩ := by rw [← onS_eq]; rfl
@[simp] theorem o_suml (xs k) : @opN sSumA [.lst xs] k = @onS _ (unInts xs) ⟨fun ns => k.run (fz (.int ns.sum))⟩ := by rw [← onS_eq]; rfl
@[simp] theorem o_str_b (b k) : @opN sStrA [.bl b] k = k.run (fz (.str (if b then ("True" : Str) else "False"))) := (rfl)
@[simp] theorem o_str_s (s k) : @opN sStrA [.str s] k = k.run (fz (.str s)) := (rfl)
@[simp] theorem o_str_i (i k) : @opN sStrA [.int i] k = ((-1000000000000000000000000000000 < i ∧ i < 1000000000000000000000000000000) ∧ k.run (fz (.str (toString i)))) := (rfl)
@[simp] theorem x_bf_max : BF.s .max = sMaxA := (rfl)
@[simp] theorem x_bf_min : BF.s .min = sMinA := (rfl)
@[simp] theorem x_bf_sum : BF.s .sum = sSumA := (rfl)
@[simp] theorem x_bf_sorted : BF.s .sorted = sSortedA := (rfl)
@[simp] theorem x_bf_dict : BF.s .dict = sDict := (rfl)
@[simp] theorem x_bf_str : BF.s .str = sStrA := (rfl)
@[simp] theorem o_isi (t d k) : @op1 (sIsi t) d k = @onS _ (isD t d) ⟨fun b => k.run (fz (.bl b))⟩ := by rw [← onS_eq]; rfl
@[simp] theorem o_isiT (t d k) : @op1 (sIsiT t) d k = @onS _ (isDs t d) ⟨fun b => k.run (fz (.bl b))⟩ := by rw [← onS_eq]; rfl
@[simp] theorem o_divmod (i j k) : @opN sDivmod [.int i, .int j] k = ((0 < j ∧ j < 1073741824) ∧ k.run (fz (.tup [.int (i / j), .int (i % j)]))) := (rfl)
@[simp] theorem isD_n (t) : isD t .non = some false := (rfl)
@[simp] theorem isD_b (t b) : isD t (.bl b) = some (decide (t = .bool) || decide (t = .int)) := (rfl)
@[simp] theorem isD_i (t b) : isD t (.int b) = some (decide (t = .int)) := (rfl)
@[simp] theorem isD_s (t b) : isD t (.str b) = some (decide (t = .str)) := (rfl)
@[simp] theorem isD_l (t b) : isD t (.lst b) = some (decide (t = .list)) := (rfl)
@[simp] theorem isD_t (t b) : isD t (.tup b) = some (decide (t = .tuple)) := (rfl)
@[simp] theorem isDs_0 (d) : isDs [] d = some false := (rfl)
@[simp] theorem isDs_1 (t ts d) : isDs (t :: ts) d = (isD t d).bind fun a => (isDs ts d).map (a || ·) := (rfl)
@[simp ↓] theorem x_isi1 {G : Gm} (t a) : wM G (.isi [t] false a) = wUn (sIsi t) (opX a (wM G a)) := by rw [wM, isiS_1]
@[simp ↓] theorem x_isi2 {G : Gm} (ts a) : wM G (.isi ts true a) = wUn (sIsiT ts) (opX a (wM G a)) := by rw [wM, isiS_t]
@[simp ↓] theorem opX_rvk (a k t) : opX (.rvk a k) t = wTm t := (rfl)
@[simp ↓] theorem opX_dge2 (a b c t) : opX (.dge2 a b c) t = wTm t := (rfl)
@[simp ↓] theorem opX_dup (i a t) : opX (.dup i a) t = wTm t := (rfl)
@[simp ↓] theorem opX_ggt (k b t) : opX (.ggt k b) t = wTm t := (rfl)
@[simp ↓] theorem opX_dge (a b t) : opX (.dge a b) t = wTm t := (rfl)
@[simp ↓] theorem opX_isi (a b c t) : opX (.isi a b c) t = wTm t := (rfl)
@[simp ↓] theorem opX_rev (a t) : opX (.rev a) t = wTm t := (rfl)
@[simp ↓] theorem opX_lenu (a t) : opX (.lenu a) t = wTm t := (rfl)
@[simp ↓] theorem opX_lrg (a t) : opX (.lrg a) t = wTm t := (rfl)
@[simp ↓] theorem opX_chain (o o' a b c t) : opX (.chain o o' a b c) t = wTm t := (rfl)
@[simp] theorem x_bf_divmod : BF.s .divmod = sDivmod := (rfl)
@[simp ↓] theorem x_gix (i j) : gW (.ix i j) = gwIx i j := by rw [gW]
@[simp ↓] theorem x_gwIx (i j val env P) : gwIx i j val env P = @onSS _ env[i]? ⟨fun x => @onL x ⟨fun ds => j < ds.length ∧ P (env.set i (some ⟨true, .lst (ds.set j val.d)⟩))⟩⟩ := by
  unfold gwIx; rw [← onSL_eq]
def onZ (l : List D) [k : Kt (List D × List D)] : Prop := match l with
  | [.lst i, .lst j] => k.run (i, j)
  | [.tup i, .tup j] => k.run (i, j)
  | _ => False
@[simp] theorem onZ_l (i j k) : @onZ [.lst i, .lst j] k = k.run (i, j) := (rfl)
@[simp] theorem onZ_t (i j k) : @onZ [.tup i, .tup j] k = k.run (i, j) := (rfl)
@[simp ↓] theorem x_wiZipA (t env P) : wiZipA t env P = t env fun os env1 => @onS _ (tms os) ⟨fun l => @onZ l ⟨fun p => P (zipD p.1 p.2) env1⟩⟩ := by
  unfold wiZipA
  congr 1; funext os env1
  rw [← onS_eq]
  refine propext ⟨fun ⟨d, e, h, ds, es, hd, q⟩ => ⟨_, h, ?_⟩, fun ⟨l, e, q⟩ => ?_⟩
  · rcases hd with ⟨rfl, rfl⟩ | ⟨rfl, rfl⟩ <;> exact q
  · unfold onZ at q
    split at q
    · exact ⟨_, _, e, _, _, .inl ⟨rfl, rfl⟩, q⟩
    · exact ⟨_, _, e, _, _, .inr ⟨rfl, rfl⟩, q⟩
    · exact q.elim
@[simp] theorem o_len_l (xs k) : @opN sLen [.lst xs] k = k.run (fz (.int xs.length)) := (rfl)
@[simp] theorem o_len_t (xs k) : @opN sLen [.tup xs] k = k.run (fz (.int xs.length)) := (rfl)
@[simp] theorem o_len_s (s k) : @opN sLen [.str s] k = (s.length ≤ 16777216 ∧ k.run (fz (.int s.length))) := (rfl)
@[simp] theorem o_abs (i k) : @opN sAbs [.int i] k = k.run (fz (.int (if i < 0 then -i else i))) := (rfl)
@[simp] theorem o_int_i (i k) : @opN sIntOf [.int i] k = k.run (fz (.int i)) := (rfl)
@[simp] theorem o_int_b (b k) : @opN sIntOf [.bl b] k = k.run (fz (.int (if b then 1 else 0))) := (rfl)
@[simp] theorem o_list_l (xs k) : @opN sList [.lst xs] k = k.run ⟨true, .lst xs⟩ := (rfl)
@[simp] theorem o_list_t (xs k) : @opN sList [.tup xs] k = k.run ⟨true, .lst xs⟩ := (rfl)
@[simp] theorem o_tuple_l (xs k) : @opN sTuple [.lst xs] k = k.run (fz (.tup xs)) := (rfl)
@[simp] theorem o_tuple_t (xs k) : @opN sTuple [.tup xs] k = k.run (fz (.tup xs)) := (rfl)
@[simp] theorem o_repr (d k) : @opN sRepr [d] k = (costD d ≤ 16777216 ∧ depthD d ≤ 60 ∧ k.run (fz (.str (reprD d)))) := (rfl)
def unBls : List D → Option (List Bool)
  | [] => some []
  | .bl b :: ds => (unBls ds).map (b :: ·)
  | _ => none
@[simp] theorem unBls_nil : unBls [] = some [] := (rfl)
@[simp] theorem unBls_cons (b ds) : unBls (.bl b :: ds) = (unBls ds).map (b :: ·) := (rfl)
@[simp] theorem unBls_w (ns : List Bool) : unBls (ns.map D.bl) = some ns := by
  induction ns with
  | nil => rfl
  | cons w ws ih => rw [List.map_cons, unBls_cons, ih]; rfl
theorem unBls_eq {ds : List D} {ns : List Bool} (h : unBls ds = some ns) : ds = ns.map D.bl := by
  induction ds generalizing ns with
  | nil => cases h; rfl
  | cons d ds ih =>
    cases d with
    | bl b =>
      rw [unBls_cons, Option.map_eq_some_iff] at h
      obtain ⟨l, h1, rfl⟩ := h
      rw [List.map_cons, ← ih h1]
    | _ => cases h
@[simp] theorem o_all (xs k) : @opN sAll [.lst xs] k = @onS _ (unBls xs) ⟨fun bs => k.run (fz (.bl (bs.all id)))⟩ := by
  rw [← onS_eq]
  exact propext ⟨fun ⟨bs, e, q⟩ => ⟨bs, by rw [e, unBls_w], q⟩, fun ⟨bs, e, q⟩ => ⟨bs, unBls_eq e, q⟩⟩
@[simp] theorem o_any (xs k) : @opN sAny [.lst xs] k = @onS _ (unBls xs) ⟨fun bs => k.run (fz (.bl (bs.any id)))⟩ := by
  rw [← onS_eq]
  exact propext ⟨fun ⟨bs, e, q⟩ => ⟨bs, by rw [e, unBls_w], q⟩, fun ⟨bs, e, q⟩ => ⟨bs, unBls_eq e, q⟩⟩
theorem rng2 : rngD 0 2 = [.int 0, .int 1] := (rfl)
theorem rng_int {lo : Int} {n : Nat} : ∀ d ∈ rngD lo n, ∃ i : Int, d = .int i ∧ lo ≤ i ∧ i < lo + n := by
  intro d hd
  unfold rngD at hd
  simp only [List.mem_map, List.mem_range] at hd
  obtain ⟨a, h, rfl⟩ := hd
  exact ⟨_, rfl, by omega, by omega⟩
theorem cut_map {α β : Type} (f : α → β) (xs : List α) (lo hi : Option Int) : cut (xs.map f) lo hi = (cut xs lo hi).map f := by
  unfold cut
  rw [List.length_map, List.map_take, List.map_drop]
theorem ixN_lt {n : Nat} {j : Int} (h0 : 0 ≤ j) (h1 : j < n) : ixN n j = some j.toNat := by
  unfold ixN
  rw [if_pos h0, if_pos h1]
theorem enum_ints {ms : List Int} : ∀ d ∈ enumD (ms.map D.int), ∃ (i : Nat) (c : Int), d = .lse [.int i, .int c] ∧ i < ms.length := by
  intro d hd
  unfold enumD at hd
  simp only [List.mem_map, List.mem_range, List.length_map] at hd
  obtain ⟨a, h, rfl⟩ := hd
  refine ⟨a, ms[a], ?_, h⟩
  simp [List.getD, h]
theorem cut_len {α : Type} (xs : List α) (lo hi : Option Int) : (cut xs lo hi).length ≤ xs.length := by
  unfold cut
  rw [List.length_take, List.length_drop]; omega
theorem cut_to {α : Type} (xs : List α) {u : Int} (h : 0 ≤ u) : cut xs none (some u) = xs.take u.toNat := by
  unfold cut HT.sIx
  simp only [if_neg (show ¬ u < 0 by omega), List.drop_zero, Nat.sub_zero]
  rw [Nat.min_def]
  split
  · rfl
  · rw [List.take_of_length_le (Nat.le_refl _), List.take_of_length_le (by omega)]
theorem cut_from {α : Type} (xs : List α) {u v : Int} (h : 0 ≤ u) (hv : 0 ≤ v) (hn : u.toNat ≥ xs.length) : cut xs (some u) (some v) = [] := by
  unfold cut HT.sIx
  simp only [if_neg (show ¬ u < 0 by omega)]
  rw [Nat.min_eq_right hn, List.drop_length, List.take_nil]
theorem lcK_ind {vs : List Nat} {g : WG} {tt : WT} {te : WE} {k : Kt (List D × EnvD)} (I : List D → List D → EnvD → Prop)
    (step : ∀ d ds acc env, I (d :: ds) acc env → ∀ K : List D → EnvD → Prop, (∀ a e, I ds a e → K a e) → g (fz d) env fun e1 => tt e1 fun b e2 => if b then te e2 fun val e3 => acc.length < 16777216 ∧ K (acc ++ [val.d]) (wipeD e3 vs) else K acc (wipeD e2 vs))
    (fin : ∀ acc env, I [] acc env → k.run (acc, env)) (ds acc : List D) (env : EnvD) (h : I ds acc env) : @lcK vs g tt te ds acc env k := lcD_ind I step fin ds acc env h
theorem forK_ind {g : WG} {body : WS} {k : Kt (Out × EnvD)} (I : List D → EnvD → Prop) (step : ∀ d ds env, I (d :: ds) env → ∀ K : EnvD → Prop, (∀ e, I ds e → K e) → g (fz d) env fun e1 => body e1 fun o e2 => match o with
      | .nx => K e2
      | .ct => K e2
      | .bk => k.run (.nx, e2)
      | .rt v => k.run (.rt v, e2)) (fin : ∀ env, I [] env → k.run (.nx, env)) (ds : List D) (env : EnvD) (h : I ds env) : @forK g body ds env k := forD_ind I step fin ds env h
@[simp] theorem x_dp_s (s) : depthD (.str s) = 0 := (rfl)
@[simp] theorem x_dp_i (s) : depthD (.int s) = 0 := (rfl)
@[simp] theorem x_dp_b (s) : depthD (.bl s) = 0 := (rfl)
@[simp] theorem x_dp_n : depthD .non = 0 := (rfl)
@[simp] theorem x_eq_ii (a b) : eqD (.int a) (.int b) = (a == b) := (rfl)
@[simp] theorem x_eq_ss (a b) : eqD (.str a) (.str b) = (a == b) := (rfl)
@[simp] theorem x_eq_bb (a b) : eqD (.bl a) (.bl b) = (a == b) := (rfl)
@[simp] theorem x_eq_nn : eqD .non .non = true := (rfl)
@[simp] theorem x_eq_ll (a b) : eqD (.lst a) (.lst b) = eqDs a b := (rfl)
@[simp] theorem x_eq_tt (a b) : eqD (.tup a) (.tup b) = eqDs a b := (rfl)
@[simp] theorem x_eq_0 : eqDs [] [] = true := (rfl)
@[simp] theorem x_eq_1 (x y xs ys) : eqDs (x :: xs) (y :: ys) = (eqD x y && eqDs xs ys) := (rfl)
@[simp] theorem x_eq_2 (x xs) : eqDs (x :: xs) [] = false := (rfl)
@[simp] theorem x_eq_3 (x xs) : eqDs [] (x :: xs) = false := (rfl)
@[simp] theorem x_co_b (b) : costD (.bl b) = 5 := (rfl)
@[simp] theorem x_co_n : costD .non = 4 := (rfl)
@[simp] theorem x_co_s (s) : costD (.str s) = 10 * s.length + 2 := (rfl)
@[simp] theorem x_co_l (s) : costD (.lst s) = costDs s + 3 := (rfl)
@[simp] theorem x_co_t (s) : costD (.tup s) = costDs s + 3 := (rfl)
@[simp] theorem x_co_0 : costDs [] = 0 := (rfl)
@[simp] theorem x_co_1 (x xs) : costDs (x :: xs) = costD x + 2 + costDs xs := (rfl)
@[simp] theorem x_dp_l (s) : depthD (.lst s) = depthDs s + 1 := (rfl)
@[simp] theorem x_dp_t (s) : depthD (.tup s) = depthDs s + 1 := (rfl)
@[simp] theorem x_dps_0 : depthDs [] = 0 := (rfl)
@[simp] theorem x_dps_1 (x xs) : depthDs (x :: xs) = max (depthD x) (depthDs xs) := (rfl)
theorem atI_ints {ns : List Int} {k : Int} (h0 : 0 ≤ k) (h1 : k < ns.length) : ∃ c, atI (ns.map D.int) k = some (.int c) := by
  obtain ⟨n, rfl⟩ : ∃ n : Nat, k = n := ⟨k.toNat, by omega⟩
  have h : n < ns.length := by omega
  refine ⟨ns[n], ?_⟩
  rw [atI_nat, List.getElem?_map, List.getElem?_eq_getElem h]; rfl
theorem mapC_inj : ∀ {l m : List Char}, l.map Char.toNat = m.map Char.toNat → l = m
  | [], [], _ => rfl
  | [], _ :: _, h => by cases h
  | _ :: _, [], h => by cases h
  | a :: l, b :: m, h => by
    simp only [List.map_cons, List.cons.injEq] at h
    rw [Char.toNat_inj.mp h.1, mapC_inj h.2]
theorem Str_inj {a b : String} : Str.ofString a = Str.ofString b ↔ a = b := by
  constructor
  · intro h
    rw [Str.ofString_eq_toList, Str.ofString_eq_toList, Str.mk.injEq] at h
    have h5 : a.toList.map Char.toNat = b.toList.map Char.toNat := by simpa using congrArg Array.toList h
    exact String.toList_injective (mapC_inj h5)
  · rintro rfl; rfl
def onUT (d : D) [k : Kt (List D)] : Prop := match d with
  | .tup ds => k.run ds
  | .lse ds => k.run ds
  | _ => False
@[simp] theorem onUT_t (d k) : @onUT (.tup d) k = k.run d := (rfl)
@[simp] theorem onUT_e (d k) : @onUT (.lse d) k = k.run d := (rfl)
@[simp ↓] theorem x_gwTupS (n g val env P) : gwTupS n g val env P = @onUT val.d ⟨fun ds => n ≤ ds.length ∧ g ds env P⟩ := by
  obtain ⟨o, d⟩ := val
  unfold gwTupS
  cases d <;> first
    | exact propext ⟨fun ⟨d', e, q⟩ => (by rcases e with e | e <;> cases e; exact q), fun q => ⟨_, by simp, q⟩⟩
    | exact propext ⟨fun ⟨d', e, q⟩ => (by rcases e with e | e <;> cases e), fun q => (show False from q).elim⟩
@[simp ↓] theorem x_gwStL (i ds env P) : gwStL i ds env P = (i < env.length ∧ P (env.set i (some ⟨true, .lst ds⟩))) := (rfl)
@[simp] theorem lookS_0 (s) : lookS s [] = none := (rfl)
@[simp] theorem lookS_1 (s p ps) : lookS s (p :: ps) = if s = p.1 then some p.2 else lookS s ps := (rfl)
def opM (s : SM) (x : D) (ds : List D) [k : Kt Val] : Prop := s x ds k.run
@[simp ↓] theorem x_meth {G : Gm} (m o a) : wM G (.meth m o a) = wMeth m.T m.s (opX o (wM G o)) (wXs G a) := by rw [wM]
@[simp ↓] theorem x_wMeth (T s to ts env P) : wMeth T s to ts env P = to env fun o env1 => @onS _ (o.res env1) ⟨fun x => tyM x = T ∧ ts env1 fun os env2 => @onS _ (o.res env2) ⟨fun x => @onS _ (resAll env2 os) ⟨fun ds => @opM s x ds ⟨fun val => P val env2⟩⟩⟩⟩ := by
  have e : ∀ (o : Opd) (os : List Opd) (env2 : EnvD), (∃ x ds, o.res env2 = some x ∧ resAll env2 os = some ds ∧ s x ds fun val => P val env2) = @onS _ (o.res env2) ⟨fun x => @onS _ (resAll env2 os) ⟨fun ds => @opM s x ds ⟨fun val => P val env2⟩⟩⟩ := by
    intro o os env2
    unfold opM; simp only [ex2, onS_eq]
  unfold wMeth
  simp only [e]
  congr 1; funext o env1
  rw [← onS_eq]
  exact propext ⟨fun ⟨⟨x, a, b⟩, c⟩ => ⟨x, a, b, c⟩, fun ⟨x, a, b, c⟩ => ⟨⟨x, a, b⟩, c⟩⟩
@[simp] theorem tyM_s (s) : tyM (.str s) = "str" := (rfl)
@[simp] theorem tyM_l (s) : tyM (.lst s) = "list" := (rfl)
@[simp] theorem tyM_d (k s) : tyM (.dic k s) = "dict" := (rfl)
@[simp] theorem Mth_T0 : Mth.T .join = "str" := (rfl)
@[simp] theorem Mth_s0 : Mth.s .join = sJoin := (rfl)
@[simp] theorem Mth_T2 : Mth.T .cnt = "list" := (rfl)
@[simp] theorem Mth_s3 : Mth.s .idx = sIdx := (rfl)
@[simp] theorem o_idx (xs b k) : @opM sIdx (.lst xs) [.str b] k = @onS _ (unStrs xs) ⟨fun ss => b ∈ ss ∧ k.run (fz (.int (ss.idxOf b : Nat)))⟩ := by rw [← onS_eq]; rfl
@[simp] theorem Mth_s2 : Mth.s .cnt = sCnt := (rfl)
@[simp] theorem o_cnt (xs b k) : @opM sCnt (.lst xs) [.str b] k = @onS _ (unStrs xs) ⟨fun ss => k.run (fz (.int (ss.count b : Nat)))⟩ := by rw [← onS_eq]; rfl
@[simp] theorem Mth_T1 : Mth.T .strip = "str" := (rfl)
@[simp] theorem Mth_s1 : Mth.s .strip = sStrp := (rfl)
@[simp] theorem o_strp (a b k) : @opM sStrp (.str a) [.str b] k = (a.length ≤ 16777216 ∧ k.run (fz (.str (Txt.stripChars a b)))) := (rfl)
@[simp] theorem Mut_s0 : Mut.s .rev = suRev := (rfl)
@[simp] theorem Mut_s1 : Mut.s .clear = suClear := (rfl)
@[simp] theorem Mut_s2 : Mut.s .pop = suPop := (rfl)
@[simp] theorem Mut_s3 : Mut.s .popAt = suPopAt := (rfl)
@[simp] theorem Mut_s4 : Mut.s .ins = suIns := (rfl)
@[simp] theorem Mut_s5 : Mut.s .app = suApp := (rfl)
@[simp] theorem o_joinl (a xs k) : @opM sJoin (.str a) [.lst xs] k = @onS _ (unStrs xs) ⟨fun ss => (ss.map (·.length)).sum + ss.length * a.length ≤ 16777216 ∧ k.run (fz (.str (Str.join a ss)))⟩ := by rw [← onS_eq]; rfl
@[simp] theorem o_joint (a xs k) : @opM sJoin (.str a) [.tup xs] k = @onS _ (unStrs xs) ⟨fun ss => (ss.map (·.length)).sum + ss.length * a.length ≤ 16777216 ∧ k.run (fz (.str (Str.join a ss)))⟩ := by rw [← onS_eq]; rfl
@[simp ↓] theorem x_lrep {G : Gm} (a b) : wM G (.lrep a b) = wLrep (wFs G a) (opX b (wM G b)) := by rw [wM]
@[simp ↓] theorem x_wLrep (ts tb env P) : wLrep ts tb env P = ts env fun os env1 => @onS _ (tms os) ⟨fun ds => ds.length ≤ 16777216 ∧ tb env1 fun o env2 => @onS _ (o.res env2) ⟨fun d => @onI d ⟨fun k => (-(2 ^ 63) ≤ k ∧ k < 2 ^ 63 ∧ ds.length * k.toNat ≤ 16777216) ∧ P ⟨true, .lst (List.replicate k.toNat ds).flatten⟩ env2⟩⟩⟩ := by
  have e : ∀ (ds : List D) (o : Opd) (env2 : EnvD), (∃ k, o.res env2 = some (.int k) ∧ (-(2 ^ 63) ≤ k ∧ k < 2 ^ 63 ∧ ds.length * k.toNat ≤ 16777216) ∧ P ⟨true, .lst (List.replicate k.toNat ds).flatten⟩ env2) =
      @onS _ (o.res env2) ⟨fun d => @onI d ⟨fun k => (-(2 ^ 63) ≤ k ∧ k < 2 ^ 63 ∧ ds.length * k.toNat ≤ 16777216) ∧ P ⟨true, .lst (List.replicate k.toNat ds).flatten⟩ env2⟩⟩ := by
    intro ds o env2
    rw [← onS_eq]
    simp only [← onI_eq]
    exact propext ⟨fun ⟨k, a, b⟩ => ⟨_, a, k, rfl, b⟩, fun ⟨d, a, k, h, b⟩ => ⟨k, by rw [a, h], b⟩⟩
  unfold wLrep
  simp only [e]
  rw [x_wLst]
  congr 1; funext os env1
  simp only [← onS_eq]
  exact propext ⟨fun ⟨ds, a, b, ds', h, c⟩ => ⟨ds, a, b, by cases h; exact c⟩, fun ⟨ds, a, b, c⟩ => ⟨ds, a, b, ds, rfl, c⟩⟩
@[simp] theorem o_sorted_t (xs k) : @opN sSortedA [.tup xs] k = (okSort xs = true ∧ k.run ⟨true, .lst (sortD xs)⟩) := (rfl)
@[simp] theorem o_sorted (xs k) : @opN sSortedA [.lst xs] k = (okSort xs = true ∧ k.run ⟨true, .lst (sortD xs)⟩) := (rfl)
@[simp] theorem o_dict_t (xs k) : @opN sDict [.tup xs] k = @onS _ (unPairs xs) ⟨fun l => k.run ⟨true, .dic (dmerge ([], []) l).1 (dmerge ([], []) l).2⟩⟩ := by rw [← onS_eq]; rfl
@[simp] theorem o_dict_l (xs k) : @opN sDict [.lst xs] k = @onS _ (unPairs xs) ⟨fun l => k.run ⟨true, .dic (dmerge ([], []) l).1 (dmerge ([], []) l).2⟩⟩ := by rw [← onS_eq]; rfl
@[simp] theorem o_dict_d (ks ds k) : @opN sDict [.dic ks ds] k = k.run ⟨true, .dic ks ds⟩ := (rfl)
@[simp] theorem o_ix_s (s i k) : @op2 sIxA (.str s) (.int i) k = (s.length ≤ 16777216 ∧ @onS _ (atI s.cps.toList i) ⟨fun c => k.run (fz (.str ⟨#[c]⟩))⟩) := by rw [← onS_eq]; exact propext ⟨fun h => h.elim id fun z => (show False from z).elim, .inl⟩
@[simp ↓] theorem opX_gix (a b t) : opX (.gix a b) t = wTm t := (rfl)
@[simp ↓] theorem opX_callv (a b t) : opX (.callv a b) t = wTm t := (rfl)
@[simp ↓] theorem opX_meth (a b c t) : opX (.meth a b c) t = wTm t := (rfl)
@[simp ↓] theorem opX_mutm (a b c t) : opX (.mutm a b c) t = wTm t := (rfl)
@[simp ↓] theorem opX_dp1 (a b t) : opX (.dp1 a b) t = wTm t := (rfl)
@[simp ↓] theorem opX_dp2 (a b c t) : opX (.dp2 a b c) t = wTm t := (rfl)
@[simp ↓] theorem opX_sdi (a t) : opX (.sdi a) t = wTm t := (rfl)
@[simp ↓] theorem opX_lset (a t) : opX (.lset a) t = wTm t := (rfl)
@[simp ↓] theorem opX_sst (a t) : opX (.sst a) t = wTm t := (rfl)
@[simp ↓] theorem opX_upr (a t) : opX (.upr a) t = wTm t := (rfl)
@[simp ↓] theorem opX_lrep (a b t) : opX (.lrep a b) t = wTm t := (rfl)
@[simp ↓] theorem x_nev {G : Gm} (env P) : wS G .nev env P = False := by rw [wS]
def onQ1 (l : List D) [k : Kt (List D)] : Prop := match l with
  | [.lst i] => k.run i
  | [.tup i] => k.run i
  | _ => False
@[simp] theorem onQ1_l (i k) : @onQ1 [.lst i] k = k.run i := (rfl)
@[simp] theorem onQ1_t (i k) : @onQ1 [.tup i] k = k.run i := (rfl)
@[simp ↓] theorem x_wiEnumA (t env P) : wiEnumA t env P = t env fun os env1 => @onS _ (tms os) ⟨fun l => @onQ1 l ⟨fun j => P (enumD j) env1⟩⟩ := by
  unfold wiEnumA
  congr 1; funext os env1
  rw [← onS_eq]
  refine propext ⟨fun ⟨d, ds, h, hd, q⟩ => ⟨_, h, ?_⟩, fun ⟨l, e, q⟩ => ?_⟩
  · rcases hd with rfl | rfl <;> exact q
  · unfold onQ1 at q
    split at q
    · exact ⟨_, _, e, .inl rfl, q⟩
    · exact ⟨_, _, e, .inr rfl, q⟩
    · exact q.elim
@[simp ↓] theorem opX_srtz (a b c d t) : opX (.srtz a b c d) t = wTm t := (rfl)
def onBx (x : Val) [k : Kt (List D)] : Prop := match x with
  | ⟨true, .box (.lst ds)⟩ => k.run ds
  | _ => False
@[simp] theorem onBx_l (ds k) : @onBx ⟨true, .box (.lst ds)⟩ k = k.run ds := (rfl)
theorem onBx_eq (x : Val) (k : List D → Prop) : (∃ ds, x = ⟨true, .box (.lst ds)⟩ ∧ k ds) = @onBx x ⟨k⟩ := by
  refine propext ⟨fun ⟨ds, e, q⟩ => by rw [e]; exact q, fun h => ?_⟩
  unfold onBx at h
  split at h
  · exact ⟨_, rfl, h⟩
  · exact h.elim
theorem onSBx_eq {o : Option (Option Val)} {k : List D → Prop} : (∃ ds, o = some (some ⟨true, .box (.lst ds)⟩) ∧ k ds) = @onSS _ o ⟨fun x => @onBx x ⟨k⟩⟩ := by
  rw [← onSS_eq]
  simp only [← onBx_eq]
  exact propext ⟨fun ⟨ds, h, q⟩ => ⟨_, h, ds, rfl, q⟩, fun ⟨x, h, ds, e, q⟩ => ⟨ds, by rw [h, e], q⟩⟩
@[simp ↓] theorem x_appo {G : Gm} (i e) : wS G (.appo i e) = wsAppo i (wM G e) := by rw [wS]
@[simp ↓] theorem x_wsAppo (i te env P) : wsAppo i te env P = @onSS _ env[i]? ⟨fun x => @onBx x ⟨fun _ => te env fun val env1 => @onL val ⟨fun xs => @onSS _ env1[i]? ⟨fun x => @onBx x ⟨fun ds => ds.length < 16777216 ∧ ∀ p, P .nx (env1.set i (some ⟨true, .box (.lst (ds ++ [.own p xs]))⟩))⟩⟩⟩⟩⟩ := by
  rw [← onSBx_eq]
  unfold wsAppo
  simp only [← onL_eq, ← onSBx_eq]
  refine propext ⟨fun ⟨⟨ds, h⟩, q⟩ => ⟨ds, h, ?_⟩, fun ⟨ds, h, q⟩ => ⟨⟨ds, h⟩, ?_⟩⟩
  · have e : (fun (val : Val) (env1 : EnvD) => ∃ xs ds, val = ⟨true, .lst xs⟩ ∧ env1[i]? = some (some ⟨true, .box (.lst ds)⟩) ∧ ds.length < 16777216 ∧ ∀ p, P .nx (env1.set i (some ⟨true, .box (.lst (ds ++ [.own p xs]))⟩))) =
        fun val env1 => ∃ xs, val = ⟨true, .lst xs⟩ ∧ ∃ ds, env1[i]? = some (some ⟨true, .box (.lst ds)⟩) ∧ ds.length < 16777216 ∧ ∀ p, P .nx (env1.set i (some ⟨true, .box (.lst (ds ++ [.own p xs]))⟩)) := by
      funext val env1
      exact propext ⟨fun ⟨xs, ds, a, b⟩ => ⟨xs, a, ds, b⟩, fun ⟨xs, a, ds, b⟩ => ⟨xs, ds, a, b⟩⟩
    rw [← e]; exact q
  · have e : (fun (val : Val) (env1 : EnvD) => ∃ xs ds, val = ⟨true, .lst xs⟩ ∧ env1[i]? = some (some ⟨true, .box (.lst ds)⟩) ∧ ds.length < 16777216 ∧ ∀ p, P .nx (env1.set i (some ⟨true, .box (.lst (ds ++ [.own p xs]))⟩))) =
        fun val env1 => ∃ xs, val = ⟨true, .lst xs⟩ ∧ ∃ ds, env1[i]? = some (some ⟨true, .box (.lst ds)⟩) ∧ ds.length < 16777216 ∧ ∀ p, P .nx (env1.set i (some ⟨true, .box (.lst (ds ++ [.own p xs]))⟩)) := by
      funext val env1
      exact propext ⟨fun ⟨xs, ds, a, b⟩ => ⟨xs, a, ds, b⟩, fun ⟨xs, a, ds, b⟩ => ⟨xs, ds, a, b⟩⟩
    rw [e]; exact q
def lcBK (j : Nat) (all : List Addr) (vs : List Nat) (g : WG) (tt : WT) (te : WE) (as : List Addr) (acc : List D) (env : EnvD) [k : Kt (List D × EnvD)] : Prop := lcB j all vs g tt te as acc env fun a e => k.run (a, e)
def opLcB (j : Nat) (vs : List Nat) (g : WG) (tt : WT) (te : WE) (env : EnvD) [k : Kt (List D × EnvD)] : Prop := ∃ all, boxAt j all env ∧ @lcBK j all vs g tt te all [] (wipeD env vs) k
@[simp ↓] theorem x_lcb {G : Gm} (o j g c e) : wM G (.lcb o j g c e) = wLcB j (o.map (·.2)) (gW g) (wT G c) (wM G e) := by rw [wM]
@[simp ↓] theorem x_wLcB (j vs g tt te env P) : wLcB j vs g tt te env P = @opLcB j vs g tt te env ⟨fun p => P ⟨true, .lst p.1⟩ (backD env p.2 vs)⟩ := (rfl)
def onAl (d : D) [k : Kt Addr] : Prop := match d with
  | .al a => k.run a
  | _ => False
@[simp] theorem onAl_a (a k) : @onAl (.al a) k = k.run a := (rfl)
theorem onAl_eq (d : D) (k : Addr → Prop) : (∃ b, d = .al b ∧ k b) = @onAl d ⟨k⟩ := by
  cases d <;> first
    | exact propext ⟨fun ⟨c, e, q⟩ => (by cases e; exact q), fun q => ⟨_, rfl, q⟩⟩
    | exact propext ⟨fun ⟨c, e, q⟩ => (by cases e), fun q => (show False from q).elim⟩
def opMua (s : SMu) (j : Nat) (ts : WXs) (b : Addr) (env1 : EnvD) [k : Kt (Val × EnvD)] : Prop := (∃ (ds : List D) (n : Nat) (xs : List D), env1[j]? = some (some ⟨true, .box (.lst ds)⟩) ∧ ds[n]? = some (.own b xs)) ∧
  ts env1 fun os env2 => ∃ (ds : List D) (n : Nat) (xs as : List D), env2[j]? = some (some ⟨true, .box (.lst ds)⟩) ∧ ds[n]? = some (.own b xs) ∧ tms os = some as ∧ s (.lst xs) as fun d' val => ∃ ys, d' = .lst ys ∧ k.run (val, env2.set j (some ⟨true, .box (.lst (ds.set n (.own b ys)))⟩))
@[simp ↓] theorem x_mua {G : Gm} (m j o a) : wM G (.mua m j o a) = wMutA m.s j (wM G o) (wFs G a) := by rw [wM]
@[simp ↓] theorem x_wMutA (s j ta ts env P) : wMutA s j ta ts env P = ta env fun va env1 => @onAl va.d ⟨fun b => @opMua s j ts b env1 ⟨fun p => P p.1 p.2⟩⟩ := by
  unfold wMutA opMua
  simp only [onAl_eq]
@[simp ↓] theorem opX_callq (a b c d t) : opX (.callq a b c d) t = wTm t := (rfl)
@[simp ↓] theorem opX_srt (a b c t) : opX (.srt a b c) t = wTm t := (rfl)
@[simp ↓] theorem opX_bxl (a t) : opX (.bxl a) t = wTm t := (rfl)
@[simp ↓] theorem opX_lcb (a b c d e t) : opX (.lcb a b c d e) t = wTm t := (rfl)
@[simp ↓] theorem opX_ixa (a b c t) : opX (.ixa a b c) t = wTm t := (rfl)
@[simp ↓] theorem opX_eqn (a t) : opX (.eqn a) t = wTm t := (rfl)
@[simp ↓] theorem opX_mua (a b c d t) : opX (.mua a b c d) t = wTm t := (rfl)
@[simp ↓] theorem opX_callw (a b c t) : opX (.callw a b c) t = wTm t := (rfl)
@[simp] theorem o_mint (xs k) : @opN sMinA [.tup xs] k = @onS _ (unInts xs) ⟨fun ns => 0 < ns.length ∧ ∀ m, m ∈ ns → (∀ y, y ∈ ns → m ≤ y) → k.run (fz (.int m))⟩ := by rw [← onS_eq]; rfl
@[simp] theorem o_sumt (xs k) : @opN sSumA [.tup xs] k = @onS _ (unInts xs) ⟨fun ns => k.run (fz (.int ns.sum))⟩ := by rw [← onS_eq]; rfl
@[simp] theorem o_maxt (xs k) : @opN sMaxA [.tup xs] k = @onS _ (unInts xs) ⟨fun ns => 0 < ns.length ∧ ∀ m, m ∈ ns → (∀ y, y ∈ ns → y ≤ m) → k.run (fz (.int m))⟩ := by rw [← onS_eq]; rfl
theorem forB_ind {j : Nat} {all : List Addr} {g : WG} {body : WS} {P : Out → EnvD → Prop} (I : List Addr → EnvD → Prop) (hb : ∀ as env, I as env → boxAt j all env)
    (step : ∀ a as env, I (a :: as) env → ∀ K : EnvD → Prop, (∀ e, I as e → K e) → g (fz (.al a)) env fun e1 => body e1 fun o e2 => match o with
      | .nx => K e2
      | .ct => K e2
      | .bk => P .nx e2
      | .rt v => P (.rt v) e2) (fin : ∀ env, I [] env → P .nx env) : ∀ (as : List Addr) (env : EnvD), I as env → forB j all g body as env P
  | [], env, h => ⟨hb _ _ h, fin env h⟩
  | a :: as, env, h => ⟨hb _ _ h, step a as env h (fun e => forB j all g body as e P) fun e he => forB_ind I hb step fin as e he⟩
def forBK (j : Nat) (all : List Addr) (g : WG) (body : WS) (as : List Addr) (env : EnvD) [k : Kt (Out × EnvD)] : Prop := forB j all g body as env fun o e => k.run (o, e)
theorem forBK_ind {j : Nat} {all : List Addr} {g : WG} {body : WS} {k : Kt (Out × EnvD)} (I : List Addr → EnvD → Prop) (hb : ∀ as env, I as env → boxAt j all env)
    (step : ∀ a as env, I (a :: as) env → ∀ K : EnvD → Prop, (∀ e, I as e → K e) → g (fz (.al a)) env fun e1 => body e1 fun o e2 => match o with
      | .nx => K e2
      | .ct => K e2
      | .bk => k.run (.nx, e2)
      | .rt v => k.run (.rt v, e2)) (fin : ∀ env, I [] env → k.run (.nx, env)) (as : List Addr) (env : EnvD) (h : I as env) : @forBK j all g body as env k := forB_ind I hb step fin as env h
def opForB (j : Nat) (g : WG) (body : WS) (env : EnvD) [k : Kt (Out × EnvD)] : Prop := ∃ all, boxAt j all env ∧ @forBK j all g body all env k
@[simp ↓] theorem x_loopb {G : Gm} (j i b) : wS G (.loopb j i b) = wsForB j (gwName i) (wSs G b) := by rw [wS]
@[simp ↓] theorem x_wsForB (j g body env P) : wsForB j g body env P = @opForB j g body env ⟨fun p => P p.1 p.2⟩ := (rfl)
@[simp ↓] theorem x_lco {G : Gm} (own it g c e) : wM G (.lco own it g c e) = wLcQ (wI G it) (own.map (·.2)) (gW g) (wT G c) (wM G e) := by rw [wM]
def lcQK (vs : List Nat) (g : WG) (tt : WT) (te : WE) (ds : List D) (acc : List D) (env : EnvD) [k : Kt (List D × EnvD)] : Prop := lcQ vs g tt te ds acc env fun a e => k.run (a, e)
@[simp ↓] theorem x_wLcQ (it vs g tt te env P) : wLcQ it vs g tt te env P = it env fun ds env1 => @lcQK vs g tt te ds [] (wipeD env1 vs) ⟨fun p => P ⟨true, .box (.lst p.1)⟩ (backD env1 p.2 vs)⟩ := (rfl)
theorem lcQ_ind {vs : List Nat} {g : WG} {tt : WT} {te : WE} {P : List D → EnvD → Prop} (I : List D → List D → EnvD → Prop)
    (step : ∀ d ds acc env, I (d :: ds) acc env → ∀ K : List D → EnvD → Prop, (∀ a e, I ds a e → K a e) → g (fz d) env fun e1 => tt e1 fun b e2 => if b then te e2 fun val e3 => ∃ xs, val = ⟨true, .lst xs⟩ ∧ acc.length < 16777216 ∧ ∀ p, K (acc ++ [.own p xs]) (wipeD e3 vs) else K acc (wipeD e2 vs))
    (fin : ∀ acc env, I [] acc env → P acc env) : ∀ (ds acc : List D) (env : EnvD), I ds acc env → lcQ vs g tt te ds acc env P
  | [], acc, env, h => fin acc env h
  | d :: ds, acc, env, h => step d ds acc env h (fun a e => lcQ vs g tt te ds a e P) fun a e he => lcQ_ind I step fin ds a e he
theorem lcQK_ind {vs : List Nat} {g : WG} {tt : WT} {te : WE} {k : Kt (List D × EnvD)} (I : List D → List D → EnvD → Prop)
    (step : ∀ d ds acc env, I (d :: ds) acc env → ∀ K : List D → EnvD → Prop, (∀ a e, I ds a e → K a e) → g (fz d) env fun e1 => tt e1 fun b e2 => if b then te e2 fun val e3 => ∃ xs, val = ⟨true, .lst xs⟩ ∧ acc.length < 16777216 ∧ ∀ p, K (acc ++ [.own p xs]) (wipeD e3 vs) else K acc (wipeD e2 vs))
    (fin : ∀ acc env, I [] acc env → k.run (acc, env)) (ds acc : List D) (env : EnvD) (h : I ds acc env) : @lcQK vs g tt te ds acc env k := lcQ_ind I step fin ds acc env h
@[simp ↓] theorem x_rpb {G : Gm} (i) : wM G (.rpb i) = wRpb i := by rw [wM]
@[simp ↓] theorem x_callt {G : Gm} (k a j) : wM G (.callt k a j) = match G.fs[k]? with | some f => wCallT f.n f.t (wM G a) j | none => bad1 := by rw [wM] <;> rfl
@[simp ↓] theorem opX_lco (a b c d e t) : opX (.lco a b c d e) t = wTm t := (rfl)
@[simp ↓] theorem opX_rpb (a t) : opX (.rpb a) t = wTm t := (rfl)
@[simp ↓] theorem opX_callt (a b c t) : opX (.callt a b c) t = wTm t := (rfl)
end TL
namespace Lk26
open PySem PySem.Spec PyProof.Rows L2 TL
def top (i : Nat) : Stmt := PySem.Challenge.pw_wishlane_k26_first_situations.main.body.getD i (.Pass ⟨0, 0, 0, 0⟩)
def fnN : List Str := ["_law_same", "at_work", "has_move", "movers", "is_finished", "as_tuples", "begun", "begun_with", "_law_take", "_law_number", "_law_wish", "_law_keys", "_law_plans", "_law_kind", "_law_right", "_law_box", "_law_cells"]
def cnN : List Str := ["COUNTER", "REST", "FALLEN", "AT_WORK"]
def kwN : List (Str × Nat × List Str) := []
def dnN : List Str := []
def dsT : List (List (Str × D)) := []
def cs : List D := [(.str "counter"), (.str "rest"), (.str "fallen"), (.tup [(.str "open"), (.str "read"), (.str "write"), (.str "mark"), (.str "tell"), (.str "free"), (.str "pass"), (.str "give")])]
def N__law_same : List Str := ["_law_found", "_law_due", "_law_one", "_law_other"]
def B__law_same : Tb := ⟨N__law_same, fnN, cnN, kwN, dnN, false⟩
def b__law_same : Ss :=
(.cons (.iff (.val (.isi [.list, .tuple] true (.var 1)))
(.cons (.iff (.bop false (.cons (.cmp .ne (.isi [.list] false (.var 0)) (.isi [.list] false (.var 1))) (.cons (.cmp .ne (.isi [.tuple] false (.var 0)) (.isi [.tuple] false (.var 1))) .nil)))
(.cons (.ret (.cst (.bl false)))
.nil)
.nil)
(.cons (.ret (.bop true (.cons (.cmp .eq (.bf .len (.cons (.var 0) .nil)) (.bf .len (.cons (.var 1) .nil))) (.cons (.bf .all (.cons (.lc [("_law_one", 2), ("_law_other", 3)] (.zip (.var 0) (.var 1)) (.tup (.cons (.name 2) (.cons (.name 3) .nil))) .yes (.call 0 (.fro (.var 2) (.fro (.var 3) .nil)))) .nil)) .nil))))
.nil))
.nil)
(.cons (.iff (.bop false (.cons (.cmp .is (.var 1) (.cst .non)) (.cons (.val (.isi [.str, .bool] true (.var 1))) .nil)))
(.cons (.ret (.bop true (.cons (.cmp .eq (.isi [.bool] false (.var 0)) (.isi [.bool] false (.var 1))) (.cons (.cmp .eq (.var 0) (.var 1)) .nil))))
.nil)
.nil)
(.cons (.ret (.bop true (.cons (.isi [.int] false (.var 0)) (.cons (.not (.isi [.bool] false (.var 0))) (.cons (.cmp .eq (.var 0) (.var 1)) .nil)))))
.nil)))
theorem c__law_same : ckSs B__law_same [] b__law_same (defScope (top 26)) (defScope (top 26)) (defBody (top 26)) = true := by decide +kernel
theorem s__law_same : FnScope B__law_same.N ["_law_found", "_law_due"] (defScope (top 26)) := ⟨rfl, rfl, rfl, by decide +kernel, rfl, by decide +kernel, by decide +kernel⟩
def N_at_work : List Str := ["situation", "hand", "mode", "rest"]
def B_at_work : Tb := ⟨N_at_work, fnN, cnN, kwN, dnN, false⟩
def b_at_work : Ss :=
(.cons (.ret (.lc [("hand", 1), ("mode", 2), ("rest", 3)] (.enu (.ix (.var 0) (.cst (.int 3)))) (.tup (.cons (.name 1) (.cons (.tup (.cons (.name 2) (.star 3))) .nil))) (.cmp .isin (.var 2) (.glb 3)) (.var 1)))
.nil)
theorem c_at_work : ckSs B_at_work [] b_at_work (defScope (top 21)) (defScope (top 21)) (defBody (top 21)) = true := by decide +kernel
theorem s_at_work : FnScope B_at_work.N ["situation"] (defScope (top 21)) := ⟨rfl, rfl, rfl, by decide +kernel, rfl, by decide +kernel, by decide +kernel⟩
def N_has_move : List Str := ["situation", "hand", "mode", "at", "kept", "left"]
def B_has_move : Tb := ⟨N_has_move, fnN, cnN, kwN, dnN, false⟩
def b_has_move : Ss :=
(.cons (.asg (.tup (.cons (.name 2) (.cons (.name 3) (.cons (.name 4) (.cons (.name 5) .nil))))) (.ix (.ix (.var 0) (.cst (.int 3))) (.var 1)))
(.cons (.ret (.bop true (.cons (.cmp .ne (.var 2) (.glb 2)) (.cons (.bop false (.cons (.cmp .ne (.var 2) (.glb 1)) (.cons (.cmp .ne (.var 5) (.tup .nil)) .nil))) .nil))))
.nil))
theorem c_has_move : ckSs B_has_move [] b_has_move (defScope (top 18)) (defScope (top 18)) (defBody (top 18)) = true := by decide +kernel
theorem s_has_move : FnScope B_has_move.N ["situation", "hand"] (defScope (top 18)) := ⟨rfl, rfl, rfl, by decide +kernel, rfl, by decide +kernel, by decide +kernel⟩
def N_movers : List Str := ["situation", "hand"]
def B_movers : Tb := ⟨N_movers, fnN, cnN, kwN, dnN, false⟩
def b_movers : Ss :=
(.cons (.ret (.lc [("hand", 1)] (.rng1 (.bf .len (.cons (.ix (.var 0) (.cst (.int 3))) .nil))) (.name 1) (.val (.call 2 (.fro (.var 0) (.fro (.var 1) .nil)))) (.var 1)))
.nil)
theorem c_movers : ckSs B_movers [] b_movers (defScope (top 19)) (defScope (top 19)) (defBody (top 19)) = true := by decide +kernel
theorem s_movers : FnScope B_movers.N ["situation"] (defScope (top 19)) := ⟨rfl, rfl, rfl, by decide +kernel, rfl, by decide +kernel, by decide +kernel⟩
def N_is_finished : List Str := ["situation"]
def B_is_finished : Tb := ⟨N_is_finished, fnN, cnN, kwN, dnN, false⟩
def b_is_finished : Ss :=
(.cons (.ret (.cmp .eq (.call 3 (.fro (.var 0) .nil)) (.lst .nil)))
.nil)
theorem c_is_finished : ckSs B_is_finished [] b_is_finished (defScope (top 20)) (defScope (top 20)) (defBody (top 20)) = true := by decide +kernel
theorem s_is_finished : FnScope B_is_finished.N ["situation"] (defScope (top 20)) := ⟨rfl, rfl, rfl, by decide +kernel, rfl, by decide +kernel, by decide +kernel⟩
def N_as_tuples : List Str := ["thing", "one"]
def B_as_tuples : Tb := ⟨N_as_tuples, fnN, cnN, kwN, dnN, false⟩
def b_as_tuples : Ss :=
(.cons (.iff (.val (.isi [.list, .tuple] true (.var 0)))
(.cons (.ret (.bf .tuple (.cons (.lc [("one", 1)] (.seq (.var 0)) (.name 1) .yes (.call 5 (.fro (.var 1) .nil))) .nil)))
.nil)
.nil)
(.cons (.ret (.var 0))
.nil))
theorem c_as_tuples : ckSs B_as_tuples [] b_as_tuples (defScope (top 2)) (defScope (top 2)) (defBody (top 2)) = true := by decide +kernel
theorem s_as_tuples : FnScope B_as_tuples.N ["thing"] (defScope (top 2)) := ⟨rfl, rfl, rfl, by decide +kernel, rfl, by decide +kernel, by decide +kernel⟩
def N_begun : List Str := ["kind"]
def B_begun : Tb := ⟨N_begun, fnN, cnN, kwN, dnN, false⟩
def b_begun : Ss :=
(.cons (.ret (.ifx (.cmp .eq (.var 0) (.glb 0)) (.cst (.int 0)) (.tup .nil)))
.nil)
theorem c_begun : ckSs B_begun [] b_begun (defScope (top 4)) (defScope (top 4)) (defBody (top 4)) = true := by decide +kernel
theorem s_begun : FnScope B_begun.N ["kind"] (defScope (top 4)) := ⟨rfl, rfl, rfl, by decide +kernel, rfl, by decide +kernel, by decide +kernel⟩
def N_begun_with : List Str := ["kind", "plans", "many", "book", "hands", "plan"]
def B_begun_with : Tb := ⟨N_begun_with, fnN, cnN, kwN, dnN, false⟩
def b_begun_with : Ss :=
(.cons (.asg (.name 2) (.bf .len (.cons (.var 1) .nil)))
(.cons (.asg (.name 3) (.tup (.cons (.call 6 (.fro (.var 0) .nil)) (.cons (.bin .mul (.tup (.cons (.tup (.cons (.cst (.int 0)) (.cons (.cst .non) .nil))) .nil)) (.var 2)) .nil))))
(.cons (.asg (.name 4) (.bf .tuple (.cons (.lc [("plan", 5)] (.seq (.var 1)) (.name 5) .yes (.tup (.cons (.glb 1) (.cons (.cst (.int 0)) (.cons (.tup .nil) (.cons (.call 5 (.fro (.var 5) .nil)) .nil)))))) .nil)))
(.cons (.ret (.tup (.cons (.cst .non) (.cons (.var 3) (.cons (.bin .mul (.tup (.cons (.tup (.cons (.cst (.int 0)) (.cons (.cst .non) (.cons (.tup .nil) .nil)))) .nil)) (.var 2)) (.cons (.var 4) (.cons (.tup .nil) .nil)))))))
.nil))))
theorem c_begun_with : ckSs B_begun_with [] b_begun_with (defScope (top 17)) (defScope (top 17)) (defBody (top 17)) = true := by decide +kernel
theorem s_begun_with : FnScope B_begun_with.N ["kind", "plans"] (defScope (top 17)) := ⟨rfl, rfl, rfl, by decide +kernel, rfl, by decide +kernel, by decide +kernel⟩
def N__law_take : List Str := ["_law_box_here", "_law_many", "_law_found", "_law_mixed"]
def B__law_take : Tb := ⟨N__law_take, fnN, cnN, kwN, dnN, false⟩
def b__law_take : Ss :=
(.cons (.iff (.cmp .gt (.ix (.var 0) (.cst (.int 0))) (.cst (.int 0)))
(.cons (.asg (.name 2) (.bin .mod (.ix (.var 0) (.cst (.int 0))) (.var 1)))
(.cons (.setI 0 (.cst (.int 0)) (.bin .div (.ix (.var 0) (.cst (.int 0))) (.var 1)))
(.cons (.retv 2)
.nil)))
.nil)
(.cons (.setI 0 (.cst (.int 2)) (.bin .add (.ix (.var 0) (.cst (.int 2))) (.cst (.int 1))))
(.cons (.asg (.name 3) (.bin .mod (.bin .add (.ix (.var 0) (.cst (.int 1))) (.bin .mul (.cst (.int 1442695040888963407)) (.ix (.var 0) (.cst (.int 2))))) (.cst (.int 2305843009213693951))))
(.cons (.asg (.name 3) (.bin .mod (.bin .add (.bin .add (.bin .mul (.var 3) (.var 3)) (.bin .mul (.cst (.int 39373)) (.ix (.var 0) (.cst (.int 2))))) (.cst (.int 7))) (.cst (.int 2305843009213693921))))
(.cons (.asg (.name 3) (.bin .mod (.bin .add (.bin .mul (.var 3) (.bin .add (.bin .div (.var 3) (.cst (.int 65536))) (.cst (.int 3)))) (.ix (.var 0) (.cst (.int 2)))) (.cst (.int 2305843009213693907))))
(.cons (.ret (.bin .mod (.bin .div (.var 3) (.cst (.int 1048576))) (.var 1)))
.nil))))))
theorem c__law_take : ckSs B__law_take (List.range 2) b__law_take (defScope (top 24)) (defScope (top 24)) (defBody (top 24)) = true := by decide +kernel
theorem s__law_take : FnScope B__law_take.N ["_law_box_here", "_law_many"] (defScope (top 24)) := ⟨rfl, rfl, rfl, by decide +kernel, rfl, by decide +kernel, by decide +kernel⟩
def N__law_number : List Str := ["_law_box_here"]
def B__law_number : Tb := ⟨N__law_number, fnN, cnN, kwN, dnN, false⟩
def b__law_number : Ss :=
(.cons (.ret (.ifx (.cmp .eq (.call 8 (.lend 0 (.fro (.cst (.int 8)) .nil))) (.cst (.int 0))) (.bin .sub (.call 8 (.lend 0 (.fro (.cst (.int 1999)) .nil))) (.cst (.int 999))) (.bin .sub (.call 8 (.lend 0 (.fro (.cst (.int 9)) .nil))) (.cst (.int 4)))))
.nil)
theorem c__law_number : ckSs B__law_number (List.range 1) b__law_number (defScope (top 27)) (defScope (top 27)) (defBody (top 27)) = true := by decide +kernel
theorem s__law_number : FnScope B__law_number.N ["_law_box_here"] (defScope (top 27)) := ⟨rfl, rfl, rfl, by decide +kernel, rfl, by decide +kernel, by decide +kernel⟩
def N__law_wish : List Str := ["_law_box_here", "_law_kind_here", "_law_keys_here", "_law_number_here", "_law_way", "_law_key"]
def B__law_wish : Tb := ⟨N__law_wish, fnN, cnN, kwN, dnN, false⟩
def b__law_wish : Ss :=
(.cons (.par [3, 4, 5] (.own (.call 9 (.lend 0 .nil)) (.own (.call 8 (.lend 0 (.fro (.cst (.int 5)) .nil))) (.own (.ix (.var 2) (.call 8 (.lend 0 (.fro (.cst (.int 3)) .nil)))) .nil))))
(.cons (.iff (.cmp .eq (.var 1) (.cst (.str "counter")))
(.cons (.ret (.ix (.lst (.cons (.tup (.cons (.cst (.str "add")) (.cons (.var 3) .nil))) (.cons (.tup (.cons (.cst (.str "add")) (.cons (.var 3) .nil))) (.cons (.tup (.cons (.cst (.str "lift")) (.cons (.var 3) .nil))) (.cons (.tup (.cons (.cst (.str "lift")) (.cons (.var 3) .nil))) (.cons (.tup (.cons (.cst (.str "read")) .nil)) .nil)))))) (.var 4)))
.nil)
.nil)
(.cons (.iff (.cmp .eq (.var 1) (.cst (.str "table")))
(.cons (.ret (.ix (.lst (.cons (.tup (.cons (.cst (.str "set")) (.cons (.var 5) (.cons (.var 3) .nil)))) (.cons (.tup (.cons (.cst (.str "set")) (.cons (.var 5) (.cons (.var 3) .nil)))) (.cons (.tup (.cons (.cst (.str "get")) (.cons (.var 5) .nil))) (.cons (.tup (.cons (.cst (.str "get")) (.cons (.var 5) .nil))) (.cons (.tup (.cons (.cst (.str "drop")) (.cons (.var 5) .nil))) .nil)))))) (.var 4)))
.nil)
.nil)
(.cons (.ret (.ifx (.cmp .lt (.var 4) (.cst (.int 3))) (.tup (.cons (.cst (.str "put")) (.cons (.var 3) .nil))) (.tup (.cons (.cst (.str "take")) .nil))))
.nil))))
theorem c__law_wish : ckSs B__law_wish (List.range 3) b__law_wish (defScope (top 29)) (defScope (top 29)) (defBody (top 29)) = true := by decide +kernel
theorem s__law_wish : FnScope B__law_wish.N ["_law_box_here", "_law_kind_here", "_law_keys_here"] (defScope (top 29)) := ⟨rfl, rfl, rfl, by decide +kernel, rfl, by decide +kernel, by decide +kernel⟩
def N__law_keys : List Str := ["_law_box_here", "_law_letters", "_law_start", "_law_stem", "_law_turn", "_law_k"]
def B__law_keys : Tb := ⟨N__law_keys, fnN, cnN, kwN, dnN, false⟩
def b__law_keys : Ss :=
(.cons (.asg (.tup (.cons (.name 1) (.cons (.name 2) .nil))) (.tup (.cons (.cst (.str "abcdefghijklmnopqrstuvwxyz")) (.cons (.call 8 (.lend 0 (.fro (.cst (.int 26)) .nil))) .nil))))
(.cons (.asg (.name 3) (.meth .join (.cst (.str "")) (.cons (.lc [("_law_turn", 4)] (.rng1 (.call 8 (.lend 0 (.fro (.cst (.int 8)) .nil)))) (.name 4) .yes (.ix (.var 1) (.call 8 (.lend 0 (.fro (.cst (.int 26)) .nil))))) .nil)))
(.cons (.ret (.lc [("_law_k", 5)] (.rng1 (.cst (.int 3))) (.name 5) .yes (.bin .add (.var 3) (.ix (.var 1) (.bin .mod (.bin .add (.var 2) (.bin .mul (.cst (.int 7)) (.var 5))) (.cst (.int 26)))))))
.nil)))
theorem c__law_keys : ckSs B__law_keys (List.range 1) b__law_keys (defScope (top 28)) (defScope (top 28)) (defBody (top 28)) = true := by decide +kernel
theorem s__law_keys : FnScope B__law_keys.N ["_law_box_here"] (defScope (top 28)) := ⟨rfl, rfl, rfl, by decide +kernel, rfl, by decide +kernel, by decide +kernel⟩
def N__law_plans : List Str := ["_law_box_here", "_law_kind_here", "_law_hands", "_law_most", "_law_keys_here", "_law_hand", "_law_turn"]
def B__law_plans : Tb := ⟨N__law_plans, fnN, cnN, kwN, dnN, false⟩
def b__law_plans : Ss :=
(.cons (.asg (.name 4) (.call 11 (.lend 0 .nil)))
(.cons (.ret (.lc [("_law_hand", 5)] (.rng1 (.var 2)) (.name 5) .yes (.lc [("_law_turn", 6)] (.rng1 (.call 8 (.lend 0 (.fro (.bin .add (.var 3) (.cst (.int 1))) .nil)))) (.name 6) .yes (.call 10 (.lend 0 (.fro (.var 1) (.fro (.var 4) .nil)))))))
.nil))
theorem c__law_plans : ckSs B__law_plans (List.range 4) b__law_plans (defScope (top 31)) (defScope (top 31)) (defBody (top 31)) = true := by decide +kernel
theorem s__law_plans : FnScope B__law_plans.N ["_law_box_here", "_law_kind_here", "_law_hands", "_law_most"] (defScope (top 31)) := ⟨rfl, rfl, rfl, by decide +kernel, rfl, by decide +kernel, by decide +kernel⟩
def N__law_kind : List Str := ["_law_box_here"]
def B__law_kind : Tb := ⟨N__law_kind, fnN, cnN, kwN, dnN, false⟩
def b__law_kind : Ss :=
(.cons (.ret (.ix (.lst (.cons (.cst (.str "counter")) (.cons (.cst (.str "pile")) (.cons (.cst (.str "queue")) (.cons (.cst (.str "table")) .nil))))) (.call 8 (.lend 0 (.fro (.cst (.int 4)) .nil)))))
.nil)
theorem c__law_kind : ckSs B__law_kind (List.range 1) b__law_kind (defScope (top 30)) (defScope (top 30)) (defBody (top 30)) = true := by decide +kernel
theorem s__law_kind : FnScope B__law_kind.N ["_law_box_here"] (defScope (top 30)) := ⟨rfl, rfl, rfl, by decide +kernel, rfl, by decide +kernel, by decide +kernel⟩
def N__law_right : List Str := ["_law_box_here", "_law_turn", "_law_plans_here", "_law_rows", "_law_state", "_law_due", "_law_found", "_law_plan", "_law_ready", "_law_some", "_law_ends", "_law_sort", "_law_hands", "_law_handed", "_law_before", "_law_hand"]
def B__law_right : Tb := ⟨N__law_right, fnN, cnN, kwN, dnN, false⟩
def b__law_right : Ss :=
(.cons (.loop (.rng1 (.cst (.int 6))) (.name 1)
(.cons (.par [11, 12] (.own (.call 13 (.lend 0 .nil)) (.own (.bin .add (.cst (.int 1)) (.call 8 (.lend 0 (.fro (.cst (.int 4)) .nil)))) .nil)))
(.cons (.asg (.name 2) (.call 12 (.lend 0 (.fro (.var 11) (.fro (.var 12) (.fro (.cst (.int 6)) .nil))))))
(.cons (.asg (.name 3) (.bf .tuple (.cons (.lc [("_law_plan", 7)] (.seq (.var 2)) (.name 7) .yes (.tup (.cons (.cst (.str "rest")) (.cons (.cst (.int 0)) (.cons (.tup .nil) (.cons (.bf .tuple (.cons (.var 7) .nil)) .nil)))))) .nil)))
(.cons (.asg (.name 4) (.ifx (.cmp .eq (.var 11) (.cst (.str "counter"))) (.cst (.int 0)) (.tup .nil)))
(.cons (.asg (.name 5) (.tup (.cons (.cst .non) (.cons (.tup (.cons (.var 4) (.cons (.bin .mul (.tup (.cons (.tup (.cons (.cst (.int 0)) (.cons (.cst .non) .nil))) .nil)) (.var 12)) .nil))) (.cons (.bin .mul (.tup (.cons (.tup (.cons (.cst (.int 0)) (.cons (.cst .non) (.cons (.tup .nil) .nil)))) .nil)) (.var 12)) (.cons (.var 3) (.cons (.tup .nil) .nil)))))))
(.cons (.par [13, 14] (.own (.lco [("_law_plan", 7)] (.seq (.var 2)) (.name 7) .yes (.bf .list (.cons (.var 7) .nil))) (.own (.bf .repr (.cons (.var 2) .nil)) .nil)))
(.cons (.asg (.name 6) (.lst (.cons (.callt 7 (.var 11) 13) (.cons (.call 7 (.fro (.var 11) (.fro (.bf .tuple (.cons (.lc [("_law_plan", 7)] (.seq (.var 2)) (.name 7) .yes (.bf .tuple (.cons (.var 7) .nil))) .nil)) .nil))) .nil))))
(.cons (.iff (.bop false (.cons (.not (.val (.call 0 (.fro (.var 6) (.fro (.lst (.cons (.var 5) (.cons (.var 5) .nil))) .nil))))) (.cons (.cmp .ne (.rpb 13) (.var 14)) .nil)))
(.cons (.ret (.cst (.bl false)))
.nil)
.nil)
(.cons (.loopb 13 7
(.cons (.exp (.mua .clear 13 (.var 7) .nil))
.nil))
(.cons (.appo 13 (.lst (.cons (.tup (.cons (.cst (.str "read")) .nil)) .nil)))
(.cons (.asg (.name 8) (.lc [("_law_hand", 15)] (.rng1 (.var 12)) (.name 15) (.cmp .ne (.ix (.var 2) (.var 15)) (.lst .nil)) (.var 15)))
(.cons (.asg (.name 9) (.lstb (.own (.call 3 (.fro (.ix (.var 6) (.cst (.int 0))) .nil)) (.own (.call 3 (.fro (.ix (.var 6) (.cst (.int 1))) .nil)) (.own (.call 1 (.fro (.ix (.var 6) (.cst (.int 0))) .nil)) (.own (.call 1 (.fro (.ix (.var 6) (.cst (.int 1))) .nil)) .nil))))))
(.cons (.iff (.bop false (.cons (.not (.val (.callr 0 (.cons (.var 9) (.cons (.lst (.cons (.var 8) (.cons (.var 8) (.cons (.lst .nil) (.cons (.lst .nil) .nil))))) .nil))))) (.cons (.not (.val (.call 0 (.fro (.var 6) (.fro (.lst (.cons (.var 5) (.cons (.var 5) .nil))) .nil))))) .nil)))
(.cons (.ret (.cst (.bl false)))
.nil)
.nil)
(.cons (.exp (.mutb .app 9 0 (.cons (.cst (.int 9)) .nil)))
(.cons (.exp (.mutb .app 9 2 (.cons (.cst (.int 9)) .nil)))
(.cons (.asg (.name 10) (.lst (.cons (.call 4 (.fro (.ix (.var 6) (.cst (.int 0))) .nil)) (.cons (.call 4 (.fro (.ix (.var 6) (.cst (.int 1))) .nil)) .nil))))
(.cons (.iff (.bop false (.cons (.not (.val (.call 0 (.fro (.var 10) (.fro (.lrep (.cons (.cmp .eq (.var 8) (.lst .nil)) .nil) (.cst (.int 2))) .nil))))) (.cons (.not (.val (.call 0 (.fro (.lst (.cons (.call 3 (.fro (.var 5) .nil)) (.cons (.call 1 (.fro (.var 5) .nil)) .nil))) (.fro (.lst (.cons (.var 8) (.cons (.lst .nil) .nil))) .nil))))) .nil)))
(.cons (.ret (.cst (.bl false)))
.nil)
.nil)
.nil))))))))))))))))))
(.cons (.ret (.cst (.bl true)))
.nil))
theorem c__law_right : ckSs B__law_right (List.range 1) b__law_right (defScope (top 32)) (defScope (top 32)) (defBody (top 32)) = true := by decide +kernel
theorem s__law_right : FnScope B__law_right.N ["_law_box_here"] (defScope (top 32)) := ⟨rfl, rfl, rfl, by decide +kernel, rfl, by decide +kernel, by decide +kernel⟩
def N__law_box : List Str := ["_law_cells_here", "_law_k", "_law_cell"]
def B__law_box : Tb := ⟨N__law_box, fnN, cnN, kwN, dnN, false⟩
def b__law_box : Ss :=
(.cons (.asg (.name 2) (.ix (.var 0) (.var 1)))
(.cons (.ret (.lst (.cons (.bin .mul (.bf .abs (.cons (.var 2) .nil)) (.bf .int (.cons (.cmp .ge (.bf .abs (.cons (.var 2) .nil)) (.bin .pow (.cst (.int 10)) (.cst (.int 18)))) .nil))) (.cons (.bin .add (.bin .add (.bin .mod (.var 2) (.cst (.int 2305843009213693951))) (.bin .mul (.cst (.int 15485863)) (.var 1))) (.cst (.int 11))) (.cons (.cst (.int 0)) .nil)))))
.nil))
theorem c__law_box : ckSs B__law_box [] b__law_box (defScope (top 23)) (defScope (top 23)) (defBody (top 23)) = true := by decide +kernel
theorem s__law_box : FnScope B__law_box.N ["_law_cells_here", "_law_k"] (defScope (top 23)) := ⟨rfl, rfl, rfl, by decide +kernel, rfl, by decide +kernel, by decide +kernel⟩
def N__law_cells : List Str := ["_law_script", "_law_utmost", "_law_cells_here", "_law_k", "_law_cell"]
def B__law_cells : Tb := ⟨N__law_cells, fnN, cnN, kwN, dnN, false⟩
def b__law_cells : Ss :=
(.cons (.asg (.name 2) (.bop false (.cons (.bf .list (.cons (.cut (.var 0) .no (.so (.var 1))) .nil)) (.cons (.lst (.cons (.cst (.int 0)) .nil)) .nil))))
(.cons (.loop (.enu (.cut (.var 0) (.so (.var 1)) (.so (.cst (.int 63))))) (.tup (.cons (.name 3) (.cons (.name 4) .nil)))
(.cons (.setI 2 (.bin .mod (.var 3) (.var 1)) (.bin .add (.ix (.var 2) (.bin .mod (.var 3) (.var 1))) (.bin .mul (.var 4) (.bin .add (.var 3) (.cst (.int 2))))))
.nil))
(.cons (.retv 2)
.nil)))
theorem c__law_cells : ckSs B__law_cells [] b__law_cells (defScope (top 25)) (defScope (top 25)) (defBody (top 25)) = true := by decide +kernel
theorem s__law_cells : FnScope B__law_cells.N ["_law_script", "_law_utmost"] (defScope (top 25)) := ⟨rfl, rfl, rfl, by decide +kernel, rfl, by decide +kernel, by decide +kernel⟩
def N_law : List Str := ["_law_script", "_law_cells_here", "_law_k"]
def B_law : Tb := ⟨N_law, fnN, cnN, kwN, dnN, false⟩
def b_law : Ss :=
(.cons (.asg (.name 1) (.call 16 (.fro (.var 0) (.fro (.cst (.int 4)) .nil))))
(.cons (.ret (.bf .all (.cons (.lc [("_law_k", 2)] (.rng1 (.bf .len (.cons (.var 1) .nil))) (.name 2) .yes (.call 14 (.own (.call 15 (.fro (.var 1) (.fro (.var 2) .nil))) .nil))) .nil)))
.nil))
theorem c_law : ckSs B_law [] b_law (defScope (top 33)) (defScope (top 33)) (defBody (top 33)) = true := by decide +kernel
theorem s_law : FnScope B_law.N ["_law_script"] (defScope (top 33)) := ⟨rfl, rfl, rfl, by decide +kernel, rfl, by decide +kernel, by decide +kernel⟩
end Lk26
namespace WL
open PySem PySem.Spec PyProof.Rows L2 TL
abbrev Row := Str × Int
def rowD (p : Row) : D := .tup [.str p.1, .int p.2]
def leP (a b : Row) : Bool := leS (rowD a) (rowD b)
def srt (l : List Row) : List Row := l.mergeSort leP
theorem srt_perm (l : List Row) : (srt l).Perm l := List.mergeSort_perm _ _
theorem srt_len (l : List Row) : (srt l).length = l.length := (srt_perm l).length_eq
def keys (l : List Row) : List Str := l.map (·.1)
def tyT (l : List Row) : Prop := (keys l).Nodup ∧ srt l = l
def lk : List Row → Str → Option Int
  | [], _ => none
  | p :: l, k => if p.1 = k then some p.2 else lk l k
def put (l : List Row) (k : Str) (n : Int) : List Row := if k ∈ keys l then l.map fun p => if p.1 = k then (p.1, n) else p else l ++ [(k, n)]
def drp (l : List Row) (k : Str) : List Row := l.filter fun p => decide (p.1 ≠ k)
def pD (l : List Row) : List (Key × D) := l.map fun p => (.inr p.1, .int p.2)
@[simp] theorem unPairs_rows : ∀ l : List Row, unPairs (l.map rowD) = some (pD l)
  | [] => rfl
  | p :: l => by
    show (match unPair (rowD p), unPairs (l.map rowD) with | some x, some xs => some (x :: xs) | _, _ => none) = _
    rw [unPairs_rows l]; rfl
inductive Kd where
  | counter | pile | queue | table
  deriving DecidableEq
inductive Sta where
  | num (i : Int) | seq (l : List Int) | tab (l : List Row)
inductive Wi where
  | add (n : Int) | lift (n : Int) | read | put (n : Int) | take | set (k : Str) (n : Int) | get (k : Str) | drop (k : Str)
inductive An where
  | non | yes | num (i : Int)
def kdS : Kd → Str
  | .counter => "counter" | .pile => "pile" | .queue => "queue" | .table => "table"
def unKd (s : Str) : Option Kd := if s = "counter" then some .counter else if s = "pile" then some .pile else if s = "queue" then some .queue else if s = "table" then some .table else none
def stD : Sta → D
  | .num i => .int i | .seq l => .tup (l.map .int) | .tab l => .tup (l.map rowD)
def wiD : Wi → D
  | .add n => .tup [.str "add", .int n] | .lift n => .tup [.str "lift", .int n] | .read => .tup [.str "read"]
  | .put n => .tup [.str "put", .int n] | .take => .tup [.str "take"]
  | .set k n => .tup [.str "set", .str k, .int n] | .get k => .tup [.str "get", .str k] | .drop k => .tup [.str "drop", .str k]
def anD : An → D
  | .non => .non | .yes => .bl true | .num i => .int i
def oA : Option Int → An
  | none => .non | some i => .num i
def tyS : Kd → Sta → Prop
  | .counter, .num _ => True
  | .pile, .seq l => l.length < 1000000
  | .queue, .seq l => l.length < 1000000
  | .table, .tab l => tyT l ∧ l.length < 1000000
  | _, _ => False
def tyW : Kd → Wi → Prop
  | .counter, .add _ => True | .counter, .lift _ => True | .counter, .read => True
  | .pile, .put _ => True | .pile, .take => True | .queue, .put _ => True | .queue, .take => True
  | .table, .set _ _ => True | .table, .get _ => True | .table, .drop _ => True
  | _, _ => False
def stp : Kd → Sta → Wi → Sta × An
  | .counter, .num i, .add n => (.num (i + n), .num i)
  | .counter, .num i, .lift n => (.num (if n > i then n else i), .num i)
  | .counter, .num i, .read => (.num i, .num i)
  | .pile, .seq l, .put n => (.seq (l ++ [n]), .yes)
  | .pile, .seq l, .take => (.seq l.dropLast, oA l.getLast?)
  | .queue, .seq l, .put n => (.seq (l ++ [n]), .yes)
  | .queue, .seq l, .take => (.seq l.tail, oA l.head?)
  | .table, .tab l, .set k n => (.tab (srt (put l k n)), oA (lk l k))
  | .table, .tab l, .get k => (.tab (srt l), oA (lk l k))
  | .table, .tab l, .drop k => (.tab (srt (drp l k)), oA (lk l k))
  | _, s, _ => (s, .non)
theorem unKd_eq {s : Str} {k : Kd} (h : unKd s = some k) : s = kdS k := by
  unfold unKd at h
  split at h
  · cases h; assumption
  · split at h
    · cases h; assumption
    · split at h
      · cases h; assumption
      · split at h
        · cases h; assumption
        · cases h
@[simp] theorem unKd_s (k : Kd) : unKd (kdS k) = some k := by cases k <;> decide +kernel
def sz : Sta → Nat
  | .num _ => 0 | .seq l => l.length | .tab l => l.length
end WL
namespace WL
open PySem PySem.Spec PyProof.Rows L2 TL
end WL
namespace WL
open PySem PySem.Spec PyProof.Rows L2 TL
end WL
namespace WL
open PySem PySem.Spec PyProof.Rows L2 TL
def run (k : Kd) : Sta → List Wi → Sta × List An
  | s, [] => (s, [])
  | s, w :: ws => ((run k (stp k s w).1 ws).1, (stp k s w).2 :: (run k (stp k s w).1 ws).2)
end WL
namespace WL
open PySem PySem.Spec PyProof.Rows L2 TL
theorem abc_len : Str.length (Str.ofString "abcdefghijklmnopqrstuvwxyz") = 26 := by decide +kernel
theorem abc_cps : (Str.ofString "abcdefghijklmnopqrstuvwxyz").cps.toList = (List.range 26).map (97 + ·) := by decide +kernel
theorem abc_at {r : Int} (h0 : 0 ≤ r) (h1 : r < 26) : atI (Str.ofString "abcdefghijklmnopqrstuvwxyz").cps.toList r = some (97 + r.toNat) := by
  rw [abc_cps]
  obtain ⟨n, rfl⟩ : ∃ n : Nat, r = n := ⟨r.toNat, by omega⟩
  rw [TL.atI_nat, List.getElem?_map, List.getElem?_range (by omega)]
  rfl
end WL
namespace WL
open PySem PySem.Spec PyProof.Rows L2 TL
def isLt (x : Str) : Prop := ∀ c ∈ x.cps.toList, 97 ≤ c ∧ c < 123
def isNm (x : Str) : Prop := 1 ≤ x.length ∧ x.length ≤ 8 ∧ isLt x
end WL
namespace WL
open PySem PySem.Spec PyProof.Rows L2 TL
def smB (B : Int) (i : Int) : Prop := -B < i ∧ i < B
def smQ (B : Int) : Sta → Prop
  | .num i => smB B i
  | .seq l => ∀ x ∈ l, smB 1000 x
  | .tab l => ∀ p ∈ l, isNm p.1 ∧ smB 1000 p.2
theorem smB.le {A B i : Int} (h : smB A i) (e : A ≤ B) : smB B i := ⟨by have := h.1; omega, by have := h.2; omega⟩
end WL
namespace WL
open PySem PySem.Spec PyProof.Rows L2 TL
def owD : Option Wi → D
  | some w => wiD w
  | none => .non
def psD (ps : List Nat) : List D := ps.map fun (p : Nat) => D.int (p : Int)
def ins (f : Nat → Key) : List (List Nat) → Nat → List (List Nat)
  | [], p => [[p]]
  | lot :: r, p => if lot.head?.map f = some (f p) then (lot ++ [p]) :: r else lot :: ins f r p
inductive Gp where
  | one (p : Nat) | pair (p q : Nat) | lot (w : Str) (ps : List Nat)
end WL
namespace WL
open PySem PySem.Spec PyProof.Rows L2 TL
end WL
namespace WL
open PySem PySem.Spec PyProof.Rows L2 TL
end WL
namespace WL
open PySem PySem.Spec PyProof.Rows L2 TL
abbrev Mk := Nat × An
structure Sl where
  n : Nat
  w : Option Wi
  a : Option An
abbrev Bk := Sta × List Mk
inductive Kp where
  | no | rd (b : Bk) (seen : List Sl) | wk (b : Bk) (seen : List Sl) (new : List Nat)
inductive Md where
  | rest | look | tryy | take | opn | read | write | mark | tell | free | pass | give | fallen
  deriving DecidableEq
structure Hd where
  m : Md
  i : Nat
  k : Kp
  l : List Wi
inductive Hap where
  | beg (h : Nat) (w : Wi) | fin (h : Nat) (a : An)
structure Sit where
  lane : Option Nat
  book : Bk
  slots : List Sl
  hands : List Hd
  hist : List Hap
inductive Cl where
  | lane | book | slot (h : Nat)
def s0 : Sl := ⟨0, none, none⟩
def m0 : Mk := (0, .non)
def h0 : Hd := ⟨.rest, 0, .no, []⟩
def mkD (m : Mk) : D := .tup [.int (m.1 : Nat), anD m.2]
def asD : Option An → D
  | none => .tup []
  | some a => .tup [anD a]
def slD (s : Sl) : D := .tup [.int (s.n : Nat), owD s.w, asD s.a]
def bkD (b : Bk) : D := .tup [stD b.1, .tup (b.2.map mkD)]
def kpD : Kp → D
  | .no => .tup []
  | .rd b s => .tup [bkD b, .tup (s.map slD)]
  | .wk b s n => .tup [bkD b, .tup (s.map slD), .tup (psD n)]
def mdS : Md → Str
  | .rest => "rest" | .look => "look" | .tryy => "try" | .take => "take" | .opn => "open" | .read => "read" | .write => "write" | .mark => "mark" | .tell => "tell" | .free => "free" | .pass => "pass" | .give => "give" | .fallen => "fallen"
def hdD (h : Hd) : D := .tup [.str (mdS h.m), .int (h.i : Nat), kpD h.k, .tup (h.l.map wiD)]
def lnD : Option Nat → D
  | none => .non
  | some h => .int (h : Nat)
def hpD : Hap → D
  | .beg h w => .tup [.str "begin", .int (h : Nat), wiD w]
  | .fin h a => .tup [.str "end", .int (h : Nat), anD a]
def siD (S : Sit) : D := .tup [lnD S.lane, bkD S.book, .tup (S.slots.map slD), .tup (S.hands.map hdD), .tup (S.hist.map hpD)]
def slotAt (S : Sit) (h : Nat) : Sl := S.slots.getD h s0
def handAt (S : Sit) (h : Nat) : Hd := S.hands.getD h h0
def has (B : List Str) (s : Str) : Bool := decide (s ∈ B)
def untold (s : Sl) (m : Mk) : Bool := s.a.isNone && decide (0 < s.n) && decide (s.n = m.1)
def told (B : List Str) (b : Bk) (seen : List Sl) (new : List Nat) : List Nat :=
  let f := (List.range seen.length).filter fun h => untold (seen.getD h s0) (b.2.getD h m0)
  if has B "mute" then f.filter fun h => decide (h ∈ new) else f
def begS (k : Kd) (plans : List (List Wi)) : Sit := ⟨none, ((match k with | .counter => .num 0 | .table => .tab [] | _ => .seq []), plans.map fun _ => m0), plans.map fun _ => s0, plans.map fun l => ⟨.rest, 0, .no, l⟩, []⟩
def okSl (k : Kd) (N : Nat) (s : Sl) : Prop := s.n ≤ N ∧ (0 < s.n → ∃ w, s.w = some w ∧ tyW k w)
def okBk (k : Kd) (N n : Nat) (b : Bk) : Prop := tyS k b.1 ∧ sz b.1 ≤ N ∧ b.2.length = n
def okWk (k : Kd) (N n : Nat) (b : Bk) (seen : List Sl) (new : List Nat) : Prop := okBk k N n b ∧ seen.length = n ∧ (∀ s ∈ seen, okSl k N s) ∧ new.length ≤ n
def okHd (k : Kd) (B : List Str) (N n : Nat) (h : Hd) : Prop := (∀ w ∈ h.l, tyW k w) ∧ h.l.length ≤ 100 ∧ match h.m with
  | .read => ∃ b seen, h.k = .rd b seen ∧ okBk k N n b ∧ seen.length = h.i ∧ h.i < n ∧ ∀ s ∈ seen, okSl k N s
  | .write => ∃ b seen new, h.k = .wk b seen new ∧ okWk k N n b seen new ∧ new ≠ []
  | .mark => ∃ b seen new, h.k = .wk b seen new ∧ okWk k N n b seen new ∧ new ≠ [] ∧ has B "halved" = true
  | .tell => ∃ b seen new, h.k = .wk b seen new ∧ okWk k N n b seen new ∧ h.i ∈ told B b seen new
  | .pass => h.k = .no ∧ 1 ≤ h.i ∧ h.i < n
  | .give => h.k = .no ∧ h.i < n
  | _ => h.k = .no ∧ h.i = 0
structure okSi (k : Kd) (B : List Str) (N n : Nat) (S : Sit) : Prop where
  bk : okBk k N n S.book
  hn : S.hands.length = n
  sn : S.slots.length = n
  n0 : 0 < n
  n8 : n ≤ 8
  ln : ∀ h, S.lane = some h → h < n
  sl : ∀ s ∈ S.slots, okSl k N s
  hd : ∀ x ∈ S.hands, okHd k B N n x
  hs : S.hist.length ≤ N
end WL
namespace WL
open PySem PySem.Spec PyProof.Rows L2 TL
theorem okSl.le {k : Kd} {N M : Nat} {s : Sl} (h : okSl k N s) (e : N ≤ M) : okSl k M s := ⟨Nat.le_trans h.1 e, h.2⟩
theorem okBk.le {k : Kd} {N M n : Nat} {b : Bk} (h : okBk k N n b) (e : N ≤ M) : okBk k M n b := ⟨h.1, Nat.le_trans h.2.1 e, h.2.2⟩
theorem okWk.le {k : Kd} {N M n : Nat} {b : Bk} {seen : List Sl} {new : List Nat} (h : okWk k N n b seen new) (e : N ≤ M) : okWk k M n b seen new := ⟨h.1.le e, h.2.1, fun s hs => (h.2.2.1 s hs).le e, h.2.2.2⟩
theorem okHd.le {k : Kd} {B : List Str} {N M n : Nat} {x : Hd} (h : okHd k B N n x) (e : N ≤ M) : okHd k B M n x := by
  obtain ⟨h1, h2, h3⟩ := h
  refine ⟨h1, h2, ?_⟩
  obtain ⟨m, i, kp, l⟩ := x
  cases m <;> first | exact h3 | skip
  · obtain ⟨b, seen, a1, a2, a3, a4, a5⟩ := h3; exact ⟨b, seen, a1, a2.le e, a3, a4, fun s hs => (a5 s hs).le e⟩
  · obtain ⟨b, seen, new, a1, a2, a3⟩ := h3; exact ⟨b, seen, new, a1, a2.le e, a3⟩
  · obtain ⟨b, seen, new, a1, a2, a3⟩ := h3; exact ⟨b, seen, new, a1, a2.le e, a3⟩
  · obtain ⟨b, seen, new, a1, a2, a3⟩ := h3; exact ⟨b, seen, new, a1, a2.le e, a3⟩
theorem okSi.le {k : Kd} {B : List Str} {N M n : Nat} {S : Sit} (h : okSi k B N n S) (e : N ≤ M) : okSi k B M n S :=
  ⟨h.bk.le e, h.hn, h.sn, h.n0, h.n8, h.ln, fun s hs => (h.sl s hs).le e, fun x hx => (h.hd x hx).le e, Nat.le_trans h.hs e⟩
section
variable {k : Kd} {B : List Str} {N n : Nat} {S : Sit} {h : Nat}
theorem okSi.hand (ok : okSi k B N n S) (hh : h < n) : handAt S h ∈ S.hands ∧ S.hands[h]? = some (handAt S h) := by
  have hl : h < S.hands.length := by rw [ok.hn]; exact hh
  unfold handAt
  rw [List.getD_eq_getElem?_getD, List.getElem?_eq_getElem hl]
  exact ⟨List.getElem_mem hl, rfl⟩
theorem okSi.slot (ok : okSi k B N n S) (hh : h < n) : slotAt S h ∈ S.slots ∧ S.slots[h]? = some (slotAt S h) := by
  have hl : h < S.slots.length := by rw [ok.sn]; exact hh
  unfold slotAt
  rw [List.getD_eq_getElem?_getD, List.getElem?_eq_getElem hl]
  exact ⟨List.getElem_mem hl, rfl⟩
theorem okSi.set (ok : okSi k B N n S) {x : Hd} (hx : okHd k B N n x) : okSi k B N n { S with hands := S.hands.set h x } :=
  ⟨ok.bk, by show (S.hands.set h x).length = n; rw [List.length_set]; exact ok.hn, ok.sn, ok.n0, ok.n8, ok.ln, ok.sl, fun y hy => (List.mem_or_eq_of_mem_set hy).elim (ok.hd y) fun e => e ▸ hx, ok.hs⟩
theorem okSi.left (ok : okSi k B N n S) (hh : h < n) : (∀ w ∈ (handAt S h).l, tyW k w) ∧ (handAt S h).l.length ≤ 100 := by
  have := ok.hd _ (ok.hand hh).1
  exact ⟨this.1, this.2.1⟩
end
theorem beg_ok {k : Kd} {B : List Str} {plans : List (List Wi)} (hp : ∀ l ∈ plans, (∀ w ∈ l, tyW k w) ∧ l.length ≤ 100) (h0 : 0 < plans.length) (h8 : plans.length ≤ 8) : okSi k B 0 plans.length (begS k plans) where
  bk := by
    refine ⟨?_, ?_, by simp [begS]⟩
    · cases k with
      | counter => trivial
      | pile => show ([] : List Int).length < 1000000; decide
      | queue => show ([] : List Int).length < 1000000; decide
      | table => exact ⟨⟨List.nodup_nil, List.length_eq_zero_iff.mp (by rw [srt_len]; rfl)⟩, (by show ([] : List Row).length < 1000000; decide)⟩
    · cases k <;> exact Nat.le_refl _
  hn := by simp [begS]
  sn := by simp [begS]
  n0 := h0
  n8 := h8
  ln := fun h e => by cases e
  sl := fun s hs => by
    obtain ⟨l, _, rfl⟩ := List.mem_map.mp hs
    exact ⟨Nat.le_refl _, fun z => absurd z (by decide)⟩
  hd := fun x hx => by
    obtain ⟨l, hl, rfl⟩ := List.mem_map.mp hx
    exact ⟨(hp l hl).1, (hp l hl).2, rfl, rfl⟩
  hs := Nat.le_refl _
end WL
namespace WL
open PySem PySem.Spec PyProof.Rows L2 TL
theorem smQ.le {A B : Int} {s : Sta} (h : smQ A s) (e : A ≤ B) : smQ B s := by
  cases s with
  | num i => exact smB.le h e
  | seq l => exact h
  | tab l => exact h
end WL
namespace Lk26
open PySem PySem.Spec PyProof.Rows L2 TL WL
abbrev bxD (a b c : Int) : D := .lst [.int a, .int b, .int c]
def Bx (n : Int) (a b c : Int) : Prop := 0 ≤ a ∧ 0 ≤ b ∧ b < 4611686018427387904 ∧ 0 ≤ c ∧ c + n < 1000000000
abbrev kD' (k : Kd) : Val := fz (.str (kdS k))
abbrev nD (n : Nat) : Val := fz (.int (n : Int))
def plD (l : List Wi) : D := .lst (l.map wiD)
def seqD (o : Bool) (xs : List D) : D := if o then .lst xs else .tup xs
inductive asT : Nat → D → D → Prop
  | int {d i} : asT d (.int i) (.int i)
  | str {d s} : asT d (.str s) (.str s)
  | lst {d xs ys} : xs.length < 1000 → ys.length = xs.length → (∀ p ∈ xs.zip ys, asT d p.1 p.2) → asT (d + 1) (.lst xs) (.tup ys)
  | tup {d xs ys} : xs.length < 1000 → ys.length = xs.length → (∀ p ∈ xs.zip ys, asT d p.1 p.2) → asT (d + 1) (.tup xs) (.tup ys)
def smD : Nat → D → Prop
  | _, .non => True | _, .bl _ => True | _, .int _ => True | _, .str _ => True
  | d + 1, .lst xs => xs.length < 16777216 ∧ ∀ x ∈ xs, smD d x
  | d + 1, .tup xs => xs.length < 16777216 ∧ ∀ x ∈ xs, smD d x
  | _, _ => False
def hasMv (S : Sit) (h : Nat) : Bool := decide ((handAt S h).m ≠ .fallen) && (decide ((handAt S h).m ≠ .rest) || decide ((handAt S h).l ≠ []))
structure Rw where
  here : Sit
  step : Nat
  mv : Bool
def okPl (k : Kd) (plans : List (List Wi)) : Prop := (∀ l ∈ plans, (∀ w ∈ l, tyW k w) ∧ l.length ≤ 100) ∧ 0 < plans.length ∧ plans.length ≤ 8
def t_has_move : DSpec := fun args Q => ∃ S h, args = [fz (siD S), nD h] ∧ h < S.hands.length ∧ Q (fz (.bl (hasMv S h))) args
def t_movers : DSpec := fun args Q => ∃ S, args = [fz (siD S)] ∧ S.hands.length ≤ 8 ∧ Q ⟨true, .lst (psD ((List.range S.hands.length).filter (hasMv S)))⟩ args
def t__law_take : DSpec
  | [⟨true, .lst [.int a, .int b, .int c]⟩, ⟨false, .int m⟩], Q => (0 < m ∧ m < 1073741824) ∧ Bx 1 a b c ∧ ∀ r a' c', 0 ≤ r → r < m → Bx 0 a' b c' → c ≤ c' → c' ≤ c + 1 → Q (fz (.int r)) [⟨true, bxD a' b c'⟩, fz (.int m)]
  | _, _ => False
@[simp] theorem e__law_take (a b c m k_) : @opD t__law_take [⟨true, .lst [.int a, .int b, .int c]⟩, ⟨false, .int m⟩] k_ = ((fun Q : Val → List Val → Prop => (0 < m ∧ m < 1073741824) ∧ Bx 1 a b c ∧ ∀ r a' c', 0 ≤ r → r < m → Bx 0 a' b c' → c ≤ c' → c' ≤ c + 1 → Q (fz (.int r)) [⟨true, bxD a' b c'⟩, fz (.int m)]) fun v_ xs_ => k_.run (v_, xs_)) := (rfl)
def t_as_tuples : Nat → DSpec
  | 0 => fun _ _ => False
  | d + 1 => fun args Q => ∃ x y, args = [fz x] ∧ asT d x y ∧ Q (fz y) args
def t_begun : DSpec := fun args Q => ∃ k, args = [kD' k] ∧ Q (fz (stD (begS k []).book.1)) args
def t__law_same : Nat → DSpec
  | 0 => fun _ _ => False
  | d + 1 => fun args Q => ∃ x, args = [fz x, fz x] ∧ smD d x ∧ Q (fz (.bl true)) [fz x, fz x]
def t__law_number : DSpec
  | [⟨true, .lst [.int a, .int b, .int c]⟩], Q => Bx 5 a b c ∧ ∀ n a' c', -1000 < n → n < 1000 → Bx 0 a' b c' → c ≤ c' → c' ≤ c + 5 → Q (fz (.int n)) [⟨true, bxD a' b c'⟩]
  | _, _ => False
@[simp] theorem e__law_number (a b c k_) : @opD t__law_number [⟨true, .lst [.int a, .int b, .int c]⟩] k_ = ((fun Q : Val → List Val → Prop => Bx 5 a b c ∧ ∀ n a' c', -1000 < n → n < 1000 → Bx 0 a' b c' → c ≤ c' → c' ≤ c + 5 → Q (fz (.int n)) [⟨true, bxD a' b c'⟩]) fun v_ xs_ => k_.run (v_, xs_)) := (rfl)
def t__law_kind : DSpec
  | [⟨true, .lst [.int a, .int b, .int c]⟩], Q => Bx 1 a b c ∧ ∀ (k : Kd) (a' c' : Int), Bx 0 a' b c' → c ≤ c' → c' ≤ c + 1 → Q (kD' k) [⟨true, bxD a' b c'⟩]
  | _, _ => False
@[simp] theorem e__law_kind (a b c k_) : @opD t__law_kind [⟨true, .lst [.int a, .int b, .int c]⟩] k_ = ((fun Q : Val → List Val → Prop => Bx 1 a b c ∧ ∀ (k : Kd) (a' c' : Int), Bx 0 a' b c' → c ≤ c' → c' ≤ c + 1 → Q (kD' k) [⟨true, bxD a' b c'⟩]) fun v_ xs_ => k_.run (v_, xs_)) := (rfl)
def smW (w : Wi) : Prop := costD (wiD w) ≤ 400
def plE (o : Bool) (l : List Wi) : D := seqD o (l.map wiD)
def t_begun_with : DSpec := fun args Q => ∃ (k : Kd) (o : Bool) (plans : List (List Wi)), args = [kD' k, fz (seqD o (plans.map (plE o)))] ∧ okPl k plans ∧ Q (fz (siD (begS k plans))) args
def rdy (plans : List (List Wi)) : List Nat := (List.range plans.length).filter fun h => decide (plans.getD h [] ≠ [])
def t_at_work : DSpec := fun args Q => ∃ (k : Kd) (plans : List (List Wi)), args = [fz (siD (begS k plans))] ∧ plans.length ≤ 8 ∧ Q ⟨true, .lst []⟩ args
def t_is_finished : DSpec := fun args Q => ∃ (k : Kd) (plans : List (List Wi)), args = [fz (siD (begS k plans))] ∧ plans.length ≤ 8 ∧ Q (fz (.bl (decide (rdy plans = [])))) args
def t__law_keys : DSpec
  | [⟨true, .lst [.int a, .int b, .int c]⟩], Q => Bx 10 a b c ∧ ∀ ks : List Str, ∀ a' c', (ks.length = 3 ∧ ∀ s ∈ ks, s.length ≤ 20) → Bx 0 a' b c' → c ≤ c' → c' ≤ c + 10 → Q ⟨true, .lst (ks.map .str)⟩ [⟨true, bxD a' b c'⟩]
  | _, _ => False
@[simp] theorem e__law_keys (a b c k_) : @opD t__law_keys [⟨true, .lst [.int a, .int b, .int c]⟩] k_ = ((fun Q : Val → List Val → Prop => Bx 10 a b c ∧ ∀ ks : List Str, ∀ a' c', (ks.length = 3 ∧ ∀ s ∈ ks, s.length ≤ 20) → Bx 0 a' b c' → c ≤ c' → c' ≤ c + 10 → Q ⟨true, .lst (ks.map .str)⟩ [⟨true, bxD a' b c'⟩]) fun v_ xs_ => k_.run (v_, xs_)) := (rfl)
def t__law_wish : DSpec
  | [⟨true, .lst [.int a, .int b, .int c]⟩, ⟨false, .str s⟩, ⟨false, .lst ks⟩], Q => @onS _ (unKd s) ⟨fun k => @onS _ (unStrs ks) ⟨fun keys => (keys.length = 3 ∧ ∀ s ∈ keys, s.length ≤ 20) ∧ Bx 10 a b c ∧ ∀ w a' c', tyW k w ∧ smW w → Bx 0 a' b c' → c ≤ c' → c' ≤ c + 10 →
    Q (fz (wiD w)) [⟨true, bxD a' b c'⟩, fz (.str s), fz (.lst ks)]⟩⟩
  | _, _ => False
@[simp] theorem e__law_wish (a b c s ks k_) : @opD t__law_wish [⟨true, .lst [.int a, .int b, .int c]⟩, ⟨false, .str s⟩, ⟨false, .lst ks⟩] k_ = ((fun Q : Val → List Val → Prop => @onS _ (unKd s) ⟨fun k => @onS _ (unStrs ks) ⟨fun keys => (keys.length = 3 ∧ ∀ s ∈ keys, s.length ≤ 20) ∧ Bx 10 a b c ∧ ∀ w a' c', tyW k w ∧ smW w → Bx 0 a' b c' → c ≤ c' → c' ≤ c + 10 →
    Q (fz (wiD w)) [⟨true, bxD a' b c'⟩, fz (.str s), fz (.lst ks)]⟩⟩) fun v_ xs_ => k_.run (v_, xs_)) := (rfl)
def t__law_plans : DSpec
  | [⟨true, .lst [.int a, .int b, .int c]⟩, ⟨false, .str s⟩, ⟨false, .int h⟩, ⟨false, .int m⟩], Q => @onS _ (unKd s) ⟨fun k => (0 ≤ h ∧ h ≤ 8 ∧ 0 ≤ m ∧ m ≤ 10) ∧ Bx 1000 a b c ∧ ∀ (plans : List (List Wi)) a' c', (plans.length : Int) = h → (∀ l ∈ plans, (∀ w ∈ l, tyW k w ∧ smW w) ∧ l.length ≤ 10) → Bx 0 a' b c' → c ≤ c' → c' ≤ c + 1000 →
    Q ⟨true, .lst (plans.map plD)⟩ [⟨true, bxD a' b c'⟩, fz (.str s), fz (.int h), fz (.int m)]⟩
  | _, _ => False
@[simp] theorem e__law_plans (a b c s h m k_) : @opD t__law_plans [⟨true, .lst [.int a, .int b, .int c]⟩, ⟨false, .str s⟩, ⟨false, .int h⟩, ⟨false, .int m⟩] k_ = ((fun Q : Val → List Val → Prop => @onS _ (unKd s) ⟨fun k => (0 ≤ h ∧ h ≤ 8 ∧ 0 ≤ m ∧ m ≤ 10) ∧ Bx 1000 a b c ∧ ∀ (plans : List (List Wi)) a' c', (plans.length : Int) = h → (∀ l ∈ plans, (∀ w ∈ l, tyW k w ∧ smW w) ∧ l.length ≤ 10) → Bx 0 a' b c' → c ≤ c' → c' ≤ c + 1000 →
    Q ⟨true, .lst (plans.map plD)⟩ [⟨true, bxD a' b c'⟩, fz (.str s), fz (.int h), fz (.int m)]⟩) fun v_ xs_ => k_.run (v_, xs_)) := (rfl)
def t__law_right : DSpec
  | [⟨true, .lst [.int a, .int b, .int c]⟩], Q => Bx 20000 a b c ∧ ∀ a' c', Bx 0 a' b c' → c ≤ c' → c' ≤ c + 20000 → Q (fz (.bl true)) [⟨true, bxD a' b c'⟩]
  | _, _ => False
@[simp] theorem e__law_right (a b c k_) : @opD t__law_right [⟨true, .lst [.int a, .int b, .int c]⟩] k_ = ((fun Q : Val → List Val → Prop => Bx 20000 a b c ∧ ∀ a' c', Bx 0 a' b c' → c ≤ c' → c' ≤ c + 20000 → Q (fz (.bl true)) [⟨true, bxD a' b c'⟩]) fun v_ xs_ => k_.run (v_, xs_)) := (rfl)
def t__law_box : DSpec
  | [⟨false, .lst ds⟩, ⟨false, .int k⟩], Q => @onS _ (unInts ds) ⟨fun ns => (0 ≤ k ∧ k < ns.length ∧ k < 100) ∧ ∀ a b, 0 ≤ a → 0 ≤ b → b < 4611686018427387904 → Q ⟨true, bxD a b 0⟩ [fz (.lst ds), fz (.int k)]⟩
  | _, _ => False
@[simp] theorem e__law_box (ds k k_) : @opD t__law_box [⟨false, .lst ds⟩, ⟨false, .int k⟩] k_ = ((fun Q : Val → List Val → Prop => @onS _ (unInts ds) ⟨fun ns => (0 ≤ k ∧ k < ns.length ∧ k < 100) ∧ ∀ a b, 0 ≤ a → 0 ≤ b → b < 4611686018427387904 → Q ⟨true, bxD a b 0⟩ [fz (.lst ds), fz (.int k)]⟩) fun v_ xs_ => k_.run (v_, xs_)) := (rfl)
def t__law_cells : DSpec
  | [⟨false, .lst ds⟩, ⟨false, .int u⟩], Q => @onS _ (unInts ds) ⟨fun ns => ns.length ≤ 63 ∧ u = 4 ∧ ∀ (cs : List Int), cs.length ≤ 4 → Q ⟨true, .lst (cs.map D.int)⟩ [fz (.lst ds), fz (.int u)]⟩
  | _, _ => False
@[simp] theorem e__law_cells (ds u k_) : @opD t__law_cells [⟨false, .lst ds⟩, ⟨false, .int u⟩] k_ = ((fun Q : Val → List Val → Prop => @onS _ (unInts ds) ⟨fun ns => ns.length ≤ 63 ∧ u = 4 ∧ ∀ (cs : List Int), cs.length ≤ 4 → Q ⟨true, .lst (cs.map D.int)⟩ [fz (.lst ds), fz (.int u)]⟩) fun v_ xs_ => k_.run (v_, xs_)) := (rfl)
def t_law : DSpec := tLawD
end Lk26
namespace Lk26
open PySem PySem.Spec PyProof.Rows L2 TL
def G__law_same (d : Nat) : Gm := ⟨[⟨2, t__law_same d, "_law_same"⟩], cs, [], dsT⟩
def G_at_work : Gm := ⟨[⟨2, (t__law_same 12), "_law_same"⟩], cs, [], dsT⟩
def G_has_move : Gm := ⟨[⟨2, (t__law_same 12), "_law_same"⟩, ⟨1, t_at_work, "at_work"⟩], cs, [], dsT⟩
def G_movers : Gm := ⟨[⟨2, (t__law_same 12), "_law_same"⟩, ⟨1, t_at_work, "at_work"⟩, ⟨2, t_has_move, "has_move"⟩], cs, [], dsT⟩
def G_is_finished : Gm := ⟨[⟨2, (t__law_same 12), "_law_same"⟩, ⟨1, t_at_work, "at_work"⟩, ⟨2, t_has_move, "has_move"⟩, ⟨1, t_movers, "movers"⟩], cs, [], dsT⟩
def G_as_tuples (d : Nat) : Gm := ⟨[⟨2, (t__law_same 12), "_law_same"⟩, ⟨1, t_at_work, "at_work"⟩, ⟨2, t_has_move, "has_move"⟩, ⟨1, t_movers, "movers"⟩, ⟨1, t_is_finished, "is_finished"⟩, ⟨1, t_as_tuples d, "as_tuples"⟩], cs, [], dsT⟩
def G_begun : Gm := ⟨[⟨2, (t__law_same 12), "_law_same"⟩, ⟨1, t_at_work, "at_work"⟩, ⟨2, t_has_move, "has_move"⟩, ⟨1, t_movers, "movers"⟩, ⟨1, t_is_finished, "is_finished"⟩, ⟨1, (t_as_tuples 12), "as_tuples"⟩], cs, [], dsT⟩
def G_begun_with : Gm := ⟨[⟨2, (t__law_same 12), "_law_same"⟩, ⟨1, t_at_work, "at_work"⟩, ⟨2, t_has_move, "has_move"⟩, ⟨1, t_movers, "movers"⟩, ⟨1, t_is_finished, "is_finished"⟩, ⟨1, (t_as_tuples 12), "as_tuples"⟩, ⟨1, t_begun, "begun"⟩], cs, [], dsT⟩
def G__law_take : Gm := ⟨[⟨2, (t__law_same 12), "_law_same"⟩, ⟨1, t_at_work, "at_work"⟩, ⟨2, t_has_move, "has_move"⟩, ⟨1, t_movers, "movers"⟩, ⟨1, t_is_finished, "is_finished"⟩, ⟨1, (t_as_tuples 12), "as_tuples"⟩, ⟨1, t_begun, "begun"⟩, ⟨2, t_begun_with, "begun_with"⟩], cs, [], dsT⟩
def G__law_number : Gm := ⟨[⟨2, (t__law_same 12), "_law_same"⟩, ⟨1, t_at_work, "at_work"⟩, ⟨2, t_has_move, "has_move"⟩, ⟨1, t_movers, "movers"⟩, ⟨1, t_is_finished, "is_finished"⟩, ⟨1, (t_as_tuples 12), "as_tuples"⟩, ⟨1, t_begun, "begun"⟩, ⟨2, t_begun_with, "begun_with"⟩, ⟨2, t__law_take, "_law_take"⟩], cs, [], dsT⟩
def G__law_wish : Gm := ⟨[⟨2, (t__law_same 12), "_law_same"⟩, ⟨1, t_at_work, "at_work"⟩, ⟨2, t_has_move, "has_move"⟩, ⟨1, t_movers, "movers"⟩, ⟨1, t_is_finished, "is_finished"⟩, ⟨1, (t_as_tuples 12), "as_tuples"⟩, ⟨1, t_begun, "begun"⟩, ⟨2, t_begun_with, "begun_with"⟩, ⟨2, t__law_take, "_law_take"⟩, ⟨1, t__law_number, "_law_number"⟩], cs, [], dsT⟩
def G__law_keys : Gm := ⟨[⟨2, (t__law_same 12), "_law_same"⟩, ⟨1, t_at_work, "at_work"⟩, ⟨2, t_has_move, "has_move"⟩, ⟨1, t_movers, "movers"⟩, ⟨1, t_is_finished, "is_finished"⟩, ⟨1, (t_as_tuples 12), "as_tuples"⟩, ⟨1, t_begun, "begun"⟩, ⟨2, t_begun_with, "begun_with"⟩, ⟨2, t__law_take, "_law_take"⟩, ⟨1, t__law_number, "_law_number"⟩, ⟨3, t__law_wish, "_law_wish"⟩], cs, [], dsT⟩
def G__law_plans : Gm := ⟨[⟨2, (t__law_same 12), "_law_same"⟩, ⟨1, t_at_work, "at_work"⟩, ⟨2, t_has_move, "has_move"⟩, ⟨1, t_movers, "movers"⟩, ⟨1, t_is_finished, "is_finished"⟩, ⟨1, (t_as_tuples 12), "as_tuples"⟩, ⟨1, t_begun, "begun"⟩, ⟨2, t_begun_with, "begun_with"⟩, ⟨2, t__law_take, "_law_take"⟩, ⟨1, t__law_number, "_law_number"⟩, ⟨3, t__law_wish, "_law_wish"⟩, ⟨1, t__law_keys, "_law_keys"⟩], cs, [], dsT⟩
def G__law_kind : Gm := ⟨[⟨2, (t__law_same 12), "_law_same"⟩, ⟨1, t_at_work, "at_work"⟩, ⟨2, t_has_move, "has_move"⟩, ⟨1, t_movers, "movers"⟩, ⟨1, t_is_finished, "is_finished"⟩, ⟨1, (t_as_tuples 12), "as_tuples"⟩, ⟨1, t_begun, "begun"⟩, ⟨2, t_begun_with, "begun_with"⟩, ⟨2, t__law_take, "_law_take"⟩, ⟨1, t__law_number, "_law_number"⟩, ⟨3, t__law_wish, "_law_wish"⟩, ⟨1, t__law_keys, "_law_keys"⟩, ⟨4, t__law_plans, "_law_plans"⟩], cs, [], dsT⟩
def G__law_right : Gm := ⟨[⟨2, (t__law_same 12), "_law_same"⟩, ⟨1, t_at_work, "at_work"⟩, ⟨2, t_has_move, "has_move"⟩, ⟨1, t_movers, "movers"⟩, ⟨1, t_is_finished, "is_finished"⟩, ⟨1, (t_as_tuples 12), "as_tuples"⟩, ⟨1, t_begun, "begun"⟩, ⟨2, t_begun_with, "begun_with"⟩, ⟨2, t__law_take, "_law_take"⟩, ⟨1, t__law_number, "_law_number"⟩, ⟨3, t__law_wish, "_law_wish"⟩, ⟨1, t__law_keys, "_law_keys"⟩, ⟨4, t__law_plans, "_law_plans"⟩, ⟨1, t__law_kind, "_law_kind"⟩], cs, [], dsT⟩
def G__law_box : Gm := ⟨[⟨2, (t__law_same 12), "_law_same"⟩, ⟨1, t_at_work, "at_work"⟩, ⟨2, t_has_move, "has_move"⟩, ⟨1, t_movers, "movers"⟩, ⟨1, t_is_finished, "is_finished"⟩, ⟨1, (t_as_tuples 12), "as_tuples"⟩, ⟨1, t_begun, "begun"⟩, ⟨2, t_begun_with, "begun_with"⟩, ⟨2, t__law_take, "_law_take"⟩, ⟨1, t__law_number, "_law_number"⟩, ⟨3, t__law_wish, "_law_wish"⟩, ⟨1, t__law_keys, "_law_keys"⟩, ⟨4, t__law_plans, "_law_plans"⟩, ⟨1, t__law_kind, "_law_kind"⟩, ⟨1, t__law_right, "_law_right"⟩], cs, [], dsT⟩
def G__law_cells : Gm := ⟨[⟨2, (t__law_same 12), "_law_same"⟩, ⟨1, t_at_work, "at_work"⟩, ⟨2, t_has_move, "has_move"⟩, ⟨1, t_movers, "movers"⟩, ⟨1, t_is_finished, "is_finished"⟩, ⟨1, (t_as_tuples 12), "as_tuples"⟩, ⟨1, t_begun, "begun"⟩, ⟨2, t_begun_with, "begun_with"⟩, ⟨2, t__law_take, "_law_take"⟩, ⟨1, t__law_number, "_law_number"⟩, ⟨3, t__law_wish, "_law_wish"⟩, ⟨1, t__law_keys, "_law_keys"⟩, ⟨4, t__law_plans, "_law_plans"⟩, ⟨1, t__law_kind, "_law_kind"⟩, ⟨1, t__law_right, "_law_right"⟩, ⟨2, t__law_box, "_law_box"⟩], cs, [], dsT⟩
def G_law : Gm := ⟨[⟨2, (t__law_same 12), "_law_same"⟩, ⟨1, t_at_work, "at_work"⟩, ⟨2, t_has_move, "has_move"⟩, ⟨1, t_movers, "movers"⟩, ⟨1, t_is_finished, "is_finished"⟩, ⟨1, (t_as_tuples 12), "as_tuples"⟩, ⟨1, t_begun, "begun"⟩, ⟨2, t_begun_with, "begun_with"⟩, ⟨2, t__law_take, "_law_take"⟩, ⟨1, t__law_number, "_law_number"⟩, ⟨3, t__law_wish, "_law_wish"⟩, ⟨1, t__law_keys, "_law_keys"⟩, ⟨4, t__law_plans, "_law_plans"⟩, ⟨1, t__law_kind, "_law_kind"⟩, ⟨1, t__law_right, "_law_right"⟩, ⟨2, t__law_box, "_law_box"⟩, ⟨2, t__law_cells, "_law_cells"⟩], cs, [], dsT⟩
end Lk26
namespace Lk26
open PySem PySem.Spec PyProof.Rows L2 TL WL
theorem psD_cons (p : Nat) (r : List Nat) : psD (p :: r) = .int (p : Int) :: psD r := rfl
theorem lcK_fm {α : Type} {vs : List Nat} {g : WG} {tt : WT} {te : WE} {env : EnvD} {k : Kt (List D × EnvD)} (m : α → D) (f : α → Option D) (l : List α) (hl : l.length < 16777216)
    (step : ∀ x ∈ l, ∀ (C : List D → EnvD → Prop) (acc : List D), acc.length < 16777216 → C (acc ++ (f x).toList) env → g (fz (m x)) env fun e1 => tt e1 fun b e2 => if b then te e2 fun val e3 => acc.length < 16777216 ∧ C (acc ++ [val.d]) (wipeD e3 vs) else C acc (wipeD e2 vs))
    (q : k.run (l.filterMap f, env)) : @lcK vs g tt te (l.map m) [] env k := by
  refine lcK_ind (fun ds2 acc e => ∃ dn td, l = dn ++ td ∧ ds2 = td.map m ∧ acc = dn.filterMap f ∧ e = env) ?_ ?_ _ _ _ ⟨[], l, rfl, rfl, rfl, rfl⟩
  · rintro d ds2 acc e ⟨dn, td, h, hd, rfl, rfl⟩ K hK
    cases td with
    | nil => cases hd
    | cons x td =>
      rw [List.map_cons] at hd
      cases hd
      have h2 := congrArg List.length h
      simp only [List.length_append, List.length_cons] at h2
      have h3 := List.length_filterMap_le f dn
      refine step x (by rw [h]; simp) _ _ (by omega) (hK _ _ ⟨dn ++ [x], td, by rw [h]; simp, rfl, ?_, rfl⟩)
      rw [List.filterMap_append]
      cases hf : f x <;> simp [hf]
  · rintro acc e ⟨dn, td, h, hd, rfl, rfl⟩
    cases td with
    | cons x td => cases hd
    | nil =>
      rw [List.append_nil] at h
      subst h
      exact q
theorem lcK_ps {vs : List Nat} {g : WG} {tt : WT} {te : WE} {env : EnvD} {k : Kt (List D × EnvD)} (f : Nat → Option D) (l : List Nat) (hl : l.length < 16777216)
    (step : ∀ (x : Nat), x ∈ l → ∀ (C : List D → EnvD → Prop) (acc : List D), acc.length < 16777216 → C (acc ++ (f x).toList) env → g (fz (.int (x : Nat))) env fun e1 => tt e1 fun b e2 => if b then te e2 fun val e3 => acc.length < 16777216 ∧ C (acc ++ [val.d]) (wipeD e3 vs) else C acc (wipeD e2 vs))
    (q : k.run (l.filterMap f, env)) : @lcK vs g tt te (psD l) [] env k := lcK_fm (fun (p : Nat) => D.int (p : Int)) f l hl step q
theorem fm_filter {α : Type} (c : α → Bool) (f : α → D) : ∀ l : List α, l.filterMap (fun x => if c x then some (f x) else none) = (l.filter c).map f
  | [] => rfl
  | x :: l => by
    rw [List.filterMap_cons, List.filter_cons]
    cases h : c x <;> simp [h, fm_filter c f l]
theorem fm_ps (c : Nat → Bool) (l : List Nat) : l.filterMap (fun p => if c p then some (D.int (p : Nat)) else none) = psD (l.filter c) := fm_filter c _ l
theorem fm_some {α β : Type} (f : α → β) (l : List α) : l.filterMap (fun x => some (f x)) = l.map f := by simp
theorem rng_psD (n : Nat) : rngD 0 n = psD (List.range n) := by
  unfold rngD psD
  refine List.map_congr_left fun i _ => ?_
  simp
end Lk26
namespace Lk26
open PySem PySem.Spec PyProof.Rows L2 TL WL
end Lk26
namespace Lk26
open PySem PySem.Spec PyProof.Rows L2 TL WL
end Lk26
namespace Lk26
open PySem PySem.Spec PyProof.Rows L2 TL WL
theorem f_has_move : ∀ args Q, t_has_move args Q → ∃ ds : List D, args = ds.map fz := by
  rintro args Q ⟨_, _, rfl, _⟩
  exact ⟨[_, _], rfl⟩
theorem f_movers : ∀ args Q, t_movers args Q → ∃ ds : List D, args = ds.map fz := by
  rintro args Q ⟨_, rfl, _⟩
  exact ⟨[_], rfl⟩
theorem f_begun : ∀ args Q, t_begun args Q → ∃ ds : List D, args = ds.map fz := by
  rintro args Q ⟨_, rfl, _⟩
  exact ⟨[_], rfl⟩
theorem f_begun_with : ∀ args Q, t_begun_with args Q → ∃ ds : List D, args = ds.map fz := by
  rintro args Q ⟨_, _, _, rfl, _⟩
  exact ⟨[_, _], rfl⟩
theorem hand_at {S : Sit} {h : Nat} (hh : h < S.hands.length) : (S.hands.map hdD)[h]? = some (hdD (handAt S h)) := by
  rw [List.getElem?_map, List.getElem?_eq_getElem hh]
  unfold handAt
  rw [List.getD_eq_getElem?_getD, List.getElem?_eq_getElem hh]
  rfl
theorem mdS_inj {a b : Md} : mdS a = mdS b ↔ a = b := ⟨fun h => by cases a <;> cases b <;> first | rfl | exact absurd h (by decide +kernel), fun h => by rw [h]⟩
theorem pure_wi (w : Wi) : pure' (wiD w) = true := by cases w <;> rfl
theorem pures_wi : ∀ l : List Wi, pures (l.map wiD) = true
  | [] => rfl
  | w :: l => by rw [List.map_cons, x_pus1, pure_wi, pures_wi l]; rfl
theorem w_has_move : ∀ args Q, t_has_move args Q → args.length = 2 → wSs G_has_move b_has_move (env0 B_has_move.N args) (endB args Q) := by
  rintro _ Q ⟨S, h, rfl, hh, q⟩ _
  have e := hand_at hh
  unfold hasMv at q
  simp [b_has_move, B_has_move, N_has_move, G_has_move, cs, siD, e, -List.getElem?_map]
  simp [hdD]
  generalize handAt S h = x at q ⊢
  by_cases h1 : x.m = .fallen
  · simp [h1, mdS, siD] at q ⊢
    exact q
  · have h1' : ¬ mdS x.m = "fallen" := fun z => h1 (mdS_inj.mp z)
    simp [h1, h1'] at q ⊢
    by_cases h2 : x.m = .rest
    · simp [h2, mdS] at q ⊢
      have pw := pures_wi x.l
      cases e : x.l <;> rw [e] at pw <;> simp at pw <;> simpa [e, siD, pw] using q
    · have h2' : ¬ mdS x.m = "rest" := fun z => h2 (mdS_inj.mp z)
      have h3 : (mdS x.m == ("rest" : Str)) = false := beq_false_of_ne h2'
      simp [h2, h2', h3] at q ⊢
      try rw [h3]
      simpa [siD] using q
theorem lc_ps {vs : List Nat} {g : WG} {tt : WT} {te : WE} {env : EnvD} {k : Kt (List D × EnvD)} (c : Nat → Bool) (l : List Nat) (hl : l.length < 16777216)
    (step : ∀ (x : Nat), x ∈ l → ∀ (C : List D → EnvD → Prop) (acc : List D), acc.length < 16777216 → C (acc ++ (if c x then [.int (x : Nat)] else [])) env → g (fz (.int (x : Nat))) env fun e1 => tt e1 fun b e2 => if b then te e2 fun val e3 => acc.length < 16777216 ∧ C (acc ++ [val.d]) (wipeD e3 vs) else C acc (wipeD e2 vs))
    (q : k.run (psD (l.filter c), env)) : @lcK vs g tt te (psD l) [] env k := by
  refine lcK_ps (fun x => if c x then some (.int (x : Nat)) else none) l hl (fun x hx C acc ha hC => step x hx C acc ha ?_) ?_
  · by_cases h : c x <;> simpa [h] using hC
  · rwa [fm_ps]
theorem w_movers : ∀ args Q, t_movers args Q → args.length = 1 → wSs G_movers b_movers (env0 B_movers.N args) (endB args Q) := by
  rintro _ Q ⟨S, rfl, hl, q⟩ _
  simp [b_movers, B_movers, N_movers, G_movers, cs, siD]
  refine ⟨by omega, ?_⟩
  rw [rng_psD]
  refine lc_ps (hasMv S) _ (by simp; omega) (fun x hx C acc ha hC => ?_) ?_
  · have hx := List.mem_range.mp hx
    simp
    refine ⟨S, x, rfl, hx, ?_⟩
    simp
    cases e : hasMv S x
    · simpa [e] using hC
    · simp [e] at hC
      simp
      exact ⟨ha, hC⟩
  · simp
    exact q
end Lk26
namespace Lk26
open PySem PySem.Spec PyProof.Rows L2 TL WL
theorem pures_ps : ∀ l : List Nat, pures (psD l) = true
  | [] => rfl
  | p :: l => by rw [psD_cons, x_pus1, pures_ps l]; rfl
theorem eqDs_ps (l : List Nat) : eqDs (psD l) [] = decide (l = []) := by cases l <;> simp [psD]
end Lk26
namespace Lk26
open PySem PySem.Spec PyProof.Rows L2 TL WL
end Lk26
namespace Lk26
open PySem PySem.Spec PyProof.Rows L2 TL WL
end Lk26
namespace Lk26
open PySem PySem.Spec PyProof.Rows L2 TL WL
end Lk26
namespace Lk26
open PySem PySem.Spec PyProof.Rows L2 TL WL
end Lk26
namespace Lk26
open PySem PySem.Spec PyProof.Rows L2 TL WL
theorem w_begun : ∀ args Q, t_begun args Q → args.length = 1 → wSs G_begun b_begun (env0 B_begun.N args) (endB args Q) := by
  rintro _ Q ⟨k, rfl, q⟩ _
  cases k <;> simp [b_begun, B_begun, N_begun, G_begun, cs, kdS, Str_inj] <;> exact q
theorem f_as_tuples (d : Nat) : ∀ args Q, t_as_tuples (d + 1) args Q → ∃ ds : List D, args = ds.map fz := by
  rintro _ Q ⟨x, y, rfl, _⟩
  exact ⟨[_], rfl⟩
theorem as_lc {d : Nat} {xs ys : List D} {g : Gm} {e0 : Option Val} {k : Kt (List D × EnvD)} (hl : xs.length < 1000) (he : ys.length = xs.length) (hx : ∀ p ∈ xs.zip ys, asT d p.1 p.2) (hg : g.fs[5]? = some ⟨1, t_as_tuples (d + 1), "as_tuples"⟩) (hk : k.run (ys, [e0, none])) :
    @lcK [1] (gwName 1) wYes (wM g (M.call 5 (As.fro (M.var 1) As.nil))) xs [] [e0, none] k := by
  have e1 : xs = (xs.zip ys).map Prod.fst := (List.map_fst_zip (by omega)).symm
  have e2 : (xs.zip ys).filterMap (fun p => some p.2) = ys := by rw [fm_some]; exact List.map_snd_zip (by omega)
  rw [show @lcK [1] (gwName 1) wYes (wM g (M.call 5 (As.fro (M.var 1) As.nil))) xs [] [e0, none] k = @lcK [1] (gwName 1) wYes (wM g (M.call 5 (As.fro (M.var 1) As.nil))) ((xs.zip ys).map Prod.fst) [] [e0, none] k by rw [← e1]]
  refine lcK_fm Prod.fst (fun p => some p.2) (xs.zip ys) (by rw [List.length_zip]; omega) (fun p hp C acc ha hC => ?_) (by rw [e2]; exact hk)
  simp [hg]
  refine ⟨p.1, p.2, rfl, hx p hp, ?_⟩
  simp
  exact ⟨ha, by simpa using hC⟩
theorem w_as_tuples (d : Nat) : ∀ args Q, t_as_tuples (d + 1) args Q → args.length = 1 → wSs (G_as_tuples d) b_as_tuples (env0 B_as_tuples.N args) (endB args Q) := by
  rintro _ Q ⟨x, y, rfl, h, q⟩ _
  cases h with
  | int => simp [b_as_tuples, B_as_tuples, N_as_tuples, G_as_tuples, cs]; exact q
  | str => simp [b_as_tuples, B_as_tuples, N_as_tuples, G_as_tuples, cs]; exact q
  | @lst d xs ys hl he hx =>
    simp [b_as_tuples, B_as_tuples, N_as_tuples, G_as_tuples, cs]
    refine as_lc hl he hx rfl ?_
    simp
    exact q
  | @tup d xs ys hl he hx =>
    simp [b_as_tuples, B_as_tuples, N_as_tuples, G_as_tuples, cs]
    refine as_lc hl he hx rfl ?_
    simp
    exact q
theorem asT_wi (d : Nat) (w : Wi) : asT (d + 1) (wiD w) (wiD w) := by
  cases w
  all_goals
    refine .tup (by simp) rfl fun p hp => ?_
    simp at hp
    first
      | (rcases hp with rfl | rfl | rfl <;> first | exact .str | exact .int)
      | (rcases hp with rfl | rfl <;> first | exact .str | exact .int)
      | (rcases hp with rfl; first | exact .str | exact .int)
theorem asT_pl (d : Nat) {l : List Wi} (h : l.length ≤ 100) : asT (d + 2) (plD l) (.tup (l.map wiD)) := by
  refine .lst (by simp; omega) rfl fun p hp => ?_
  rw [List.zip_map'] at hp
  obtain ⟨w, hw, rfl⟩ := List.mem_map.mp hp
  exact asT_wi d w
theorem rep1 (x : D) : ∀ n : Nat, (List.replicate n [x]).flatten = List.replicate n x
  | 0 => rfl
  | n + 1 => by rw [List.replicate_succ, List.flatten_cons, rep1 x n, List.replicate_succ]; rfl
theorem mapc {α β γ : Type} (f : α → β) (c : α) : ∀ l : List γ, (l.map fun _ => c).map f = List.replicate l.length (f c)
  | [] => rfl
  | x :: l => by rw [List.map_cons, List.map_cons, mapc f c l, List.length_cons, List.replicate_succ]
theorem asT_pt (d : Nat) {l : List Wi} (h : l.length ≤ 100) : asT (d + 2) (.tup (l.map wiD)) (.tup (l.map wiD)) := by
  refine .tup (by simp; omega) rfl fun p hp => ?_
  rw [List.zip_map'] at hp
  obtain ⟨w, hw, rfl⟩ := List.mem_map.mp hp
  exact asT_wi d w
theorem w_begun_with : ∀ args Q, t_begun_with args Q → args.length = 2 → wSs G_begun_with b_begun_with (env0 B_begun_with.N args) (endB args Q) := by
  rintro _ Q ⟨k, o, plans, rfl, ⟨hp, p0, p8⟩, q⟩ _
  cases o
  all_goals
    simp [b_begun_with, B_begun_with, N_begun_with, G_begun_with, cs, seqD]
    refine ⟨k, rfl, ?_⟩
    simp [rep1]
    refine ⟨⟨by omega, by omega⟩, ?_⟩
    refine lcK_fm (plE _) (fun l => some (hdD ⟨.rest, 0, .no, l⟩)) plans (by omega) (fun l hl C acc ha hC => ?_) ?_
    · simp
      refine ⟨_, _, rfl, (by first | exact asT_pl _ (hp l hl).2 | exact asT_pt _ (hp l hl).2), ?_⟩
      simp
      exact ⟨ha, by simpa [hdD, kpD, mdS] using hC⟩
    · rw [fm_some]
      simp [rep1]
      refine ⟨⟨by omega, by omega⟩, ?_⟩
      have q := q
      simp only [seqD] at q
      refine Eq.mp (congrArg (fun x => Q (fz x) _) ?_) q
      show D.tup [D.non, D.tup [stD _, D.tup ((plans.map fun _ => m0).map mkD)], D.tup ((plans.map fun _ => s0).map slD), D.tup ((plans.map fun l => (⟨.rest, 0, .no, l⟩ : Hd)).map hdD), D.tup []] = _
      rw [mapc, mapc, List.map_map]
      rfl
end Lk26
namespace Lk26
open PySem PySem.Spec PyProof.Rows L2 TL WL
end Lk26
namespace Lk26
open PySem PySem.Spec PyProof.Rows L2 TL WL
theorem Bx.le {n m a b c : Int} (h : Bx n a b c) (hm : m ≤ n) : Bx m a b c := ⟨h.1, h.2.1, h.2.2.1, h.2.2.2.1, by have := h.2.2.2.2; omega⟩
theorem Bx.up {n m a b c a' c' : Int} (h : Bx n a b c) (h' : Bx 0 a' b c') (hc : c' + m ≤ c + n) : Bx m a' b c' := ⟨h'.1, h.2.1, h.2.2.1, h'.2.2.2.1, by have := h.2.2.2.2; omega⟩
theorem w__law_take : ∀ args Q, t__law_take args Q → args.length = 2 → wSs G__law_take b__law_take (env0 B__law_take.N args) (endA 2 Q) := by
  intro args Q h hargs
  unfold t__law_take at h
  split at h
  · rename_i a b c m
    obtain ⟨hm, ⟨a0, b0, b1, c0, c1⟩, q⟩ := h
    have e1 : ∀ a : Int, 0 ≤ a % m := fun a => Int.emod_nonneg _ (by omega)
    have e2 : ∀ a : Int, a % m < m := fun a => Int.emod_lt_of_pos _ hm.1
    simp [b__law_take, B__law_take, N__law_take, G__law_take]
    split
    · rename_i ha
      refine ⟨hm.1, ⟨hm.1, by omega⟩, q _ _ _ (e1 _) (e2 _) ⟨Int.ediv_nonneg a0 (by omega), b0, b1, c0, by omega⟩ (by omega) (by omega)⟩
    · have d1 := Int.emod_nonneg (b + 1442695040888963407 * (c + 1)) (b := 2305843009213693951) (by decide)
      have d2 := Int.emod_lt_of_pos (b + 1442695040888963407 * (c + 1)) (b := 2305843009213693951) (by decide)
      generalize (b + 1442695040888963407 * (c + 1)) % 2305843009213693951 = o at d1 d2 ⊢
      have f1 := Int.emod_nonneg (o * o + 39373 * (c + 1) + 7) (b := 2305843009213693921) (by decide)
      have f2 := Int.emod_lt_of_pos (o * o + 39373 * (c + 1) + 7) (b := 2305843009213693921) (by decide)
      generalize (o * o + 39373 * (c + 1) + 7) % 2305843009213693921 = t at f1 f2 ⊢
      refine ⟨by omega, .inl (by omega), hm.1, q _ _ _ (e1 _) (e2 _) ⟨a0, b0, b1, by omega, by omega⟩ (by omega) (by omega)⟩
  · exact h.elim
theorem f__law_box : ∀ args Q, t__law_box args Q → ∃ ds : List D, args = ds.map fz := by
  intro args Q h
  unfold t__law_box at h
  split at h
  · exact ⟨[_, _], rfl⟩
  · exact h.elim
theorem w__law_box : ∀ args Q, t__law_box args Q → args.length = 2 → wSs G__law_box b__law_box (env0 B__law_box.N args) (endB args Q) := by
  intro args Q h hargs
  unfold t__law_box at h
  split at h
  · obtain ⟨ns, e, ⟨k0, k1, k2⟩, q⟩ := onS_el h
    rename_i ds k
    obtain rfl := unInts_eq e
    clear h e
    have fin : ∀ c b : Int, 0 ≤ c → (b = 0 ∨ b = 1) → ∀ d : Int, Q ⟨true, bxD (c * b) (d % 2305843009213693951 + 15485863 * k + 11) 0⟩ [fz (.lst (ns.map .int)), fz (.int k)] := by
      intro c b hc hb d
      have d1 := Int.emod_nonneg d (b := 2305843009213693951) (by decide)
      have d2 := Int.emod_lt_of_pos d (b := 2305843009213693951) (by decide)
      refine q _ _ ?_ (by omega) (by omega)
      rcases hb with rfl | rfl <;> omega
    obtain ⟨d, hd⟩ := atI_ints (ns := ns) k0 k1
    simp [b__law_box, B__law_box, N__law_box, G__law_box, cs, hd]
    refine ⟨.inr ?_, ?_⟩
    · split <;> omega
    · exact fin _ _ (by split <;> omega) (by (repeat' split) <;> simp) d
  · exact h.elim
theorem f__law_cells : ∀ args Q, t__law_cells args Q → ∃ ds : List D, args = ds.map fz := by
  intro args Q h
  unfold t__law_cells at h
  split at h
  · exact ⟨[_, _], rfl⟩
  · exact h.elim
theorem w__law_cells : ∀ args Q, t__law_cells args Q → args.length = 2 → wSs G__law_cells b__law_cells (env0 B__law_cells.N args) (endB args Q) := by
  intro args Q h hargs
  unfold t__law_cells at h
  split at h
  · rename_i u
    obtain ⟨ns, e, hn, rfl, q⟩ := onS_el h
    obtain rfl := unInts_eq e
    clear h
    simp [b__law_cells, B__law_cells, N__law_cells, G__law_cells, cut_map, cut_to (xs := ns) (u := 4) (by omega)]
    split <;> rename_i hb <;> refine forK_ind (fun ds env => (∀ d ∈ ds, ∃ (i : Nat) (c : Int), d = .lse [.int i, .int c] ∧ i < 100) ∧
        ∃ (cs : List Int) (o3 o4 : Option Val), env = [some ⟨false, .lst (ns.map D.int)⟩, some (fz (.int 4)), some ⟨true, .lst (cs.map D.int)⟩, o3, o4] ∧ cs.length ≤ 4 ∧ (ds ≠ [] → cs.length = 4)) ?_ ?_ _ _ ?_
    case' isTrue.refine_2 | isFalse.refine_2 =>
      rintro env ⟨_, cs, o3, o4, rfl, hcs, _⟩
      simp
      exact q cs hcs
    case' isTrue.refine_1 | isFalse.refine_1 =>
      rintro d ds env ⟨hd, cs, o3, o4, rfl, hcs, hcu⟩ K hK
      obtain ⟨i, c, rfl, hi⟩ := hd _ List.mem_cons_self
      have hcu := hcu (by simp)
      have r0 : 0 ≤ (i : Int) % 4 := Int.emod_nonneg _ (by omega)
      have r1 : (i : Int) % 4 < 4 := Int.emod_lt_of_pos _ (by omega)
      obtain ⟨c', hc'⟩ := atI_ints (ns := cs) r0 (by omega)
      have ix : ixN cs.length ((i : Int) % 4) = some ((i : Int) % 4).toNat := ixN_lt r0 (by omega)
      simp [hc', ix]
      refine ⟨.inr (by omega), hK _ ⟨fun d h => hd d (List.mem_cons_of_mem _ h), cs.set ((i : Int) % 4).toNat (c' + c * (i + 2)), _, _, by rw [List.map_set], by simpa using hcs, fun _ => by simpa using hcu⟩⟩
    all_goals
      refine ⟨fun d hd => ?_, ?_⟩
      · obtain ⟨i, c, rfl, hi⟩ := enum_ints d hd
        have := cut_len ns (some 4) (some 63)
        exact ⟨i, c, rfl, by omega⟩
    · refine ⟨[0], none, none, rfl, by simp, fun hne => ?_⟩
      exfalso
      apply hne
      have : ns = [] := by simpa using hb
      subst this
      rw [cut_from [] (by omega) (by omega) (by simp)]
      rfl
    · refine ⟨ns.take 4, none, none, by rw [List.map_take], by rw [List.length_take]; omega, fun hne => ?_⟩
      rw [List.length_take]
      by_cases hlt : 4 < ns.length
      · omega
      · exfalso
        apply hne
        rw [cut_from ns (by omega) (by omega) (by omega)]
        rfl
  · exact h.elim
theorem join_len (a : Str) : ∀ ss : List Str, (Str.join a ss).length ≤ (ss.map (·.length)).sum + ss.length * a.length
  | [] => Nat.zero_le _
  | [x] => by
    show x.length ≤ _
    simp
  | x :: y :: r => by
    have ih := join_len a (y :: r)
    have e : (Str.join a (x :: y :: r)).length = x.length + a.length + (Str.join a (y :: r)).length := by
      show ((x ++ a) ++ Str.join a (y :: r)).cps.size = _
      show ((x.cps ++ a.cps) ++ (Str.join a (y :: r)).cps).size = _
      rw [Array.size_append, Array.size_append]; rfl
    rw [e, List.map_cons, List.sum_cons, List.length_cons, Nat.succ_mul]
    omega
theorem w__law_kind : ∀ args Q, t__law_kind args Q → args.length = 1 → wSs G__law_kind b__law_kind (env0 B__law_kind.N args) (endA 1 Q) := by
  intro args Q h hargs
  unfold t__law_kind at h
  split at h
  · obtain ⟨hb, q⟩ := h
    rename_i a b c
    simp [b__law_kind, B__law_kind, N__law_kind, G__law_kind, cs]
    refine ⟨hb.le (by omega), fun r a1 c1 r0 r1 h1 x1 y1 => ?_⟩
    obtain rfl | rfl | rfl | rfl : r = 0 ∨ r = 1 ∨ r = 2 ∨ r = 3 := by omega
    all_goals simp
    · exact q .counter _ _ h1 (by omega) (by omega)
    · exact q .pile _ _ h1 (by omega) (by omega)
    · exact q .queue _ _ h1 (by omega) (by omega)
    · exact q .table _ _ h1 (by omega) (by omega)
  · exact h.elim
theorem w__law_number : ∀ args Q, t__law_number args Q → args.length = 1 → wSs G__law_number b__law_number (env0 B__law_number.N args) (endA 1 Q) := by
  intro args Q h hargs
  unfold t__law_number at h
  split at h
  · obtain ⟨hb, q⟩ := h
    rename_i a b c
    simp [b__law_number, B__law_number, N__law_number, G__law_number]
    refine ⟨hb.le (by omega), fun r1 a1 c1 r10 r11 h1 x1 y1 => ?_⟩
    split
    · refine ⟨hb.up h1 (by omega), fun r2 a2 c2 r20 r21 h2 x2 y2 => ?_⟩
      exact q _ _ _ (by omega) (by omega) h2 (by omega) (by omega)
    · refine ⟨hb.up h1 (by omega), fun r2 a2 c2 r20 r21 h2 x2 y2 => ?_⟩
      exact q _ _ _ (by omega) (by omega) h2 (by omega) (by omega)
  · exact h.elim
theorem len_app1 (s : Str) (c : Nat) : (s ++ (⟨#[c]⟩ : Str)).length = s.length + 1 := by
  show (s.cps ++ #[c]).size = _
  rw [Array.size_append]; rfl
theorem cost_sn {n : Int} (h0 : -1000 < n) (h1 : n < 1000) : costD (.int n) = 31 := if_pos (by omega)
theorem sm_num_add {n : Int} (h0 : -1000 < n) (h1 : n < 1000) : smW (.add n) := by
  show costD (.str "add") + 2 + (costD (.int n) + 2 + 0) + 3 ≤ 400
  rw [cost_sn h0 h1]; decide +kernel
theorem sm_num_lift {n : Int} (h0 : -1000 < n) (h1 : n < 1000) : smW (.lift n) := by
  show costD (.str "lift") + 2 + (costD (.int n) + 2 + 0) + 3 ≤ 400
  rw [cost_sn h0 h1]; decide +kernel
theorem sm_num_put {n : Int} (h0 : -1000 < n) (h1 : n < 1000) : smW (.put n) := by
  show costD (.str "put") + 2 + (costD (.int n) + 2 + 0) + 3 ≤ 400
  rw [cost_sn h0 h1]; decide +kernel
theorem sm_set {key : Str} {n : Int} (hk : key.length ≤ 20) (h0 : -1000 < n) (h1 : n < 1000) : smW (.set key n) := by
  show costD (.str "set") + 2 + ((10 * key.length + 2) + 2 + (costD (.int n) + 2 + 0)) + 3 ≤ 400
  rw [cost_sn h0 h1]
  have : costD (.str "set") = 32 := by decide +kernel
  omega
theorem sm_get {key : Str} (hk : key.length ≤ 20) : smW (.get key) := by
  show costD (.str "get") + 2 + ((10 * key.length + 2) + 2 + 0) + 3 ≤ 400
  have : costD (.str "get") = 32 := by decide +kernel
  omega
theorem sm_drop {key : Str} (hk : key.length ≤ 20) : smW (.drop key) := by
  show costD (.str "drop") + 2 + ((10 * key.length + 2) + 2 + 0) + 3 ≤ 400
  have : costD (.str "drop") = 42 := by decide +kernel
  omega
theorem w__law_wish : ∀ args Q, t__law_wish args Q → args.length = 3 → wSs G__law_wish b__law_wish (env0 B__law_wish.N args) (endA 3 Q) := by
  intro args Q h hargs
  unfold t__law_wish at h
  split at h
  · obtain ⟨k, e1, h⟩ := onS_el h
    obtain ⟨keys, e2, ⟨hl, hks⟩, hb, q⟩ := onS_el h
    rename_i a b c s ks h0
    obtain rfl := unKd_eq e1
    obtain rfl := unStrs_eq e2
    clear h e1 e2
    simp [b__law_wish, B__law_wish, N__law_wish, G__law_wish, cs]
    refine ⟨hb.le (by omega), fun n a1 c1 n0 n1 h1 x1 y1 => ⟨hb.up h1 (by omega), fun r a2 c2 r0 r1 h2 x2 y2 => ⟨hb.up h2 (by omega), fun r3 a3 c3 r30 r31 h3 x3 y3 => ?_⟩⟩⟩
    obtain ⟨m, rfl⟩ : ∃ m : Nat, r3 = m := ⟨r3.toNat, by omega⟩
    have hm : m < keys.length := by omega
    simp [hm]
    have kl : (keys[m]).length ≤ 20 := hks _ (List.getElem_mem _)
    generalize keys[m] = key at kl ⊢
    cases k
    · simp [kdS, Str_inj]
      obtain rfl | rfl | rfl | rfl | rfl : r = 0 ∨ r = 1 ∨ r = 2 ∨ r = 3 ∨ r = 4 := by omega
      all_goals simp
      · exact q (.add n) _ _ ⟨trivial, sm_num_add n0 n1⟩ h3 (by omega) (by omega)
      · exact q (.add n) _ _ ⟨trivial, sm_num_add n0 n1⟩ h3 (by omega) (by omega)
      · exact q (.lift n) _ _ ⟨trivial, sm_num_lift n0 n1⟩ h3 (by omega) (by omega)
      · exact q (.lift n) _ _ ⟨trivial, sm_num_lift n0 n1⟩ h3 (by omega) (by omega)
      · exact q .read _ _ ⟨trivial, by unfold smW; decide +kernel⟩ h3 (by omega) (by omega)
    · simp [kdS, Str_inj]
      split
      · exact q (.put n) _ _ ⟨trivial, sm_num_put n0 n1⟩ h3 (by omega) (by omega)
      · exact q .take _ _ ⟨trivial, by unfold smW; decide +kernel⟩ h3 (by omega) (by omega)
    · simp [kdS, Str_inj]
      split
      · exact q (.put n) _ _ ⟨trivial, sm_num_put n0 n1⟩ h3 (by omega) (by omega)
      · exact q .take _ _ ⟨trivial, by unfold smW; decide +kernel⟩ h3 (by omega) (by omega)
    · simp [kdS, Str_inj]
      obtain rfl | rfl | rfl | rfl | rfl : r = 0 ∨ r = 1 ∨ r = 2 ∨ r = 3 ∨ r = 4 := by omega
      all_goals simp
      · exact q (.set key n) _ _ ⟨trivial, sm_set kl n0 n1⟩ h3 (by omega) (by omega)
      · exact q (.set key n) _ _ ⟨trivial, sm_set kl n0 n1⟩ h3 (by omega) (by omega)
      · exact q (.get key) _ _ ⟨trivial, sm_get kl⟩ h3 (by omega) (by omega)
      · exact q (.get key) _ _ ⟨trivial, sm_get kl⟩ h3 (by omega) (by omega)
      · exact q (.drop key) _ _ ⟨trivial, sm_drop kl⟩ h3 (by omega) (by omega)
  · exact h.elim
theorem w__law_plans : ∀ args Q, t__law_plans args Q → args.length = 4 → wSs G__law_plans b__law_plans (env0 B__law_plans.N args) (endA 4 Q) := by
  intro args Q h hargs
  unfold t__law_plans at h
  split at h
  · obtain ⟨k, e1, ⟨h0, h8, m0, m1⟩, hb, q⟩ := onS_el h
    rename_i _ a b c s n m
    obtain rfl := unKd_eq e1
    clear h e1
    simp [b__law_plans, B__law_plans, N__law_plans, G__law_plans, cs]
    refine ⟨hb.le (by omega), fun ks a1 c1 hk hks h1 x1 y1 => ⟨by omega, by omega, ?_⟩⟩
    refine lcK_ind (fun ds acc env => ∃ (o : Bool) (ps : List (List Wi)) (a' c' : Int), acc = ps.map plD ∧ (∀ l ∈ ps, (∀ w ∈ l, tyW k w ∧ smW w) ∧ l.length ≤ 10) ∧ env = [some ⟨true, bxD a' b c'⟩, some (fz (.str (kdS k))), some (fz (.int n)), some (fz (.int m)), some ⟨o, .lst (ks.map .str)⟩, none, none] ∧
        ps.length + ds.length = n.toNat ∧ Bx 0 a' b c' ∧ c1 ≤ c' ∧ c' ≤ c1 + 120 * ps.length) ?_ ?_ _ _ _ ⟨true, [], a1, c1, rfl, by simp, rfl, by simp [rngD], h1, by omega, by simp⟩
    · rintro d ds acc env ⟨o, ps, a4, c4, rfl, hws, rfl, hn, h4, x4, y4⟩ K hK
      simp only [List.length_cons] at hn
      simp
      refine ⟨by omega, hb.up h4 (by omega), fun r a5 c5 r50 r51 h5 x5 y5 => ⟨by omega, by omega, ?_⟩⟩
      refine lcK_ind (fun ds2 acc2 env2 => ∃ (o : Bool) (ws : List Wi) (a' c' : Int), acc2 = ws.map wiD ∧ (∀ w ∈ ws, tyW k w ∧ smW w) ∧ env2 = [some ⟨true, bxD a' b c'⟩, some (fz (.str (kdS k))), some (fz (.int n)), some (fz (.int m)), some ⟨o, .lst (ks.map .str)⟩, some (fz d), none] ∧
          ws.length + ds2.length = r.toNat ∧ Bx 0 a' b c' ∧ c5 ≤ c' ∧ c' ≤ c5 + 10 * ws.length) ?_ ?_ _ _ _ ⟨o, [], a5, c5, rfl, by simp, rfl, by simp [rngD], h5, by omega, by simp⟩
      · rintro d2 ds2 acc2 env2 ⟨o, ws, a6, c6, rfl, hw2, rfl, hn2, h6, x6, y6⟩ K2 hK2
        simp only [List.length_cons] at hn2
        simp
        refine ⟨⟨by omega, hks⟩, hb.up h6 (by omega), fun w a7 c7 tw sw h7 x7 y7 => ⟨by omega, hK2 _ _ ⟨_, ws ++ [w], a7, c7, by simp, ?_, rfl, by simp; omega, h7, by omega, by simp; omega⟩⟩⟩
        intro v hv
        rcases List.mem_append.mp hv with hv | hv
        · exact hw2 v hv
        · rw [List.mem_singleton.mp hv]; exact ⟨tw, sw⟩
      · rintro acc2 env2 ⟨o, ws, a6, c6, rfl, hw2, rfl, hn2, h6, x6, y6⟩
        simp only [List.length_nil, Nat.add_zero] at hn2
        simp
        refine ⟨by omega, hK _ _ ⟨_, ps ++ [ws], a6, c6, by simp; rfl, ?_, rfl, by simp; omega, h6, by omega, by simp; omega⟩⟩
        intro l hl
        rcases List.mem_append.mp hl with hl | hl
        · exact hws l hl
        · rw [List.mem_singleton.mp hl]; exact ⟨hw2, by omega⟩
    · rintro acc env ⟨o, ws, a4, c4, rfl, hws, rfl, hn, h4, x4, y4⟩
      simp only [List.length_nil, Nat.add_zero] at hn
      simp
      exact q ws _ _ (by omega) hws h4 (by omega) (by omega)
  · exact h.elim
theorem w__law_keys : ∀ args Q, t__law_keys args Q → args.length = 1 → wSs G__law_keys b__law_keys (env0 B__law_keys.N args) (endA 1 Q) := by
  intro args Q h hargs
  unfold t__law_keys at h
  split at h
  · obtain ⟨hb, q⟩ := h
    rename_i a b c
    simp [b__law_keys, B__law_keys, N__law_keys, G__law_keys, cs]
    refine ⟨hb.le (by omega), fun st a1 c1 r10 r11 h1 x1 y1 => ?_⟩
    refine ⟨hb.up h1 (by omega), fun sz a3 c3 r20 r21 h3 x3 y3 => ⟨by omega, by omega, ?_⟩⟩
    refine lcK_ind (fun ds acc env => ∃ (ss : List Str) (a' c' : Int), acc = ss.map .str ∧ (∀ s ∈ ss, s.length = 1) ∧ env = [some ⟨true, bxD a' b c'⟩, some (fz (.str "abcdefghijklmnopqrstuvwxyz")), some (fz (.int st)), none, none, none] ∧ ss.length + ds.length = sz.toNat ∧ Bx 0 a' b c' ∧ c3 ≤ c' ∧ c' ≤ c3 + ss.length) ?_ ?_ _ _ _ ⟨[], a3, c3, rfl, by simp, rfl, by simp [rngD], h3, by omega, by simp⟩
    · rintro d ds acc env ⟨ss, a4, c4, rfl, hs, rfl, hn4, h4, x4, y4⟩ K hK
      simp only [List.length_cons] at hn4
      simp [WL.abc_len]
      refine ⟨hb.up h4 (by omega), fun v a5 c5 v0 v1 h5 x5 y5 => ?_⟩
      rw [WL.abc_at v0 v1]
      simp
      refine ⟨by omega, hK _ _ ⟨ss ++ [⟨#[97 + v.toNat]⟩], a5, c5, by simp, ?_, rfl, by simp; omega, h5, by omega, by simp; omega⟩⟩
      intro s hs'
      rcases List.mem_append.mp hs' with h | h
      · exact hs s h
      · rw [List.mem_singleton.mp h]; rfl
    · rintro acc env ⟨ss, a4, c4, rfl, hs, rfl, hn4, h4, x4, y4⟩
      simp only [List.length_nil, Nat.add_zero] at hn4
      have hsum : (ss.map (·.length)).sum = ss.length := by
        clear hn4 y4
        induction ss with
        | nil => rfl
        | cons s ss ih =>
          rw [List.map_cons, List.sum_cons, hs s List.mem_cons_self, ih fun x hx => hs x (List.mem_cons_of_mem _ hx), List.length_cons]; omega
      have hj := join_len (Str.ofString "") ss
      have he : Str.length (Str.ofString "") = 0 := by decide +kernel
      rw [hsum, he] at hj
      simp [WL.abc_len, hsum, he]
      refine ⟨by omega, ?_⟩
      generalize Str.join (Str.ofString "") ss = stem at hj ⊢
      have A : ∀ x : Int, atI (Str.ofString "abcdefghijklmnopqrstuvwxyz").cps.toList (x % 26) = some (97 + (x % 26).toNat) := fun x => WL.abc_at (Int.emod_nonneg _ (by omega)) (Int.emod_lt_of_pos _ (by omega))
      have one : ∀ c : Nat, Str.length ⟨#[c]⟩ = 1 := fun c => rfl
      refine lcK_ind (fun ds acc env => ∃ (ks : List Str), acc = ks.map .str ∧ (ks.length + ds.length = 3 ∧ ∀ s ∈ ks, s.length ≤ 20) ∧ (∀ d ∈ ds, ∃ j : Int, d = .int j ∧ -10 < j ∧ j < 10) ∧ env = [some ⟨true, bxD a4 b c4⟩, some (fz (.str "abcdefghijklmnopqrstuvwxyz")), some (fz (.int st)), some (fz (.str stem)), none, none]) ?_ ?_ _ _ _ ⟨[], rfl, ⟨by simp [rngD], by simp⟩, fun d hd => ?_, rfl⟩
      · rintro d ds acc env ⟨ks, rfl, ⟨hn, hs⟩, hd, rfl⟩ K hK
        obtain ⟨j, rfl, j0, j1⟩ := hd _ List.mem_cons_self
        simp only [List.length_cons] at hn
        simp [A, one, WL.abc_len]
        refine ⟨by omega, by omega, hK _ _ ⟨ks ++ [_], by simp; rfl, ⟨by simp; omega, fun s hs' => (List.mem_append.mp hs').elim (hs s) fun z => by rw [List.mem_singleton.mp z, len_app1]; omega⟩, fun d h => hd d (List.mem_cons_of_mem _ h), rfl⟩⟩
      · rintro acc env ⟨ks, rfl, ⟨hn, hs⟩, hd, rfl⟩
        simp only [List.length_nil, Nat.add_zero] at hn
        simp
        exact q ks a4 c4 ⟨hn, hs⟩ h4 (by omega) (by omega)
      · unfold rngD at hd
        simp at hd
        obtain ⟨j, hj, rfl⟩ := hd
        exact ⟨_, rfl, by omega, by omega⟩
  · exact h.elim
end Lk26
namespace Lk26
open PySem PySem.Spec PyProof.Rows L2 TL WL
end Lk26
namespace Lk26
open PySem PySem.Spec PyProof.Rows L2 TL WL
theorem f__law_same (d : Nat) : ∀ args Q, t__law_same (d + 1) args Q → ∃ ds : List D, args = ds.map fz := by
  rintro _ Q ⟨x, rfl, _⟩
  exact ⟨[_, _], rfl⟩
theorem e__law_same (d : Nat) (x : D) (k_) (h : smD d x) (q : k_.run (fz (.bl true), [fz x, fz x])) : @opD (t__law_same (d + 1)) [fz x, fz x] k_ := ⟨x, rfl, h, q⟩
theorem same_lc {d : Nat} {xs : List D} {g : Gm} {e0 e1 : Option Val} {k : Kt (List D × EnvD)} (hl : xs.length < 16777216) (hx : ∀ x ∈ xs, smD d x) (hg : g.fs[0]? = some ⟨2, t__law_same (d + 1), "_law_same"⟩) (hk : ∀ bs : List Bool, (∀ b ∈ bs, b = true) → k.run (bs.map .bl, [e0, e1, none, none])) :
    @lcK [2, 3] (gwTup 2 (gwCons (gwName 2) (gwCons (gwName 3) gwNil))) wYes (wM g (M.call 0 (As.fro (M.var 2) (As.fro (M.var 3) As.nil)))) (zipD xs xs) [] [e0, e1, none, none] k := by
  refine lcK_ind (fun ds acc env => ∃ ys : List D, ds = zipD ys ys ∧ (∀ y ∈ ys, smD d y) ∧ acc.length + ys.length < 16777216 ∧ (∃ bs : List Bool, acc = bs.map .bl ∧ ∀ b ∈ bs, b = true) ∧ env = [e0, e1, none, none]) ?_ ?_ _ _ _ ⟨xs, rfl, hx, by simpa using hl, ⟨[], rfl, by simp⟩, rfl⟩
  · rintro d1 ds acc env ⟨ys, hd, hy, hl, ⟨bs, rfl, hb⟩, rfl⟩ K hK
    cases ys with
    | nil => cases hd
    | cons y ys =>
      cases hd
      simp only [List.length_cons] at hl
      simp [hg]
      refine e__law_same d y _ (hy y List.mem_cons_self) ?_
      simp
      refine ⟨by simp at hl; omega, hK _ _ ⟨ys, rfl, fun z hz => hy z (List.mem_cons_of_mem _ hz), by simp at hl ⊢; omega, ⟨bs ++ [true], by simp, ?_⟩, rfl⟩⟩
      intro b hb'
      rcases List.mem_append.mp hb' with h | h
      · exact hb b h
      · simpa using h
  · rintro acc env ⟨ys, hd, _, _, ⟨bs, rfl, hb⟩, rfl⟩
    exact hk bs hb
theorem w__law_same (d : Nat) : ∀ args Q, t__law_same (d + 1) args Q → args.length = 2 → wSs (G__law_same d) b__law_same (env0 B__law_same.N args) (endB args Q) := by
  rintro _ Q ⟨x, rfl, hx, q⟩ _
  cases x with
  | non => simp [b__law_same, B__law_same, N__law_same, G__law_same, cs]; exact q
  | bl b => simp [b__law_same, B__law_same, N__law_same, G__law_same, cs]; exact q
  | int i => simp [b__law_same, B__law_same, N__law_same, G__law_same, cs]; exact q
  | str s => simp [b__law_same, B__law_same, N__law_same, G__law_same, cs]; exact q
  | lst xs =>
    cases d with
    | zero => exact (hx : False).elim
    | succ d =>
      simp [b__law_same, B__law_same, N__law_same, G__law_same, cs]
      refine same_lc hx.1 hx.2 rfl fun bs hb => ?_
      simp
      have : bs.all id = true := List.all_eq_true.mpr fun b h => hb b h
      simpa [this] using q
  | tup xs =>
    cases d with
    | zero => exact (hx : False).elim
    | succ d =>
      simp [b__law_same, B__law_same, N__law_same, G__law_same, cs]
      refine same_lc hx.1 hx.2 rfl fun bs hb => ?_
      simp
      have : bs.all id = true := List.all_eq_true.mpr fun b h => hb b h
      simpa [this] using q
  | dic _ _ => cases d <;> exact (hx : False).elim
  | fn _ => cases d <;> exact (hx : False).elim
  | lse _ => cases d <;> exact (hx : False).elim
  | own _ _ => cases d <;> exact (hx : False).elim
  | box _ => cases d <;> exact (hx : False).elim
  | ldc _ _ => cases d <;> exact (hx : False).elim
  | al _ => cases d <;> exact (hx : False).elim
  | ins _ _ _ => cases d <;> exact (hx : False).elim
  | dkt _ _ => cases d <;> exact (hx : False).elim
theorem smT {d : Nat} {xs : List D} (h : xs.length < 16777216) (k : ∀ x ∈ xs, smD d x) : smD (d + 1) (.tup xs) := ⟨h, k⟩
theorem sm_i (d : Nat) (i : Int) : smD d (.int i) := by cases d <;> trivial
theorem sm_s (d : Nat) (i : Str) : smD d (.str i) := by cases d <;> trivial
theorem sm_n (d : Nat) : smD d .non := by cases d <;> trivial
theorem sm_an (d : Nat) (a : An) : smD d (anD a) := by cases a <;> cases d <;> trivial
theorem sm_map {α : Type} {d : Nat} {f : α → D} {l : List α} (h : l.length < 16777216) (k : ∀ x ∈ l, smD d (f x)) : smD (d + 1) (.tup (l.map f)) :=
  smT (by rw [List.length_map]; exact h) fun x hx => by
    obtain ⟨y, hy, rfl⟩ := List.mem_map.mp hx
    exact k y hy
theorem sm_wi (d : Nat) (w : Wi) : smD (d + 1) (wiD w) := by
  cases w
  all_goals
    refine smT (by simp) fun x hx => ?_
    simp at hx
    first
      | (rcases hx with rfl | rfl | rfl <;> first | exact sm_s _ _ | exact sm_i _ _)
      | (rcases hx with rfl | rfl <;> first | exact sm_s _ _ | exact sm_i _ _)
      | (rcases hx with rfl; first | exact sm_s _ _ | exact sm_i _ _)
theorem sm_ow (d : Nat) (w : Option Wi) : smD (d + 1) (owD w) := by
  cases w with
  | none => exact sm_n _
  | some w => exact sm_wi d w
theorem sm_as (d : Nat) (a : Option An) : smD (d + 1) (asD a) := by
  cases a with
  | none => exact smT (by simp) fun x hx => (nomatch hx)
  | some a => exact smT (by simp) fun x hx => by rw [List.mem_singleton.mp hx]; exact sm_an d a
theorem sm_st (d : Nat) {s : Sta} (h : sz s < 16777216) : smD (d + 2) (stD s) := by
  cases s with
  | num i => exact sm_i _ _
  | seq l => exact sm_map h fun x _ => sm_i _ _
  | tab l =>
    refine sm_map h fun x _ => ?_
    refine smT (by simp) fun y hy => ?_
    simp at hy
    rcases hy with rfl | rfl
    · exact sm_s _ _
    · exact sm_i _ _
theorem sm_sl (d : Nat) (s : Sl) : smD (d + 2) (slD s) := by
  refine smT (by simp) fun x hx => ?_
  simp at hx
  rcases hx with rfl | rfl | rfl
  · exact sm_i _ _
  · exact sm_ow d _
  · exact sm_as d _
theorem sm_mk (d : Nat) (m : Mk) : smD (d + 1) (mkD m) := by
  refine smT (by simp) fun x hx => ?_
  simp at hx
  rcases hx with rfl | rfl
  · exact sm_i _ _
  · exact sm_an d _
theorem sm_bk (d : Nat) {b : Bk} (h : sz b.1 < 16777216) (h2 : b.2.length < 16777216) : smD (d + 3) (bkD b) := by
  refine smT (by simp) fun x hx => ?_
  simp at hx
  rcases hx with rfl | rfl
  · exact sm_st d h
  · exact sm_map h2 fun m _ => sm_mk d m
theorem sm_kp (d : Nat) {k : Kd} {B : List Str} {N n : Nat} {h : Hd} (ok : okHd k B N n h) (hN : N ≤ 1000000) (hn : n ≤ 8) : smD (d + 4) (kpD h.k) := by
  have wk : ∀ b seen new, okWk k N n b seen new → smD (d + 4) (kpD (.wk b seen new)) := fun b seen new hw => by
    obtain ⟨⟨_, w0, w1⟩, w2, _, w3⟩ := hw
    refine smT (by simp) fun x hx => ?_
    simp at hx
    rcases hx with rfl | rfl | rfl
    · exact sm_bk d (by omega) (by omega)
    · exact sm_map (by omega) fun s _ => sm_sl d s
    · exact sm_map (by omega) fun s _ => sm_i _ _
  have no : h.k = .no → smD (d + 4) (kpD h.k) := fun e => by rw [e]; exact smT (by simp) fun x hx => (nomatch hx)
  unfold okHd at ok
  obtain ⟨_, _, ok⟩ := ok
  cases hm : h.m <;> rw [hm] at ok <;> first | exact no ok.1 | skip
  · obtain ⟨b, seen, e, ⟨_, b1, b2⟩, sl, i1, _⟩ := ok
    rw [e]
    refine smT (by simp) fun x hx => ?_
    simp at hx
    rcases hx with rfl | rfl
    · exact sm_bk d (by omega) (by omega)
    · exact sm_map (by omega) fun s _ => sm_sl d s
  · obtain ⟨b, seen, new, e, hw, _⟩ := ok
    rw [e]; exact wk _ _ _ hw
  · obtain ⟨b, seen, new, e, hw, _⟩ := ok
    rw [e]; exact wk _ _ _ hw
  · obtain ⟨b, seen, new, e, hw, _⟩ := ok
    rw [e]; exact wk _ _ _ hw
theorem sm_si (d : Nat) {k : Kd} {B : List Str} {N n : Nat} {S : Sit} (ok : okSi k B N n S) (hN : N ≤ 1000000) : smD (d + 7) (siD S) := by
  have h1 := ok.hn
  have h2 := ok.sn
  have h8 := ok.n8
  have hb := ok.bk
  have hs := ok.hs
  refine smT (by simp) fun x hx => ?_
  simp at hx
  rcases hx with rfl | rfl | rfl | rfl | rfl
  · cases S.lane
    · exact sm_n _
    · exact sm_i _ _
  · exact sm_bk (d + 3) (by have := hb.2.1; omega) (by have := hb.2.2; omega)
  · exact sm_map (by omega) fun s _ => sm_sl (d + 3) s
  · refine sm_map (by omega) fun x hx => ?_
    have ox := ok.hd x hx
    refine smT (by simp) fun y hy => ?_
    simp at hy
    rcases hy with rfl | rfl | rfl | rfl
    · exact sm_s _ _
    · exact sm_i _ _
    · exact sm_kp d ox hN h8
    · exact sm_map (by have := ox.2.1; omega) fun w _ => sm_wi (d + 2) w
  · refine sm_map (by omega) fun x _ => ?_
    cases x
    all_goals
      refine smT (by simp) fun y hy => ?_
      simp at hy
      rcases hy with rfl | rfl | rfl <;> first | exact sm_s _ _ | exact sm_i _ _ | exact sm_wi (d + 3) _ | exact sm_an _ _
theorem f_law : ∀ args Q, t_law args Q → ∃ ds : List D, args = ds.map fz := by
  rintro _ Q ⟨ns, rfl, _⟩
  exact ⟨[_], rfl⟩
theorem w_law : ∀ args Q, t_law args Q → args.length = 1 → wSs G_law b_law (env0 B_law.N args) (endB args Q) := by
  rintro _ Q ⟨ns, rfl, hn, q⟩ _
  simp [b_law, B_law, N_law, G_law, cs]
  refine ⟨hn, fun cells hc => ⟨by omega, ?_⟩⟩
  refine lcK_ind (fun ds acc env => ∃ (n : Nat) (w : Bool), n + ds.length ≤ 5 ∧ acc = (List.replicate n true).map .bl ∧ (∀ d ∈ ds, ∃ i : Int, d = .int i ∧ 0 ≤ i ∧ i < cells.length) ∧
    env = [some (fz (.lst (ns.map .int))), some ⟨w, .lst (cells.map .int)⟩, none]) ?_ ?_ _ _ _ ⟨0, true, by simp [rngD]; omega, rfl, fun d hd => ?_, rfl⟩
  · rintro d ds acc env ⟨n, w, hl, rfl, hd, rfl⟩ K hK
    obtain ⟨i, rfl, i0, i1⟩ := hd d List.mem_cons_self
    simp only [List.length_cons] at hl
    simp
    refine ⟨⟨i0, i1, by omega⟩, fun a b a0 b0 b1 => ⟨⟨a0, b0, b1, by omega, by omega⟩, fun a' c' h' x y => ⟨by omega, hK _ _ ⟨n + 1, false, by omega, ?_, fun d h => hd d (List.mem_cons_of_mem _ h), ?_⟩⟩⟩⟩
    · rw [List.replicate_succ', List.map_append]
      simp
    · rfl
  · rintro acc env ⟨n, w, hl, rfl, hd, rfl⟩
    generalize hb : List.replicate n true = bs
    have hall : ∀ b ∈ bs, b = true := fun b h => by
      rw [← hb] at h
      exact (List.mem_replicate.mp h).2
    simp
    rw [show bs.all id = true from List.all_eq_true.mpr fun b h => hall b h]
    exact q _ _ rfl
  · obtain ⟨i, rfl, i0, i1⟩ := rng_int d hd
    exact ⟨i, rfl, i0, by omega⟩
end Lk26
namespace Lk26
open PySem PySem.Spec PyProof.Rows L2 TL WL
theorem f_at_work : ∀ args Q, t_at_work args Q → ∃ ds : List D, args = ds.map fz := by
  rintro _ Q ⟨k, plans, rfl, _⟩
  exact ⟨[_], rfl⟩
theorem f_is_finished : ∀ args Q, t_is_finished args Q → ∃ ds : List D, args = ds.map fz := by
  rintro _ Q ⟨k, plans, rfl, _⟩
  exact ⟨[_], rfl⟩
theorem enum_mem {xs : List D} {d : D} (h : d ∈ enumD xs) : ∃ (i : Nat) (x : D), x ∈ xs ∧ d = .lse [.int i, x] := by
  obtain ⟨i, hi⟩ := List.getElem?_of_mem h
  obtain ⟨x, hx, rfl⟩ := enumD_get hi
  exact ⟨i, x, List.mem_of_getElem? hx, rfl⟩
theorem w_at_work : ∀ args Q, t_at_work args Q → args.length = 1 → wSs G_at_work b_at_work (env0 B_at_work.N args) (endB args Q) := by
  rintro _ Q ⟨k, plans, rfl, hl, q⟩ _
  simp [b_at_work, B_at_work, N_at_work, G_at_work, cs, siD, begS]
  refine lcK_ind (fun ds acc env => acc = [] ∧ env = [some (fz (siD (begS k plans))), none, none, none] ∧ ∀ d ∈ ds, ∃ (i : Nat) (l : List Wi), d = .lse [.int i, hdD ⟨.rest, 0, .no, l⟩]) ?_ ?_ _ _ _ ?_
  · rintro d ds acc env ⟨rfl, rfl, hd⟩ K hK
    obtain ⟨i, l, rfl⟩ := hd _ List.mem_cons_self
    simp [hdD, mdS]
    rw [if_neg (by decide +kernel)]
    exact hK _ _ ⟨rfl, rfl, fun d h => hd d (List.mem_cons_of_mem _ h)⟩
  · rintro acc env ⟨rfl, rfl, hd⟩
    simp
    simp [siD, begS] at q
    exact q
  · refine ⟨rfl, by simp [siD, begS], fun d hd => ?_⟩
    obtain ⟨i, x, hx, rfl⟩ := enum_mem hd
    obtain ⟨l, _, rfl⟩ := List.mem_map.mp hx
    exact ⟨i, l, rfl⟩
theorem rdy_eq (k : Kd) (plans : List (List Wi)) : (List.range (begS k plans).hands.length).filter (hasMv (begS k plans)) = rdy plans := by
  have e : (begS k plans).hands.length = plans.length := by simp [begS]
  rw [e]
  unfold rdy
  refine List.filter_congr fun h hh => ?_
  have hh := List.mem_range.mp hh
  have e2 : handAt (begS k plans) h = ⟨.rest, 0, .no, plans.getD h []⟩ := by
    simp [handAt, begS, hh]
  unfold hasMv
  rw [e2]
  simp
theorem w_is_finished : ∀ args Q, t_is_finished args Q → args.length = 1 → wSs G_is_finished b_is_finished (env0 B_is_finished.N args) (endB args Q) := by
  rintro _ Q ⟨k, plans, rfl, hl, q⟩ _
  simp [b_is_finished, B_is_finished, N_is_finished, G_is_finished, cs]
  refine ⟨_, rfl, by simpa [begS] using hl, ?_⟩
  rw [rdy_eq]
  simp
  exact ⟨pures_ps _, by rw [eqDs_ps]; exact q⟩
end Lk26
set_option pp.maxSteps 3000
namespace Lk26
open PySem PySem.Spec PyProof.Rows L2 TL WL
theorem due_eq (k : Kd) (plans : List (List Wi)) (st : D) (n : Nat) (hs : st = stD (begS k []).book.1) (hn : n = plans.length) :
    D.tup [D.non, D.tup [st, D.tup (List.replicate n (D.tup [D.int 0, D.non]))], D.tup (List.replicate n (D.tup [D.int 0, D.non, D.tup []])), D.tup (List.map (fun l => hdD { m := Md.rest, i := 0, k := Kp.no, l := l }) plans), D.tup []] = siD (begS k plans) := by
  subst hs hn
  show _ = D.tup [D.non, D.tup [stD _, D.tup ((plans.map fun _ => m0).map mkD)], D.tup ((plans.map fun _ => s0).map slD), D.tup ((plans.map fun l => (⟨.rest, 0, .no, l⟩ : Hd)).map hdD), D.tup []]
  rw [mapc, mapc, List.map_map]
  rfl
theorem st_eq (k : Kd) : (if kdS k = Str.ofString "counter" then D.int 0 else D.tup []) = stD (begS k []).book.1 := by
  cases k <;> simp [kdS, Str_inj] <;> rfl
def ownZ (as : List Addr) (ls : List (List Wi)) : List D := (as.zip ls).map fun p => .own p.1 (p.2.map wiD)
theorem own_cl : ∀ (as : List Addr) (ls : List (List Wi)), as.length = ls.length → (ownZ as ls).map cl1 = ls.map plD
  | [], [], _ => rfl
  | a :: as, l :: ls, h => by
    show D.lst (l.map wiD) :: (ownZ as ls).map cl1 = plD l :: ls.map plD
    rw [own_cl as ls (by simpa using h)]
    rfl
  | [], _ :: _, h => by cases h
  | _ :: _, [], h => by cases h
theorem tups_all : ∀ l : List D, (∀ x ∈ l, tupO x = true) → tupOs l = true
  | [], _ => rfl
  | x :: l, h => by rw [tupOs, h x List.mem_cons_self, tups_all l fun y hy => h y (List.mem_cons_of_mem _ hy)]; rfl
theorem tup_map {α : Type} (f : α → D) (l : List α) (h : ∀ x ∈ l, tupO (f x) = true) : tupO (.tup (l.map f)) = true := by
  rw [tupO]
  refine tups_all _ fun x hx => ?_
  obtain ⟨y, hy, rfl⟩ := List.mem_map.mp hx
  exact h y hy
theorem tup_wi (w : Wi) : tupO (wiD w) = true := by cases w <;> simp [wiD, tupO, tupOs, flatR]
theorem tup_beg (k : Kd) (plans : List (List Wi)) : tupO (siD (begS k plans)) = true := by
  have h1 : tupO (stD (begS k []).book.1) = true := by cases k <;> simp [begS, stD, tupO, tupOs, flatR]
  have h2 : ∀ n, tupO (D.tup (List.replicate n (D.tup [D.int 0, D.non]))) = true := fun n => by
    rw [tupO]
    exact tups_all _ fun x hx => by rw [List.eq_of_mem_replicate hx]; simp [tupO, tupOs, flatR]
  have h3 : ∀ n, tupO (D.tup (List.replicate n (D.tup [D.int 0, D.non, D.tup []]))) = true := fun n => by
    rw [tupO]
    exact tups_all _ fun x hx => by rw [List.eq_of_mem_replicate hx]; simp [tupO, tupOs, flatR]
  have h4 : tupO (D.tup (List.map (fun l => hdD { m := Md.rest, i := 0, k := Kp.no, l := l }) plans)) = true := tup_map _ _ fun l _ => by
    have h5 : tupO (.tup (l.map wiD)) = true := tup_map _ _ fun w _ => tup_wi w
    simp [hdD, kpD, tupO, tupOs, flatR] at h5 ⊢
    exact h5
  rw [← due_eq k plans _ _ rfl rfl]
  simp only [tupO, tupOs, flatR, Bool.true_and, Bool.and_true, Bool.and_eq_true] at h1 h2 h3 h4 ⊢
  exact ⟨⟨h1, h2 _⟩, h3 _, h4⟩
theorem own_adr : ∀ (as : List Addr) (ls : List (List Wi)), as.length = ls.length → (ownZ as ls).map adr1 = as.map some
  | [], [], _ => rfl
  | a :: as, l :: ls, h => by
    show some a :: (ownZ as ls).map adr1 = some a :: as.map some
    rw [own_adr as ls (by simpa using h)]
  | [], _ :: _, h => by cases h
  | _ :: _, [], h => by cases h
theorem own_get : ∀ {as : List Addr} {ls : List (List Wi)} {n : Nat} {a : Addr} {l : List Wi}, as[n]? = some a → ls[n]? = some l → (ownZ as ls)[n]? = some (.own a (l.map wiD))
  | [], _, _, _, _, h, _ => by simp at h
  | _ :: _, [], _, _, _, _, h => by simp at h
  | a :: as, l :: ls, 0, _, _, h1, h2 => by simp at h1 h2; subst h1 h2; rfl
  | a :: as, l :: ls, n + 1, _, _, h1, h2 => own_get (as := as) (ls := ls) (n := n) (by simpa using h1) (by simpa using h2)
theorem own_set : ∀ {as : List Addr} {ls : List (List Wi)} {n : Nat} {a : Addr}, as[n]? = some a → (ownZ as ls).set n (.own a []) = ownZ as (ls.set n [])
  | [], _, _, _, h => by simp at h
  | _ :: _, [], _, _, _ => rfl
  | a :: as, l :: ls, 0, _, h1 => by simp at h1; subst h1; rfl
  | a :: as, l :: ls, n + 1, _, h1 => by
    show D.own a (l.map wiD) :: (ownZ as ls).set n _ = D.own a (l.map wiD) :: ownZ as (ls.set n [])
    rw [own_set (as := as) (ls := ls) (n := n) (by simpa using h1)]
def clr (n : Nat) (ls : List (List Wi)) : List (List Wi) := List.replicate n [] ++ ls.drop n
theorem clr_len {n : Nat} {ls : List (List Wi)} (h : n ≤ ls.length) : (clr n ls).length = ls.length := by simp [clr]; omega
theorem clr_get {n : Nat} {ls : List (List Wi)} : (clr n ls)[n]? = ls[n]? := by
  unfold clr
  rw [List.getElem?_append_right (by simp)]
  simp
theorem clr_set {n : Nat} {ls : List (List Wi)} (h : n < ls.length) : (clr n ls).set n [] = clr (n + 1) ls := by
  unfold clr
  rw [List.set_append_right _ _ (by simp)]
  simp only [List.length_replicate, Nat.sub_self]
  rw [List.drop_eq_getElem_cons h, List.set_cons_zero, List.replicate_succ', List.append_assoc]
  rfl
theorem pure_pl (l : List Wi) : pure' (plD l) = true := pures_wi l
theorem eq_pl (l : List Wi) : eqD (plD l) (.lst []) = decide (l = []) := by
  cases l with
  | nil => rfl
  | cons w l => rfl
def rdyC (plans : List (List Wi)) (h : Nat) : Bool := decide (plans.getD h [] ≠ [])
theorem sm_ps (d : Nat) (l : List Nat) (h : l.length ≤ 8) : smD (d + 1) (.lst (psD l)) := ⟨by simp [psD]; omega, fun x hx => by
  obtain ⟨i, _, rfl⟩ := List.mem_map.mp hx
  exact sm_i d _⟩
theorem rdyP_len (plans : List (List Wi)) : (rdy plans).length ≤ plans.length := by
  have := List.length_filter_le (fun h => decide (plans.getD h [] ≠ [])) (List.range plans.length)
  simpa [rdy] using this
theorem own_snoc : ∀ (as : List Addr) (ls : List (List Wi)) (a : Addr) (l : List Wi), as.length = ls.length → ownZ (as ++ [a]) (ls ++ [l]) = ownZ as ls ++ [.own a (l.map wiD)]
  | [], [], _, _, _ => rfl
  | b :: as, m :: ls, a, l, h => by
    show D.own b (m.map wiD) :: ownZ (as ++ [a]) (ls ++ [l]) = D.own b (m.map wiD) :: (ownZ as ls ++ [_])
    rw [own_snoc as ls a l (by simpa using h)]
  | [], _ :: _, _, _, h => by cases h
  | _ :: _, [], _, _, h => by cases h
theorem costs_wi : ∀ l : List Wi, (∀ w ∈ l, smW w) → costDs (l.map wiD) ≤ 402 * l.length
  | [], _ => Nat.zero_le _
  | w :: l, h => by
    have h1 : costD (wiD w) ≤ 400 := h w List.mem_cons_self
    have h2 := costs_wi l fun x hx => h x (List.mem_cons_of_mem _ hx)
    show costD (wiD w) + 2 + costDs (l.map wiD) ≤ 402 * (l.length + 1)
    omega
theorem costs_pl : ∀ ls : List (List Wi), (∀ l ∈ ls, (∀ w ∈ l, smW w) ∧ l.length ≤ 10) → costDs (ls.map plD) ≤ 5000 * ls.length
  | [], _ => Nat.zero_le _
  | l :: ls, h => by
    have h1 := costs_wi l (h l List.mem_cons_self).1
    have h2 := costs_pl ls fun x hx => h x (List.mem_cons_of_mem _ hx)
    have h3 := (h l List.mem_cons_self).2
    show (costDs (l.map wiD) + 3) + 2 + costDs (ls.map plD) ≤ 5000 * (ls.length + 1)
    omega
theorem deps_wi : ∀ l : List Wi, depthDs (l.map wiD) ≤ 2
  | [] => by decide
  | w :: l => by
    have h1 : depthD (wiD w) ≤ 2 := by cases w <;> simp [wiD, depthD, depthDs]
    have h2 := deps_wi l
    show max _ _ ≤ 2
    omega
theorem deps_pl : ∀ ls : List (List Wi), depthDs (ls.map plD) ≤ 3
  | [] => by decide
  | l :: ls => by
    have h1 := deps_wi l
    have h2 := deps_pl ls
    show max (depthDs (l.map wiD) + 1) _ ≤ 3
    omega
theorem w__law_right : ∀ args Q, t__law_right args Q → args.length = 1 → wSs G__law_right b__law_right (env0 B__law_right.N args) (endA 1 Q) := by
  intro args Q h hargs
  unfold t__law_right at h
  split at h
  · obtain ⟨hb, q⟩ := h
    rename_i a b c
    simp [b__law_right, B__law_right, N__law_right, G__law_right, cs, -List.map_map]
    refine forK_ind (fun ds env => ∃ (a' c' : Int) (o1 o2 o3 o4 o5 o6 o7 o8 o9 o10 o11 o12 o13 o14 o15 : Option Val), Bx 0 a' b c' ∧ c ≤ c' ∧ c' + 1100 * ds.length ≤ c + 12000 ∧ env = [some ⟨true, bxD a' b c'⟩, o1, o2, o3, o4, o5, o6, o7, o8, o9, o10, o11, o12, o13, o14, o15]) ?_ ?_ _ _ ?_
    · rintro d ds env ⟨a', c', o1, o2, o3, o4, o5, o6, o7, o8, o9, o10, o11, o12, o13, o14, o15, h1, x1, y1, rfl⟩ K hK
      simp only [List.length_cons] at y1
      simp [-List.map_map]
      refine ⟨hb.up h1 (by omega), fun k a1 c1 h2 x2 y2 => ?_⟩
      refine ⟨hb.up h2 (by omega), fun r a2 c2 r0 r1 h3 x3 y3 => ⟨⟨by omega, by omega⟩, hb.up h3 (by omega), fun plans a3 c3 hn hp h4 x4 y4 => ?_⟩⟩
      have okp : okPl k plans := ⟨fun l hl => ⟨fun w hw => ((hp l hl).1 w hw).1, by have := (hp l hl).2; omega⟩, by omega, by omega⟩
      refine lcK_fm plD (fun l => some (hdD ⟨.rest, 0, .no, l⟩)) plans (by omega) (fun l hl C acc ha hC => ?_) ?_
      · simp [plD]
        exact ⟨ha, by simpa [hdD, kpD, mdS] using hC⟩
      rw [fm_some]
      simp [-List.map_map]
      rw [show (1 + r).toNat = plans.length by omega]
      have hst := st_eq k
      have hcost : costD (.lst (plans.map plD)) ≤ 16777216 := by
        have := costs_pl plans fun l hl => ⟨fun w hw => ((hp l hl).1 w hw).2, (hp l hl).2⟩
        show costDs (plans.map plD) + 3 ≤ _
        omega
      have hdep : depthD (.lst (plans.map plD)) ≤ 60 := by
        have := deps_pl plans
        show depthDs (plans.map plD) + 1 ≤ 60
        omega
      have hsm : smD 10 (siD (begS k plans)) := sm_si 3 (N := 0) (beg_ok (B := []) okp.1 okp.2.1 okp.2.2) (by omega)
      have hsm2 : smD 11 (.lst [siD (begS k plans), siD (begS k plans)]) := ⟨by simp, fun x hx => by
        have : x = siD (begS k plans) := by simpa using hx
        rw [this]; exact hsm⟩
      split
      all_goals
        rename_i hk
        simp only [hk, if_true, if_false] at hst
        rw [due_eq k plans _ _ hst rfl]
        refine ⟨⟨by omega, by omega⟩, ?_⟩
        refine lcQK_ind (fun ds acc env => ∃ (as : List Addr) (n : Nat), n ≤ plans.length ∧ as.length = n ∧ ds = (plans.drop n).map plD ∧ acc = ownZ as (plans.take n) ∧ env = [some ⟨true, bxD a3 b c3⟩, some (fz d), some (fz (.lst (plans.map plD))),
          some (fz (D.tup (List.map (fun l => hdD { m := Md.rest, i := 0, k := Kp.no, l := l }) plans))), some (fz (stD (begS k []).book.1)), some (fz (siD (begS k plans))), o6, none, o8, o9, o10, some (fz (.str (kdS k))), some (fz (.int (1 + r))), o13, o14, o15]) ?_ ?_ _ _ _ ⟨[], 0, by omega, rfl, rfl, rfl, by rw [← hst]⟩
        · rintro d1 ds1 acc env ⟨as, n, hn1, ha, hd, rfl, rfl⟩ K2 hK2
          have hlt : n < plans.length := by
            rcases Nat.lt_or_ge n plans.length with h | h
            · exact h
            · rw [List.drop_eq_nil_of_le h] at hd; cases hd
          rw [List.drop_eq_getElem_cons hlt, List.map_cons] at hd
          obtain ⟨rfl, rfl⟩ := List.cons.inj hd
          simp [-List.map_map, plD]
          refine ⟨by simp [ownZ]; omega, fun p => hK2 _ _ ⟨as ++ [p], n + 1, by omega, by simp [ha], rfl, ?_, by rw [← hst]⟩⟩
          rw [← List.take_append_getElem hlt]
          exact (own_snoc as _ p _ (by simp [ha]; omega)).symm
        · rintro acc env ⟨as, n, hn1, ha, hd, rfl, rfl⟩
          have en : n = plans.length := by
            have := congrArg List.length hd
            simp at this
            omega
          subst en
          clear hd
          rw [List.take_length]
          simp [-List.map_map]
          refine ⟨by have : costDs (plans.map plD) + 3 ≤ 16777216 := hcost; omega, by have : depthDs (plans.map plD) + 1 ≤ 60 := hdep; omega, ?_⟩
          unfold wCallT
          simp [-List.map_map, own_cl as plans ha]
          refine ⟨k, true, plans, rfl, okp, ?_⟩
          refine ⟨tup_beg k plans, ?_⟩
          refine lcK_fm plD (fun l => some (.tup (l.map wiD))) plans (by omega) (fun l hl C acc ha hC => ?_) ?_
          · simp [plD]
            exact ⟨ha, hC⟩
          rw [fm_some]
          simp [-List.map_map]
          refine ⟨k, false, plans, rfl, okp, ?_⟩
          simp [-List.map_map]
          refine e__law_same 11 _ _ hsm2 ?_
          simp [-List.map_map]
          unfold wRpb
          simp [-List.map_map]
          rw [own_cl as plans ha]
          refine ⟨hcost, hdep, rfl, ?_⟩
          simp [-List.map_map]
          refine ⟨as, ⟨_, rfl, own_adr as plans ha⟩, ?_⟩
          refine forBK_ind (fun as2 env => ∃ (n : Nat) (p7 : Option Val), n ≤ plans.length ∧ as2 = as.drop n ∧ env = [some ⟨true, bxD a3 b c3⟩, some (fz d), some (fz (.lst (plans.map plD))),
            some (fz (D.tup (List.map (fun l => hdD { m := Md.rest, i := 0, k := Kp.no, l := l }) plans))), some (fz (stD (begS k []).book.1)), some (fz (siD (begS k plans))), some (fz (D.lst [siD (begS k plans), siD (begS k plans)])), p7, o8, o9, o10, some (fz (.str (kdS k))), some (fz (.int (1 + r))),
            some ⟨true, .box (.lst (ownZ as (clr n plans)))⟩, some (fz (D.str (reprD (D.lst (List.map plD plans))))), o15]) ?_ ?_ ?_ _ _ ⟨0, o7, by omega, rfl, rfl⟩
          · rintro as2 env ⟨n, p7, hn2, rfl, rfl⟩
            exact ⟨_, rfl, own_adr as _ (by rw [ha, clr_len hn2])⟩
          · rintro x as2 env ⟨n, p7, hn2, e2, rfl⟩ K2 hK2
            have hlt : n < as.length := by
              rcases Nat.lt_or_ge n as.length with h | h
              · exact h
              · rw [List.drop_eq_nil_of_le h] at e2; cases e2
            rw [List.drop_eq_getElem_cons hlt] at e2
            obtain ⟨rfl, rfl⟩ := List.cons.inj e2
            simp [-List.map_map]
            have g1 : as[n]? = some as[n] := List.getElem?_eq_getElem hlt
            have g2 : (clr n plans)[n]? = some (plans[n]'(by omega)) := by rw [clr_get]; exact List.getElem?_eq_getElem _
            refine ⟨⟨_, n, _, rfl, own_get g1 g2⟩, _, n, _, [], rfl, own_get g1 g2, rfl, [], rfl, ?_⟩
            refine hK2 _ ⟨n + 1, some (fz (.al as[n])), by omega, rfl, ?_⟩
            simp [own_set g1, clr_set (show n < plans.length by omega)]
          · rintro env ⟨n, p7, hn2, e2, rfl⟩
            have en : n = plans.length := by
              have := congrArg List.length e2
              simp at this
              omega
            subst en
            simp [-List.map_map]
            refine ⟨by simp [ownZ, clr]; omega, fun p => ⟨by omega, by omega, ?_⟩⟩
            rw [show (1 + r).toNat = plans.length by omega, rng_psD]
            refine lc_ps (rdyC plans) _ (by simp; omega) (fun x hx C acc ha2 hC => ?_) ?_
            · have hx := List.mem_range.mp hx
              simp [-List.map_map, hx, eq_pl]
              refine ⟨pure_pl _, ?_⟩
              by_cases e : plans[x] = []
              · simpa [rdyC, e, hx] using hC
              · simp [rdyC, e, hx] at hC ⊢
                exact ⟨ha2, hC⟩
            · rw [show List.filter (rdyC plans) (List.range plans.length) = rdy plans from rfl]
              simp [-List.map_map]
              have hl8 : (begS k plans).hands.length ≤ 8 := by simp [begS]; omega
              have hp8 : plans.length ≤ 8 := by omega
              have emv := rdy_eq k plans
              refine ⟨begS k plans, rfl, hl8, ?_⟩
              rw [emv]
              simp [-List.map_map]
              refine ⟨begS k plans, rfl, hl8, ?_⟩
              rw [emv]
              simp [-List.map_map]
              refine ⟨k, plans, rfl, hp8, ?_⟩
              simp [-List.map_map]
              refine ⟨k, plans, rfl, hp8, ?_⟩
              simp [-List.map_map]
              intro b1 b2 b3 b4
              have hr8 : (rdy plans).length ≤ 8 := Nat.le_trans (rdyP_len plans) hp8
              refine e__law_same 11 _ _ ⟨by simp, fun x hx => ?_⟩ ?_
              · simp at hx
                rcases hx with rfl | rfl
                · exact sm_ps 9 _ hr8
                · exact ⟨by simp, by simp⟩
              simp [-List.map_map]
              refine e__law_same 11 _ _ hsm2 ?_
              simp [-List.map_map]
              refine ⟨b1, ⟨_, _, _, rfl, .inr rfl, rfl⟩, ?_⟩
              simp [-List.map_map]
              refine ⟨by simp [psD]; omega, _, rfl, ?_⟩
              refine ⟨b3, ⟨_, _, _, rfl, .inr rfl, rfl⟩, ?_⟩
              simp [-List.map_map, bwith]
              refine ⟨by simp, _, rfl, ?_⟩
              refine ⟨k, plans, rfl, hp8, ?_⟩
              simp [-List.map_map]
              refine ⟨k, plans, rfl, hp8, ?_⟩
              simp [-List.map_map]
              refine ⟨pures_ps _, ?_⟩
              rw [eqDs_ps]
              refine e__law_same 11 _ _ ⟨by simp, fun x hx => ?_⟩ ?_
              · simp at hx
                rw [hx]; trivial
              simp [-List.map_map]
              refine ⟨begS k plans, rfl, hl8, ?_⟩
              rw [emv]
              simp [-List.map_map]
              refine ⟨k, plans, rfl, hp8, ?_⟩
              simp [-List.map_map]
              refine e__law_same 11 _ _ ⟨by simp, fun x hx => ?_⟩ ?_
              · simp at hx
                rcases hx with rfl | rfl
                · exact sm_ps 9 _ hr8
                · exact ⟨by simp, by simp⟩
              simp [-List.map_map]
              exact hK _ ⟨a3, c3, _, _, _, _, _, _, _, _, _, _, _, _, _, _, _, h4, by omega, by omega, rfl⟩
    · rintro env ⟨a', c', o1, o2, o3, o4, o5, o6, o7, o8, o9, o10, o11, o12, o13, o14, o15, h1, x1, y1, rfl⟩
      simp
      exact q _ _ h1 (by omega) (by omega)
    · exact ⟨a, c, _, _, _, _, _, _, _, _, _, _, _, _, _, _, _, hb.le (by omega), by omega, by simp [rngD], rfl⟩
  · exact h.elim
end Lk26
namespace TL0
open PySem PySem.Spec PyProof.Rows L2
end TL0
namespace TL
open PySem PySem.Spec PyProof.Rows L2
section
variable {P : Program} {w : World} {K : PySem.W.Frag} {mg : Str → Option Value} {base : Heap} {k : Nat} {B : Tb} {G G' : Gm}
theorem Facts.xnames (e : G = G') (F : Facts P w K mg base k B G) {N : List Str} {l : Bool} : Facts P w K mg base k { B with N := N, lam := l } G' := by
  subst e
  exact ⟨F.fn, F.cn, F.kw, F.bn, F.fx, F.dn⟩
theorem Facts.xC (F : Facts P w K mg base k B G) {x : Str} {d : D} (e : G' = ⟨G.fs, G.cs ++ [d], G.kw, G.ds⟩) (hx : B.cn[G.cs.length]? = some x) {v : V} {u : Value} (h1 : mg x = some u) (h2 : RelV v u) (h3 : ∀ hot H, Rep K mg hot H v d) : Facts P w K mg base k B G' := by
  subst e
  obtain ⟨fs, cs, ks, ts⟩ := G
  exact Facts.addC F hx h1 h2 h3
theorem Facts.xF (F : Facts P w K mg base k B G) {x : Str} {f : FE} (e : G' = ⟨G.fs ++ [f], G.cs, G.kw, G.ds⟩) (hx : B.fn[G.fs.length]? = some x) {ad : Addr} {fd : FuncData} {ps : List Str} (h1 : mg x = some (.ref ad)) (h2 : FnT P w K mg base k ad fd ps (spT K mg f.n f.t))
    (h3 : PySem.W.keepIn K (.ref ad) = true) (h4 : Binds K fd ps []) (h5 : f.x = x) : Facts P w K mg base k B G' := by
  subst e
  obtain ⟨fs, cs, ks, ts⟩ := G
  exact Facts.addF F hx h1 h2 h3 h4 h5
end
end TL
set_option pp.maxSteps 60
namespace Lk26
open PySem PySem.Spec PyProof.Rows L2 TL
abbrev BB : Tb := ⟨[], fnN, cnN, kwN, dnN, false⟩
def GG_0 : Gm := ⟨[], [], [], []⟩
def GG_1 : Gm := ⟨GG_0.fs, GG_0.cs ++ [(.str "counter")], GG_0.kw, GG_0.ds⟩
def GG_2 : Gm := ⟨GG_1.fs, GG_1.cs ++ [(.str "rest")], GG_1.kw, GG_1.ds⟩
def GG_3 : Gm := ⟨GG_2.fs, GG_2.cs ++ [(.str "fallen")], GG_2.kw, GG_2.ds⟩
def GG_4 : Gm := ⟨GG_3.fs, GG_3.cs ++ [(.tup [(.str "open"), (.str "read"), (.str "write"), (.str "mark"), (.str "tell"), (.str "free"), (.str "pass"), (.str "give")])], GG_3.kw, GG_3.ds⟩
def GG_5 : Gm := ⟨GG_4.fs ++ [⟨2, (t__law_same 12), "_law_same"⟩], GG_4.cs, GG_4.kw, GG_4.ds⟩
def GG_6 : Gm := ⟨GG_5.fs ++ [⟨1, t_at_work, "at_work"⟩], GG_5.cs, GG_5.kw, GG_5.ds⟩
def GG_7 : Gm := ⟨GG_6.fs ++ [⟨2, t_has_move, "has_move"⟩], GG_6.cs, GG_6.kw, GG_6.ds⟩
def GG_8 : Gm := ⟨GG_7.fs ++ [⟨1, t_movers, "movers"⟩], GG_7.cs, GG_7.kw, GG_7.ds⟩
def GG_9 : Gm := ⟨GG_8.fs ++ [⟨1, t_is_finished, "is_finished"⟩], GG_8.cs, GG_8.kw, GG_8.ds⟩
def GG_10 : Gm := ⟨GG_9.fs ++ [⟨1, (t_as_tuples 12), "as_tuples"⟩], GG_9.cs, GG_9.kw, GG_9.ds⟩
def GG_11 : Gm := ⟨GG_10.fs ++ [⟨1, t_begun, "begun"⟩], GG_10.cs, GG_10.kw, GG_10.ds⟩
def GG_12 : Gm := ⟨GG_11.fs ++ [⟨2, t_begun_with, "begun_with"⟩], GG_11.cs, GG_11.kw, GG_11.ds⟩
def GG_13 : Gm := ⟨GG_12.fs ++ [⟨2, t__law_take, "_law_take"⟩], GG_12.cs, GG_12.kw, GG_12.ds⟩
def GG_14 : Gm := ⟨GG_13.fs ++ [⟨1, t__law_number, "_law_number"⟩], GG_13.cs, GG_13.kw, GG_13.ds⟩
def GG_15 : Gm := ⟨GG_14.fs ++ [⟨3, t__law_wish, "_law_wish"⟩], GG_14.cs, GG_14.kw, GG_14.ds⟩
def GG_16 : Gm := ⟨GG_15.fs ++ [⟨1, t__law_keys, "_law_keys"⟩], GG_15.cs, GG_15.kw, GG_15.ds⟩
def GG_17 : Gm := ⟨GG_16.fs ++ [⟨4, t__law_plans, "_law_plans"⟩], GG_16.cs, GG_16.kw, GG_16.ds⟩
def GG_18 : Gm := ⟨GG_17.fs ++ [⟨1, t__law_kind, "_law_kind"⟩], GG_17.cs, GG_17.kw, GG_17.ds⟩
def GG_19 : Gm := ⟨GG_18.fs ++ [⟨1, t__law_right, "_law_right"⟩], GG_18.cs, GG_18.kw, GG_18.ds⟩
def GG_20 : Gm := ⟨GG_19.fs ++ [⟨2, t__law_box, "_law_box"⟩], GG_19.cs, GG_19.kw, GG_19.ds⟩
def GG_21 : Gm := ⟨GG_20.fs ++ [⟨2, t__law_cells, "_law_cells"⟩], GG_20.cs, GG_20.kw, GG_20.ds⟩
abbrev sM (K : PySem.W.Frag) (x : Str) (v : Value) : Prop := PySem.W.nsIn K mainGlobals x = some (some v)
abbrev sL (K : PySem.W.Frag) (f : Addr) (n : Str) (p : Nat) (dV kV dc pm : Value) (an : Option Addr) (cd ct oc : Value) (od : Option Addr) (sl : Array (Option Value)) : Prop := K.lookup f = some ⟨oc, od, .func (PySem.W.fnOf n n (defArgs (top p)) (defBody (top p)) (defScope (top p)) dV kV dc pm an cd ct), sl⟩
section
variable {l : PySem.W.OpenLaw} {w : World} {K : PySem.W.Frag} {h : Heap} {mg : Str → Option Value} {base : Heap} (X : K.In h) (G : h.Ns mainGlobals mg) (hb : ∀ x ∈ bnames, mg x = none)
include X G hb
theorem st_0
    {tkc0_1 tkc1_1 tkc2_1 tkc3_2 tkc3_3 tkc3_4 tkc3_5 tkc3_6 tkc3_7 tkc3_8 tkc3_9 : Tok}
    {adc3_1 : Addr}
    {nnc3_1 : Nat}
    {slc3_1 : Array (Option Value)}
    (m_COUNTER : sM K "COUNTER" (.str "counter" tkc0_1))
    (m_REST : sM K "REST" (.str "rest" tkc1_1))
    (m_FALLEN : sM K "FALLEN" (.str "fallen" tkc2_1))
    (m_AT_WORK : sM K "AT_WORK" (.ref adc3_1))
    (hc3_1 : K.lookup adc3_1 = some ⟨.type "tuple", none, .seq #[(.str "open" tkc3_2), (.str "read" tkc3_3), (.str "write" tkc3_4), (.str "mark" tkc3_5), (.str "tell" tkc3_6), (.str "free" tkc3_7), (.str "pass" tkc3_8), (.str "give" tkc3_9)] nnc3_1, slc3_1⟩)
    (P0 : Facts l.prog w K mg base 0 BB GG_0) : Facts l.prog w K mg base 0 BB GG_4 := by
  have PC0 : Facts l.prog w K mg base 0 BB GG_1 := Facts.xC P0 (x := "COUNTER") (d := (.str "counter")) rfl (by rfl) (v := (.str "counter")) (PySem.W.mg_of X G m_COUNTER) ⟨_, rfl⟩ (fun hot H => (.str _ (by decide +kernel)))
  have PC1 : Facts l.prog w K mg base 0 BB GG_2 := Facts.xC PC0 (x := "REST") (d := (.str "rest")) rfl (by rfl) (v := (.str "rest")) (PySem.W.mg_of X G m_REST) ⟨_, rfl⟩ (fun hot H => (.str _ (by decide +kernel)))
  have PC2 : Facts l.prog w K mg base 0 BB GG_3 := Facts.xC PC1 (x := "FALLEN") (d := (.str "fallen")) rfl (by rfl) (v := (.str "fallen")) (PySem.W.mg_of X G m_FALLEN) ⟨_, rfl⟩ (fun hot H => (.str _ (by decide +kernel)))
  have PC3 : Facts l.prog w K mg base 0 BB GG_4 := Facts.xC PC2 (x := "AT_WORK") (d := (.tup [(.str "open"), (.str "read"), (.str "write"), (.str "mark"), (.str "tell"), (.str "free"), (.str "pass"), (.str "give")])) rfl (by rfl) (v := (.ref adc3_1)) (PySem.W.mg_of X G m_AT_WORK) rfl (fun hot H => (Rep.tup (xs := [(.str "open"), (.str "read"), (.str "write"), (.str "mark"), (.str "tell"), (.str "free"), (.str "pass"), (.str "give")]) (.inr ⟨_, _, _, hc3_1, rfl, rfl, rfl, (show (8 : Nat) ≤ sizeLine by decide), (.cons ⟨_, rfl⟩ (.cons ⟨_, rfl⟩ (.cons ⟨_, rfl⟩ (.cons ⟨_, rfl⟩ (.cons ⟨_, rfl⟩ (.cons ⟨_, rfl⟩ (.cons ⟨_, rfl⟩ (.cons ⟨_, rfl⟩ .nil))))))))⟩) (.cons (.str _ (by decide +kernel)) (.cons (.str _ (by decide +kernel)) (.cons (.str _ (by decide +kernel)) (.cons (.str _ (by decide +kernel)) (.cons (.str _ (by decide +kernel)) (.cons (.str _ (by decide +kernel)) (.cons (.str _ (by decide +kernel)) (.cons (.str _ (by decide +kernel)) .nil))))))))))
  exact PC3
theorem st_1
    {f0 : Addr}
    {od0 an0 : Option Addr}
    {sl0 : Array (Option Value)}
    {oc0 dc0 pm0 cd0 ct0 kV0 : Value}
    (m0 : sM K "_law_same" (.ref f0))
    (l0 : sL K f0 "_law_same" 26 .none kV0 dc0 pm0 an0 cd0 ct0 oc0 od0 sl0)
    (c0 : PySem.W.codeIn K cd0 "_law_same" = true)
    (k0 : PySem.W.keepIn K (.ref f0) = true)
    (PC3 : Facts l.prog w K mg base 0 BB GG_4) : Facts l.prog w K mg base 12 BB GG_5 := by
  have F0 := funG_mk (st := (top 26)) l0 c0 k0
  have T0 : ∀ d : Nat, FnT l.prog w K mg base (0 + d) f0 (PySem.W.fnOf "_law_same" "_law_same" (defArgs (top 26)) (defBody (top 26)) (defScope (top 26)) .none kV0 dc0 pm0 an0 cd0 ct0) ["_law_found", "_law_due"] (spT K mg 2 (t__law_same d)) := by
    intro d
    induction d with
    | zero => exact fnT_no rfl
    | succ d ih =>
      have R0 : Facts l.prog w K mg base (0 + d) BB ⟨GG_4.fs ++ [⟨2, t__law_same d, "_law_same"⟩], GG_4.cs, GG_4.kw, GG_4.ds⟩ := Facts.xF (Facts.mono PC3 (Nat.le_add_right 0 d)) (x := "_law_same") (f := ⟨2, t__law_same d, "_law_same"⟩) rfl (by rfl) (PySem.W.mg_of X G m0) ih k0 (F0.binds fun _ _ _ _ _ us hl => match us, hl with | [_, _], _ => rfl) rfl
      have Q0 : Facts l.prog w K mg base (0 + d) B__law_same (G__law_same d) := Facts.xnames (by kernel_rfl) (N := N__law_same) (l := false) R0
      exact def_B F0 s__law_same (n := 2) rfl Q0 b__law_same c__law_same (t := t__law_same (d + 1)) (f__law_same d) (w__law_same d)
  have U0 := T0 12
  have R0_0 : Facts l.prog w K mg base 12 BB GG_4 := Facts.mono (k := 12) PC3 (by decide)
  have R0_1 : Facts l.prog w K mg base 12 BB GG_5 := Facts.xF R0_0 (x := "_law_same") (f := ⟨2, (t__law_same 12), "_law_same"⟩) rfl (by rfl) (PySem.W.mg_of X G m0) U0 k0 (F0.binds fun _ _ _ _ _ us hl => match us, hl with | [_, _], _ => rfl) rfl
  exact R0_1
theorem st_2
    {f1 : Addr}
    {od1 an1 : Option Addr}
    {sl1 : Array (Option Value)}
    {oc1 dc1 pm1 cd1 ct1 kV1 : Value}
    (m1 : sM K "at_work" (.ref f1))
    (l1 : sL K f1 "at_work" 21 .none kV1 dc1 pm1 an1 cd1 ct1 oc1 od1 sl1)
    (c1 : PySem.W.codeIn K cd1 "at_work" = true)
    (k1 : PySem.W.keepIn K (.ref f1) = true)
    (R0_1 : Facts l.prog w K mg base 12 BB GG_5) : Facts l.prog w K mg base 13 BB GG_6 := by
  have F1 := funG_mk (st := (top 21)) l1 c1 k1
  have Q1 : Facts l.prog w K mg base 12 B_at_work G_at_work := Facts.xnames (by kernel_rfl) (N := N_at_work) (l := false) R0_1
  have U1 := def_B F1 s_at_work (n := 1) rfl Q1 b_at_work c_at_work (t := t_at_work) f_at_work w_at_work
  have R1_0 : Facts l.prog w K mg base 13 BB GG_5 := Facts.mono (k := 13) R0_1 (by decide)
  have R1_1 : Facts l.prog w K mg base 13 BB GG_6 := Facts.xF R1_0 (x := "at_work") (f := ⟨1, t_at_work, "at_work"⟩) rfl (by rfl) (PySem.W.mg_of X G m1) U1 k1 (F1.binds fun _ _ _ _ _ us hl => match us, hl with | [_], _ => rfl) rfl
  exact R1_1
theorem st_3
    {f2 : Addr}
    {od2 an2 : Option Addr}
    {sl2 : Array (Option Value)}
    {oc2 dc2 pm2 cd2 ct2 kV2 : Value}
    (m2 : sM K "has_move" (.ref f2))
    (l2 : sL K f2 "has_move" 18 .none kV2 dc2 pm2 an2 cd2 ct2 oc2 od2 sl2)
    (c2 : PySem.W.codeIn K cd2 "has_move" = true)
    (k2 : PySem.W.keepIn K (.ref f2) = true)
    (R1_1 : Facts l.prog w K mg base 13 BB GG_6) : Facts l.prog w K mg base 14 BB GG_7 := by
  have F2 := funG_mk (st := (top 18)) l2 c2 k2
  have Q2 : Facts l.prog w K mg base 13 B_has_move G_has_move := Facts.xnames (by kernel_rfl) (N := N_has_move) (l := false) R1_1
  have U2 := def_B F2 s_has_move (n := 2) rfl Q2 b_has_move c_has_move (t := t_has_move) f_has_move w_has_move
  have R2_0 : Facts l.prog w K mg base 14 BB GG_6 := Facts.mono (k := 14) R1_1 (by decide)
  have R2_1 : Facts l.prog w K mg base 14 BB GG_7 := Facts.xF R2_0 (x := "has_move") (f := ⟨2, t_has_move, "has_move"⟩) rfl (by rfl) (PySem.W.mg_of X G m2) U2 k2 (F2.binds fun _ _ _ _ _ us hl => match us, hl with | [_, _], _ => rfl) rfl
  exact R2_1
theorem st_4
    {f3 : Addr}
    {od3 an3 : Option Addr}
    {sl3 : Array (Option Value)}
    {oc3 dc3 pm3 cd3 ct3 kV3 : Value}
    (m3 : sM K "movers" (.ref f3))
    (l3 : sL K f3 "movers" 19 .none kV3 dc3 pm3 an3 cd3 ct3 oc3 od3 sl3)
    (c3 : PySem.W.codeIn K cd3 "movers" = true)
    (k3 : PySem.W.keepIn K (.ref f3) = true)
    (R2_1 : Facts l.prog w K mg base 14 BB GG_7) : Facts l.prog w K mg base 15 BB GG_8 := by
  have F3 := funG_mk (st := (top 19)) l3 c3 k3
  have Q3 : Facts l.prog w K mg base 14 B_movers G_movers := Facts.xnames (by kernel_rfl) (N := N_movers) (l := false) R2_1
  have U3 := def_B F3 s_movers (n := 1) rfl Q3 b_movers c_movers (t := t_movers) f_movers w_movers
  have R3_0 : Facts l.prog w K mg base 15 BB GG_7 := Facts.mono (k := 15) R2_1 (by decide)
  have R3_1 : Facts l.prog w K mg base 15 BB GG_8 := Facts.xF R3_0 (x := "movers") (f := ⟨1, t_movers, "movers"⟩) rfl (by rfl) (PySem.W.mg_of X G m3) U3 k3 (F3.binds fun _ _ _ _ _ us hl => match us, hl with | [_], _ => rfl) rfl
  exact R3_1
theorem st_5
    {f4 : Addr}
    {od4 an4 : Option Addr}
    {sl4 : Array (Option Value)}
    {oc4 dc4 pm4 cd4 ct4 kV4 : Value}
    (m4 : sM K "is_finished" (.ref f4))
    (l4 : sL K f4 "is_finished" 20 .none kV4 dc4 pm4 an4 cd4 ct4 oc4 od4 sl4)
    (c4 : PySem.W.codeIn K cd4 "is_finished" = true)
    (k4 : PySem.W.keepIn K (.ref f4) = true)
    (R3_1 : Facts l.prog w K mg base 15 BB GG_8) : Facts l.prog w K mg base 16 BB GG_9 := by
  have F4 := funG_mk (st := (top 20)) l4 c4 k4
  have Q4 : Facts l.prog w K mg base 15 B_is_finished G_is_finished := Facts.xnames (by kernel_rfl) (N := N_is_finished) (l := false) R3_1
  have U4 := def_B F4 s_is_finished (n := 1) rfl Q4 b_is_finished c_is_finished (t := t_is_finished) f_is_finished w_is_finished
  have R4_0 : Facts l.prog w K mg base 16 BB GG_8 := Facts.mono (k := 16) R3_1 (by decide)
  have R4_1 : Facts l.prog w K mg base 16 BB GG_9 := Facts.xF R4_0 (x := "is_finished") (f := ⟨1, t_is_finished, "is_finished"⟩) rfl (by rfl) (PySem.W.mg_of X G m4) U4 k4 (F4.binds fun _ _ _ _ _ us hl => match us, hl with | [_], _ => rfl) rfl
  exact R4_1
theorem st_6
    {f5 : Addr}
    {od5 an5 : Option Addr}
    {sl5 : Array (Option Value)}
    {oc5 dc5 pm5 cd5 ct5 kV5 : Value}
    (m5 : sM K "as_tuples" (.ref f5))
    (l5 : sL K f5 "as_tuples" 2 .none kV5 dc5 pm5 an5 cd5 ct5 oc5 od5 sl5)
    (c5 : PySem.W.codeIn K cd5 "as_tuples" = true)
    (k5 : PySem.W.keepIn K (.ref f5) = true)
    (R4_1 : Facts l.prog w K mg base 16 BB GG_9) : Facts l.prog w K mg base 28 BB GG_10 := by
  have F5 := funG_mk (st := (top 2)) l5 c5 k5
  have T5 : ∀ d : Nat, FnT l.prog w K mg base (16 + d) f5 (PySem.W.fnOf "as_tuples" "as_tuples" (defArgs (top 2)) (defBody (top 2)) (defScope (top 2)) .none kV5 dc5 pm5 an5 cd5 ct5) ["thing"] (spT K mg 1 (t_as_tuples d)) := by
    intro d
    induction d with
    | zero => exact fnT_no rfl
    | succ d ih =>
      have R0 : Facts l.prog w K mg base (16 + d) BB ⟨GG_9.fs ++ [⟨1, t_as_tuples d, "as_tuples"⟩], GG_9.cs, GG_9.kw, GG_9.ds⟩ := Facts.xF (Facts.mono R4_1 (Nat.le_add_right 16 d)) (x := "as_tuples") (f := ⟨1, t_as_tuples d, "as_tuples"⟩) rfl (by rfl) (PySem.W.mg_of X G m5) ih k5 (F5.binds fun _ _ _ _ _ us hl => match us, hl with | [_], _ => rfl) rfl
      have Q0 : Facts l.prog w K mg base (16 + d) B_as_tuples (G_as_tuples d) := Facts.xnames (by kernel_rfl) (N := N_as_tuples) (l := false) R0
      exact def_B F5 s_as_tuples (n := 1) rfl Q0 b_as_tuples c_as_tuples (t := t_as_tuples (d + 1)) (f_as_tuples d) (w_as_tuples d)
  have U5 := T5 12
  have R5_0 : Facts l.prog w K mg base 28 BB GG_9 := Facts.mono (k := 28) R4_1 (by decide)
  have R5_1 : Facts l.prog w K mg base 28 BB GG_10 := Facts.xF R5_0 (x := "as_tuples") (f := ⟨1, (t_as_tuples 12), "as_tuples"⟩) rfl (by rfl) (PySem.W.mg_of X G m5) U5 k5 (F5.binds fun _ _ _ _ _ us hl => match us, hl with | [_], _ => rfl) rfl
  exact R5_1
theorem st_7
    {f6 : Addr}
    {od6 an6 : Option Addr}
    {sl6 : Array (Option Value)}
    {oc6 dc6 pm6 cd6 ct6 kV6 : Value}
    (m6 : sM K "begun" (.ref f6))
    (l6 : sL K f6 "begun" 4 .none kV6 dc6 pm6 an6 cd6 ct6 oc6 od6 sl6)
    (c6 : PySem.W.codeIn K cd6 "begun" = true)
    (k6 : PySem.W.keepIn K (.ref f6) = true)
    (R5_1 : Facts l.prog w K mg base 28 BB GG_10) : Facts l.prog w K mg base 29 BB GG_11 := by
  have F6 := funG_mk (st := (top 4)) l6 c6 k6
  have Q6 : Facts l.prog w K mg base 28 B_begun G_begun := Facts.xnames (by kernel_rfl) (N := N_begun) (l := false) R5_1
  have U6 := def_B F6 s_begun (n := 1) rfl Q6 b_begun c_begun (t := t_begun) f_begun w_begun
  have R6_0 : Facts l.prog w K mg base 29 BB GG_10 := Facts.mono (k := 29) R5_1 (by decide)
  have R6_1 : Facts l.prog w K mg base 29 BB GG_11 := Facts.xF R6_0 (x := "begun") (f := ⟨1, t_begun, "begun"⟩) rfl (by rfl) (PySem.W.mg_of X G m6) U6 k6 (F6.binds fun _ _ _ _ _ us hl => match us, hl with | [_], _ => rfl) rfl
  exact R6_1
theorem st_8
    {f7 : Addr}
    {od7 an7 : Option Addr}
    {sl7 : Array (Option Value)}
    {oc7 dc7 pm7 cd7 ct7 kV7 : Value}
    (m7 : sM K "begun_with" (.ref f7))
    (l7 : sL K f7 "begun_with" 17 .none kV7 dc7 pm7 an7 cd7 ct7 oc7 od7 sl7)
    (c7 : PySem.W.codeIn K cd7 "begun_with" = true)
    (k7 : PySem.W.keepIn K (.ref f7) = true)
    (R6_1 : Facts l.prog w K mg base 29 BB GG_11) : Facts l.prog w K mg base 30 BB GG_12 := by
  have F7 := funG_mk (st := (top 17)) l7 c7 k7
  have Q7 : Facts l.prog w K mg base 29 B_begun_with G_begun_with := Facts.xnames (by kernel_rfl) (N := N_begun_with) (l := false) R6_1
  have U7 := def_B F7 s_begun_with (n := 2) rfl Q7 b_begun_with c_begun_with (t := t_begun_with) f_begun_with w_begun_with
  have R7_0 : Facts l.prog w K mg base 30 BB GG_11 := Facts.mono (k := 30) R6_1 (by decide)
  have R7_1 : Facts l.prog w K mg base 30 BB GG_12 := Facts.xF R7_0 (x := "begun_with") (f := ⟨2, t_begun_with, "begun_with"⟩) rfl (by rfl) (PySem.W.mg_of X G m7) U7 k7 (F7.binds fun _ _ _ _ _ us hl => match us, hl with | [_, _], _ => rfl) rfl
  exact R7_1
theorem st_9
    {f8 : Addr}
    {od8 an8 : Option Addr}
    {sl8 : Array (Option Value)}
    {oc8 dc8 pm8 cd8 ct8 kV8 : Value}
    (m8 : sM K "_law_take" (.ref f8))
    (l8 : sL K f8 "_law_take" 24 .none kV8 dc8 pm8 an8 cd8 ct8 oc8 od8 sl8)
    (c8 : PySem.W.codeIn K cd8 "_law_take" = true)
    (k8 : PySem.W.keepIn K (.ref f8) = true)
    (R7_1 : Facts l.prog w K mg base 30 BB GG_12) : Facts l.prog w K mg base 31 BB GG_13 := by
  have F8 := funG_mk (st := (top 24)) l8 c8 k8
  have Q8 : Facts l.prog w K mg base 30 B__law_take G__law_take := Facts.xnames (by kernel_rfl) (N := N__law_take) (l := false) R7_1
  have U8 := def_A F8 s__law_take (n := 2) rfl Q8 b__law_take c__law_take (t := t__law_take) w__law_take
  have R8_0 : Facts l.prog w K mg base 31 BB GG_12 := Facts.mono (k := 31) R7_1 (by decide)
  have R8_1 : Facts l.prog w K mg base 31 BB GG_13 := Facts.xF R8_0 (x := "_law_take") (f := ⟨2, t__law_take, "_law_take"⟩) rfl (by rfl) (PySem.W.mg_of X G m8) U8 k8 (F8.binds fun _ _ _ _ _ us hl => match us, hl with | [_, _], _ => rfl) rfl
  exact R8_1
theorem st_10
    {f9 : Addr}
    {od9 an9 : Option Addr}
    {sl9 : Array (Option Value)}
    {oc9 dc9 pm9 cd9 ct9 kV9 : Value}
    (m9 : sM K "_law_number" (.ref f9))
    (l9 : sL K f9 "_law_number" 27 .none kV9 dc9 pm9 an9 cd9 ct9 oc9 od9 sl9)
    (c9 : PySem.W.codeIn K cd9 "_law_number" = true)
    (k9 : PySem.W.keepIn K (.ref f9) = true)
    (R8_1 : Facts l.prog w K mg base 31 BB GG_13) : Facts l.prog w K mg base 32 BB GG_14 := by
  have F9 := funG_mk (st := (top 27)) l9 c9 k9
  have Q9 : Facts l.prog w K mg base 31 B__law_number G__law_number := Facts.xnames (by kernel_rfl) (N := N__law_number) (l := false) R8_1
  have U9 := def_A F9 s__law_number (n := 1) rfl Q9 b__law_number c__law_number (t := t__law_number) w__law_number
  have R9_0 : Facts l.prog w K mg base 32 BB GG_13 := Facts.mono (k := 32) R8_1 (by decide)
  have R9_1 : Facts l.prog w K mg base 32 BB GG_14 := Facts.xF R9_0 (x := "_law_number") (f := ⟨1, t__law_number, "_law_number"⟩) rfl (by rfl) (PySem.W.mg_of X G m9) U9 k9 (F9.binds fun _ _ _ _ _ us hl => match us, hl with | [_], _ => rfl) rfl
  exact R9_1
theorem st_11
    {f10 : Addr}
    {od10 an10 : Option Addr}
    {sl10 : Array (Option Value)}
    {oc10 dc10 pm10 cd10 ct10 kV10 : Value}
    (m10 : sM K "_law_wish" (.ref f10))
    (l10 : sL K f10 "_law_wish" 29 .none kV10 dc10 pm10 an10 cd10 ct10 oc10 od10 sl10)
    (c10 : PySem.W.codeIn K cd10 "_law_wish" = true)
    (k10 : PySem.W.keepIn K (.ref f10) = true)
    (R9_1 : Facts l.prog w K mg base 32 BB GG_14) : Facts l.prog w K mg base 33 BB GG_15 := by
  have F10 := funG_mk (st := (top 29)) l10 c10 k10
  have Q10 : Facts l.prog w K mg base 32 B__law_wish G__law_wish := Facts.xnames (by kernel_rfl) (N := N__law_wish) (l := false) R9_1
  have U10 := def_A F10 s__law_wish (n := 3) rfl Q10 b__law_wish c__law_wish (t := t__law_wish) w__law_wish
  have R10_0 : Facts l.prog w K mg base 33 BB GG_14 := Facts.mono (k := 33) R9_1 (by decide)
  have R10_1 : Facts l.prog w K mg base 33 BB GG_15 := Facts.xF R10_0 (x := "_law_wish") (f := ⟨3, t__law_wish, "_law_wish"⟩) rfl (by rfl) (PySem.W.mg_of X G m10) U10 k10 (F10.binds fun _ _ _ _ _ us hl => match us, hl with | [_, _, _], _ => rfl) rfl
  exact R10_1
theorem st_12
    {f11 : Addr}
    {od11 an11 : Option Addr}
    {sl11 : Array (Option Value)}
    {oc11 dc11 pm11 cd11 ct11 kV11 : Value}
    (m11 : sM K "_law_keys" (.ref f11))
    (l11 : sL K f11 "_law_keys" 28 .none kV11 dc11 pm11 an11 cd11 ct11 oc11 od11 sl11)
    (c11 : PySem.W.codeIn K cd11 "_law_keys" = true)
    (k11 : PySem.W.keepIn K (.ref f11) = true)
    (R10_1 : Facts l.prog w K mg base 33 BB GG_15) : Facts l.prog w K mg base 34 BB GG_16 := by
  have F11 := funG_mk (st := (top 28)) l11 c11 k11
  have Q11 : Facts l.prog w K mg base 33 B__law_keys G__law_keys := Facts.xnames (by kernel_rfl) (N := N__law_keys) (l := false) R10_1
  have U11 := def_A F11 s__law_keys (n := 1) rfl Q11 b__law_keys c__law_keys (t := t__law_keys) w__law_keys
  have R11_0 : Facts l.prog w K mg base 34 BB GG_15 := Facts.mono (k := 34) R10_1 (by decide)
  have R11_1 : Facts l.prog w K mg base 34 BB GG_16 := Facts.xF R11_0 (x := "_law_keys") (f := ⟨1, t__law_keys, "_law_keys"⟩) rfl (by rfl) (PySem.W.mg_of X G m11) U11 k11 (F11.binds fun _ _ _ _ _ us hl => match us, hl with | [_], _ => rfl) rfl
  exact R11_1
theorem st_13
    {f12 : Addr}
    {od12 an12 : Option Addr}
    {sl12 : Array (Option Value)}
    {oc12 dc12 pm12 cd12 ct12 kV12 : Value}
    (m12 : sM K "_law_plans" (.ref f12))
    (l12 : sL K f12 "_law_plans" 31 .none kV12 dc12 pm12 an12 cd12 ct12 oc12 od12 sl12)
    (c12 : PySem.W.codeIn K cd12 "_law_plans" = true)
    (k12 : PySem.W.keepIn K (.ref f12) = true)
    (R11_1 : Facts l.prog w K mg base 34 BB GG_16) : Facts l.prog w K mg base 35 BB GG_17 := by
  have F12 := funG_mk (st := (top 31)) l12 c12 k12
  have Q12 : Facts l.prog w K mg base 34 B__law_plans G__law_plans := Facts.xnames (by kernel_rfl) (N := N__law_plans) (l := false) R11_1
  have U12 := def_A F12 s__law_plans (n := 4) rfl Q12 b__law_plans c__law_plans (t := t__law_plans) w__law_plans
  have R12_0 : Facts l.prog w K mg base 35 BB GG_16 := Facts.mono (k := 35) R11_1 (by decide)
  have R12_1 : Facts l.prog w K mg base 35 BB GG_17 := Facts.xF R12_0 (x := "_law_plans") (f := ⟨4, t__law_plans, "_law_plans"⟩) rfl (by rfl) (PySem.W.mg_of X G m12) U12 k12 (F12.binds fun _ _ _ _ _ us hl => match us, hl with | [_, _, _, _], _ => rfl) rfl
  exact R12_1
theorem st_14
    {f13 : Addr}
    {od13 an13 : Option Addr}
    {sl13 : Array (Option Value)}
    {oc13 dc13 pm13 cd13 ct13 kV13 : Value}
    (m13 : sM K "_law_kind" (.ref f13))
    (l13 : sL K f13 "_law_kind" 30 .none kV13 dc13 pm13 an13 cd13 ct13 oc13 od13 sl13)
    (c13 : PySem.W.codeIn K cd13 "_law_kind" = true)
    (k13 : PySem.W.keepIn K (.ref f13) = true)
    (R12_1 : Facts l.prog w K mg base 35 BB GG_17) : Facts l.prog w K mg base 36 BB GG_18 := by
  have F13 := funG_mk (st := (top 30)) l13 c13 k13
  have Q13 : Facts l.prog w K mg base 35 B__law_kind G__law_kind := Facts.xnames (by kernel_rfl) (N := N__law_kind) (l := false) R12_1
  have U13 := def_A F13 s__law_kind (n := 1) rfl Q13 b__law_kind c__law_kind (t := t__law_kind) w__law_kind
  have R13_0 : Facts l.prog w K mg base 36 BB GG_17 := Facts.mono (k := 36) R12_1 (by decide)
  have R13_1 : Facts l.prog w K mg base 36 BB GG_18 := Facts.xF R13_0 (x := "_law_kind") (f := ⟨1, t__law_kind, "_law_kind"⟩) rfl (by rfl) (PySem.W.mg_of X G m13) U13 k13 (F13.binds fun _ _ _ _ _ us hl => match us, hl with | [_], _ => rfl) rfl
  exact R13_1
theorem st_15
    {f14 : Addr}
    {od14 an14 : Option Addr}
    {sl14 : Array (Option Value)}
    {oc14 dc14 pm14 cd14 ct14 kV14 : Value}
    (m14 : sM K "_law_right" (.ref f14))
    (l14 : sL K f14 "_law_right" 32 .none kV14 dc14 pm14 an14 cd14 ct14 oc14 od14 sl14)
    (c14 : PySem.W.codeIn K cd14 "_law_right" = true)
    (k14 : PySem.W.keepIn K (.ref f14) = true)
    (R13_1 : Facts l.prog w K mg base 36 BB GG_18) : Facts l.prog w K mg base 37 BB GG_19 := by
  have F14 := funG_mk (st := (top 32)) l14 c14 k14
  have Q14 : Facts l.prog w K mg base 36 B__law_right G__law_right := Facts.xnames (by kernel_rfl) (N := N__law_right) (l := false) R13_1
  have U14 := def_A F14 s__law_right (n := 1) rfl Q14 b__law_right c__law_right (t := t__law_right) w__law_right
  have R14_0 : Facts l.prog w K mg base 37 BB GG_18 := Facts.mono (k := 37) R13_1 (by decide)
  have R14_1 : Facts l.prog w K mg base 37 BB GG_19 := Facts.xF R14_0 (x := "_law_right") (f := ⟨1, t__law_right, "_law_right"⟩) rfl (by rfl) (PySem.W.mg_of X G m14) U14 k14 (F14.binds fun _ _ _ _ _ us hl => match us, hl with | [_], _ => rfl) rfl
  exact R14_1
theorem st_16
    {f15 : Addr}
    {od15 an15 : Option Addr}
    {sl15 : Array (Option Value)}
    {oc15 dc15 pm15 cd15 ct15 kV15 : Value}
    (m15 : sM K "_law_box" (.ref f15))
    (l15 : sL K f15 "_law_box" 23 .none kV15 dc15 pm15 an15 cd15 ct15 oc15 od15 sl15)
    (c15 : PySem.W.codeIn K cd15 "_law_box" = true)
    (k15 : PySem.W.keepIn K (.ref f15) = true)
    (R14_1 : Facts l.prog w K mg base 37 BB GG_19) : Facts l.prog w K mg base 38 BB GG_20 := by
  have F15 := funG_mk (st := (top 23)) l15 c15 k15
  have Q15 : Facts l.prog w K mg base 37 B__law_box G__law_box := Facts.xnames (by kernel_rfl) (N := N__law_box) (l := false) R14_1
  have U15 := def_B F15 s__law_box (n := 2) rfl Q15 b__law_box c__law_box (t := t__law_box) f__law_box w__law_box
  have R15_0 : Facts l.prog w K mg base 38 BB GG_19 := Facts.mono (k := 38) R14_1 (by decide)
  have R15_1 : Facts l.prog w K mg base 38 BB GG_20 := Facts.xF R15_0 (x := "_law_box") (f := ⟨2, t__law_box, "_law_box"⟩) rfl (by rfl) (PySem.W.mg_of X G m15) U15 k15 (F15.binds fun _ _ _ _ _ us hl => match us, hl with | [_, _], _ => rfl) rfl
  exact R15_1
theorem st_17
    {f16 : Addr}
    {od16 an16 : Option Addr}
    {sl16 : Array (Option Value)}
    {oc16 dc16 pm16 cd16 ct16 kV16 : Value}
    (m16 : sM K "_law_cells" (.ref f16))
    (l16 : sL K f16 "_law_cells" 25 .none kV16 dc16 pm16 an16 cd16 ct16 oc16 od16 sl16)
    (c16 : PySem.W.codeIn K cd16 "_law_cells" = true)
    (k16 : PySem.W.keepIn K (.ref f16) = true)
    (R15_1 : Facts l.prog w K mg base 38 BB GG_20) : Facts l.prog w K mg base 39 BB GG_21 := by
  have F16 := funG_mk (st := (top 25)) l16 c16 k16
  have Q16 : Facts l.prog w K mg base 38 B__law_cells G__law_cells := Facts.xnames (by kernel_rfl) (N := N__law_cells) (l := false) R15_1
  have U16 := def_B F16 s__law_cells (n := 2) rfl Q16 b__law_cells c__law_cells (t := t__law_cells) f__law_cells w__law_cells
  have R16_0 : Facts l.prog w K mg base 39 BB GG_20 := Facts.mono (k := 39) R15_1 (by decide)
  have R16_1 : Facts l.prog w K mg base 39 BB GG_21 := Facts.xF R16_0 (x := "_law_cells") (f := ⟨2, t__law_cells, "_law_cells"⟩) rfl (by rfl) (PySem.W.mg_of X G m16) U16 k16 (F16.binds fun _ _ _ _ _ us hl => match us, hl with | [_, _], _ => rfl) rfl
  exact R16_1
theorem st_18
    {f17 : Addr}
    {od17 an17 : Option Addr}
    {sl17 : Array (Option Value)}
    {oc17 dc17 pm17 cd17 ct17 kV17 : Value}
    (l17 : sL K f17 "law" 33 .none kV17 dc17 pm17 an17 cd17 ct17 oc17 od17 sl17)
    (c17 : PySem.W.codeIn K cd17 "law" = true)
    (k17 : PySem.W.keepIn K (.ref f17) = true)
    (R16_1 : Facts l.prog w K mg base 39 BB GG_21) : FnT l.prog w K mg base 40 f17 (PySem.W.fnOf "law" "law" (defArgs (top 33)) (defBody (top 33)) (defScope (top 33)) .none kV17 dc17 pm17 an17 cd17 ct17) ["_law_script"] (spT K mg 1 tLawD) := by
  have F17 := funG_mk (st := (top 33)) l17 c17 k17
  have Q17 : Facts l.prog w K mg base 39 B_law G_law := Facts.xnames (by kernel_rfl) (N := N_law) (l := false) R16_1
  have U17 := def_B F17 s_law (n := 1) rfl Q17 b_law c_law (t := t_law) f_law w_law
  exact U17
end
theorem all_mk {l : PySem.W.OpenLaw} {w : World} {K : PySem.W.Frag} {h : Heap} {mg : Str → Option Value} {fa : Addr} (X : K.In h) (G : h.Ns mainGlobals mg) (hfa : mg "law" = some (.ref fa))
    {tkc0_1 tkc1_1 tkc2_1 tkc3_2 tkc3_3 tkc3_4 tkc3_5 tkc3_6 tkc3_7 tkc3_8 tkc3_9 : Tok}
    {adc3_1 f0 f1 f2 f3 f4 f5 f6 f7 f8 f9 f10 f11 f12 f13 f14 f15 f16 f17 : Addr}
    {nnc3_1 : Nat}
    {slc3_1 sl0 sl1 sl2 sl3 sl4 sl5 sl6 sl7 sl8 sl9 sl10 sl11 sl12 sl13 sl14 sl15 sl16 sl17 : Array (Option Value)}
    {od0 an0 od1 an1 od2 an2 od3 an3 od4 an4 od5 an5 od6 an6 od7 an7 od8 an8 od9 an9 od10 an10 od11 an11 od12 an12 od13 an13 od14 an14 od15 an15 od16 an16 od17 an17 : Option Addr}
    {oc0 dc0 pm0 cd0 ct0 kV0 oc1 dc1 pm1 cd1 ct1 kV1 oc2 dc2 pm2 cd2 ct2 kV2 oc3 dc3 pm3 cd3 ct3 kV3 oc4 dc4 pm4 cd4 ct4 kV4 oc5 dc5 pm5 cd5 ct5 kV5 oc6 dc6 pm6 cd6 ct6 kV6 oc7 dc7 pm7 cd7 ct7 kV7 oc8 dc8 pm8 cd8 ct8 kV8 oc9 dc9 pm9 cd9 ct9 kV9 oc10 dc10 pm10 cd10 ct10 kV10 oc11 dc11 pm11 cd11 ct11 kV11 oc12 dc12 pm12 cd12 ct12 kV12 oc13 dc13 pm13 cd13 ct13 kV13 oc14 dc14 pm14 cd14 ct14 kV14 oc15 dc15 pm15 cd15 ct15 kV15 oc16 dc16 pm16 cd16 ct16 kV16 oc17 dc17 pm17 cd17 ct17 kV17 : Value}
    (z_len : PySem.W.nsIn K mainGlobals "len" = some none)
    (z_abs : PySem.W.nsIn K mainGlobals "abs" = some none)
    (z_int : PySem.W.nsIn K mainGlobals "int" = some none)
    (z_list : PySem.W.nsIn K mainGlobals "list" = some none)
    (z_tuple : PySem.W.nsIn K mainGlobals "tuple" = some none)
    (z_all : PySem.W.nsIn K mainGlobals "all" = some none)
    (z_any : PySem.W.nsIn K mainGlobals "any" = some none)
    (z_repr : PySem.W.nsIn K mainGlobals "repr" = some none)
    (z_range : PySem.W.nsIn K mainGlobals "range" = some none)
    (z_enumerate : PySem.W.nsIn K mainGlobals "enumerate" = some none)
    (z_zip : PySem.W.nsIn K mainGlobals "zip" = some none)
    (z_sorted : PySem.W.nsIn K mainGlobals "sorted" = some none)
    (z_set : PySem.W.nsIn K mainGlobals "set" = some none)
    (z_max : PySem.W.nsIn K mainGlobals "max" = some none)
    (z_min : PySem.W.nsIn K mainGlobals "min" = some none)
    (z_sum : PySem.W.nsIn K mainGlobals "sum" = some none)
    (z_divmod : PySem.W.nsIn K mainGlobals "divmod" = some none)
    (z_isinstance : PySem.W.nsIn K mainGlobals "isinstance" = some none)
    (z_str : PySem.W.nsIn K mainGlobals "str" = some none)
    (z_bool : PySem.W.nsIn K mainGlobals "bool" = some none)
    (z_dict : PySem.W.nsIn K mainGlobals "dict" = some none)
    (z_reversed : PySem.W.nsIn K mainGlobals "reversed" = some none)
    (z_type : PySem.W.nsIn K mainGlobals "type" = some none)
    (m_COUNTER : PySem.W.nsIn K mainGlobals "COUNTER" = some (some (.str "counter" tkc0_1)))
    (m_REST : PySem.W.nsIn K mainGlobals "REST" = some (some (.str "rest" tkc1_1)))
    (m_FALLEN : PySem.W.nsIn K mainGlobals "FALLEN" = some (some (.str "fallen" tkc2_1)))
    (m_AT_WORK : PySem.W.nsIn K mainGlobals "AT_WORK" = some (some (.ref adc3_1)))
    (hc3_1 : K.lookup adc3_1 = some ⟨.type "tuple", none, .seq #[(.str "open" tkc3_2), (.str "read" tkc3_3), (.str "write" tkc3_4), (.str "mark" tkc3_5), (.str "tell" tkc3_6), (.str "free" tkc3_7), (.str "pass" tkc3_8), (.str "give" tkc3_9)] nnc3_1, slc3_1⟩)
    (m0 : PySem.W.nsIn K mainGlobals "_law_same" = some (some (.ref f0)))
    (l0 : K.lookup f0 = some ⟨oc0, od0, .func (PySem.W.fnOf "_law_same" "_law_same" (defArgs (top 26)) (defBody (top 26)) (defScope (top 26)) .none kV0 dc0 pm0 an0 cd0 ct0), sl0⟩)
    (c0 : PySem.W.codeIn K cd0 "_law_same" = true)
    (k0 : PySem.W.keepIn K (.ref f0) = true)
    (m1 : PySem.W.nsIn K mainGlobals "at_work" = some (some (.ref f1)))
    (l1 : K.lookup f1 = some ⟨oc1, od1, .func (PySem.W.fnOf "at_work" "at_work" (defArgs (top 21)) (defBody (top 21)) (defScope (top 21)) .none kV1 dc1 pm1 an1 cd1 ct1), sl1⟩)
    (c1 : PySem.W.codeIn K cd1 "at_work" = true)
    (k1 : PySem.W.keepIn K (.ref f1) = true)
    (m2 : PySem.W.nsIn K mainGlobals "has_move" = some (some (.ref f2)))
    (l2 : K.lookup f2 = some ⟨oc2, od2, .func (PySem.W.fnOf "has_move" "has_move" (defArgs (top 18)) (defBody (top 18)) (defScope (top 18)) .none kV2 dc2 pm2 an2 cd2 ct2), sl2⟩)
    (c2 : PySem.W.codeIn K cd2 "has_move" = true)
    (k2 : PySem.W.keepIn K (.ref f2) = true)
    (m3 : PySem.W.nsIn K mainGlobals "movers" = some (some (.ref f3)))
    (l3 : K.lookup f3 = some ⟨oc3, od3, .func (PySem.W.fnOf "movers" "movers" (defArgs (top 19)) (defBody (top 19)) (defScope (top 19)) .none kV3 dc3 pm3 an3 cd3 ct3), sl3⟩)
    (c3 : PySem.W.codeIn K cd3 "movers" = true)
    (k3 : PySem.W.keepIn K (.ref f3) = true)
    (m4 : PySem.W.nsIn K mainGlobals "is_finished" = some (some (.ref f4)))
    (l4 : K.lookup f4 = some ⟨oc4, od4, .func (PySem.W.fnOf "is_finished" "is_finished" (defArgs (top 20)) (defBody (top 20)) (defScope (top 20)) .none kV4 dc4 pm4 an4 cd4 ct4), sl4⟩)
    (c4 : PySem.W.codeIn K cd4 "is_finished" = true)
    (k4 : PySem.W.keepIn K (.ref f4) = true)
    (m5 : PySem.W.nsIn K mainGlobals "as_tuples" = some (some (.ref f5)))
    (l5 : K.lookup f5 = some ⟨oc5, od5, .func (PySem.W.fnOf "as_tuples" "as_tuples" (defArgs (top 2)) (defBody (top 2)) (defScope (top 2)) .none kV5 dc5 pm5 an5 cd5 ct5), sl5⟩)
    (c5 : PySem.W.codeIn K cd5 "as_tuples" = true)
    (k5 : PySem.W.keepIn K (.ref f5) = true)
    (m6 : PySem.W.nsIn K mainGlobals "begun" = some (some (.ref f6)))
    (l6 : K.lookup f6 = some ⟨oc6, od6, .func (PySem.W.fnOf "begun" "begun" (defArgs (top 4)) (defBody (top 4)) (defScope (top 4)) .none kV6 dc6 pm6 an6 cd6 ct6), sl6⟩)
    (c6 : PySem.W.codeIn K cd6 "begun" = true)
    (k6 : PySem.W.keepIn K (.ref f6) = true)
    (m7 : PySem.W.nsIn K mainGlobals "begun_with" = some (some (.ref f7)))
    (l7 : K.lookup f7 = some ⟨oc7, od7, .func (PySem.W.fnOf "begun_with" "begun_with" (defArgs (top 17)) (defBody (top 17)) (defScope (top 17)) .none kV7 dc7 pm7 an7 cd7 ct7), sl7⟩)
    (c7 : PySem.W.codeIn K cd7 "begun_with" = true)
    (k7 : PySem.W.keepIn K (.ref f7) = true)
    (m8 : PySem.W.nsIn K mainGlobals "_law_take" = some (some (.ref f8)))
    (l8 : K.lookup f8 = some ⟨oc8, od8, .func (PySem.W.fnOf "_law_take" "_law_take" (defArgs (top 24)) (defBody (top 24)) (defScope (top 24)) .none kV8 dc8 pm8 an8 cd8 ct8), sl8⟩)
    (c8 : PySem.W.codeIn K cd8 "_law_take" = true)
    (k8 : PySem.W.keepIn K (.ref f8) = true)
    (m9 : PySem.W.nsIn K mainGlobals "_law_number" = some (some (.ref f9)))
    (l9 : K.lookup f9 = some ⟨oc9, od9, .func (PySem.W.fnOf "_law_number" "_law_number" (defArgs (top 27)) (defBody (top 27)) (defScope (top 27)) .none kV9 dc9 pm9 an9 cd9 ct9), sl9⟩)
    (c9 : PySem.W.codeIn K cd9 "_law_number" = true)
    (k9 : PySem.W.keepIn K (.ref f9) = true)
    (m10 : PySem.W.nsIn K mainGlobals "_law_wish" = some (some (.ref f10)))
    (l10 : K.lookup f10 = some ⟨oc10, od10, .func (PySem.W.fnOf "_law_wish" "_law_wish" (defArgs (top 29)) (defBody (top 29)) (defScope (top 29)) .none kV10 dc10 pm10 an10 cd10 ct10), sl10⟩)
    (c10 : PySem.W.codeIn K cd10 "_law_wish" = true)
    (k10 : PySem.W.keepIn K (.ref f10) = true)
    (m11 : PySem.W.nsIn K mainGlobals "_law_keys" = some (some (.ref f11)))
    (l11 : K.lookup f11 = some ⟨oc11, od11, .func (PySem.W.fnOf "_law_keys" "_law_keys" (defArgs (top 28)) (defBody (top 28)) (defScope (top 28)) .none kV11 dc11 pm11 an11 cd11 ct11), sl11⟩)
    (c11 : PySem.W.codeIn K cd11 "_law_keys" = true)
    (k11 : PySem.W.keepIn K (.ref f11) = true)
    (m12 : PySem.W.nsIn K mainGlobals "_law_plans" = some (some (.ref f12)))
    (l12 : K.lookup f12 = some ⟨oc12, od12, .func (PySem.W.fnOf "_law_plans" "_law_plans" (defArgs (top 31)) (defBody (top 31)) (defScope (top 31)) .none kV12 dc12 pm12 an12 cd12 ct12), sl12⟩)
    (c12 : PySem.W.codeIn K cd12 "_law_plans" = true)
    (k12 : PySem.W.keepIn K (.ref f12) = true)
    (m13 : PySem.W.nsIn K mainGlobals "_law_kind" = some (some (.ref f13)))
    (l13 : K.lookup f13 = some ⟨oc13, od13, .func (PySem.W.fnOf "_law_kind" "_law_kind" (defArgs (top 30)) (defBody (top 30)) (defScope (top 30)) .none kV13 dc13 pm13 an13 cd13 ct13), sl13⟩)
    (c13 : PySem.W.codeIn K cd13 "_law_kind" = true)
    (k13 : PySem.W.keepIn K (.ref f13) = true)
    (m14 : PySem.W.nsIn K mainGlobals "_law_right" = some (some (.ref f14)))
    (l14 : K.lookup f14 = some ⟨oc14, od14, .func (PySem.W.fnOf "_law_right" "_law_right" (defArgs (top 32)) (defBody (top 32)) (defScope (top 32)) .none kV14 dc14 pm14 an14 cd14 ct14), sl14⟩)
    (c14 : PySem.W.codeIn K cd14 "_law_right" = true)
    (k14 : PySem.W.keepIn K (.ref f14) = true)
    (m15 : PySem.W.nsIn K mainGlobals "_law_box" = some (some (.ref f15)))
    (l15 : K.lookup f15 = some ⟨oc15, od15, .func (PySem.W.fnOf "_law_box" "_law_box" (defArgs (top 23)) (defBody (top 23)) (defScope (top 23)) .none kV15 dc15 pm15 an15 cd15 ct15), sl15⟩)
    (c15 : PySem.W.codeIn K cd15 "_law_box" = true)
    (k15 : PySem.W.keepIn K (.ref f15) = true)
    (m16 : PySem.W.nsIn K mainGlobals "_law_cells" = some (some (.ref f16)))
    (l16 : K.lookup f16 = some ⟨oc16, od16, .func (PySem.W.fnOf "_law_cells" "_law_cells" (defArgs (top 25)) (defBody (top 25)) (defScope (top 25)) .none kV16 dc16 pm16 an16 cd16 ct16), sl16⟩)
    (c16 : PySem.W.codeIn K cd16 "_law_cells" = true)
    (k16 : PySem.W.keepIn K (.ref f16) = true)
    (m17 : PySem.W.nsIn K mainGlobals "law" = some (some (.ref f17)))
    (l17 : K.lookup f17 = some ⟨oc17, od17, .func (PySem.W.fnOf "law" "law" (defArgs (top 33)) (defBody (top 33)) (defScope (top 33)) .none kV17 dc17 pm17 an17 cd17 ct17), sl17⟩)
    (c17 : PySem.W.codeIn K cd17 "law" = true)
    (k17 : PySem.W.keepIn K (.ref f17) = true)
    : ∃ fd : FuncData, (∀ (s : Shared) (v : Value), BindsTo s fd ⟨[v], []⟩ [("_law_script", v)]) ∧ ∀ base : Heap, K.In base → base.Ns mainGlobals mg → TabsB K base mg → FnT l.prog w K mg base 40 fa fd ["_law_script"] (spT K mg 1 tLawD) := by
  have e := hfa.symm.trans (PySem.W.mg_of X G m17)
  cases e
  have hb : ∀ x ∈ bnames, mg x = none := by
    intro x hx
    simp only [bnames, List.mem_cons, List.not_mem_nil, or_false] at hx
    rcases hx with rfl | rfl | rfl | rfl | rfl | rfl | rfl | rfl | rfl | rfl | rfl | rfl | rfl | rfl | rfl | rfl | rfl | rfl | rfl | rfl | rfl | rfl | rfl
    · exact PySem.W.mg_none_of X G z_len
    · exact PySem.W.mg_none_of X G z_abs
    · exact PySem.W.mg_none_of X G z_int
    · exact PySem.W.mg_none_of X G z_list
    · exact PySem.W.mg_none_of X G z_tuple
    · exact PySem.W.mg_none_of X G z_all
    · exact PySem.W.mg_none_of X G z_any
    · exact PySem.W.mg_none_of X G z_repr
    · exact PySem.W.mg_none_of X G z_range
    · exact PySem.W.mg_none_of X G z_enumerate
    · exact PySem.W.mg_none_of X G z_zip
    · exact PySem.W.mg_none_of X G z_sorted
    · exact PySem.W.mg_none_of X G z_set
    · exact PySem.W.mg_none_of X G z_max
    · exact PySem.W.mg_none_of X G z_min
    · exact PySem.W.mg_none_of X G z_sum
    · exact PySem.W.mg_none_of X G z_divmod
    · exact PySem.W.mg_none_of X G z_isinstance
    · exact PySem.W.mg_none_of X G z_str
    · exact PySem.W.mg_none_of X G z_bool
    · exact PySem.W.mg_none_of X G z_dict
    · exact PySem.W.mg_none_of X G z_reversed
    · exact PySem.W.mg_none_of X G z_type
  refine ⟨PySem.W.fnOf "law" "law" (defArgs (top 33)) (defBody (top 33)) (defScope (top 33)) .none kV17 dc17 pm17 an17 cd17 ct17, fun s v => .of_eq rfl, fun base kbase nbase TB => ?_⟩
  have P0 : Facts l.prog w K mg base 0 BB GG_0 := Facts.nil hb
  have PC3 := st_0 X G hb m_COUNTER m_REST m_FALLEN m_AT_WORK hc3_1 P0
  have R0_1 := st_1 X G hb m0 l0 c0 k0 PC3
  have R1_1 := st_2 X G hb m1 l1 c1 k1 R0_1
  have R2_1 := st_3 X G hb m2 l2 c2 k2 R1_1
  have R3_1 := st_4 X G hb m3 l3 c3 k3 R2_1
  have R4_1 := st_5 X G hb m4 l4 c4 k4 R3_1
  have R5_1 := st_6 X G hb m5 l5 c5 k5 R4_1
  have R6_1 := st_7 X G hb m6 l6 c6 k6 R5_1
  have R7_1 := st_8 X G hb m7 l7 c7 k7 R6_1
  have R8_1 := st_9 X G hb m8 l8 c8 k8 R7_1
  have R9_1 := st_10 X G hb m9 l9 c9 k9 R8_1
  have R10_1 := st_11 X G hb m10 l10 c10 k10 R9_1
  have R11_1 := st_12 X G hb m11 l11 c11 k11 R10_1
  have R12_1 := st_13 X G hb m12 l12 c12 k12 R11_1
  have R13_1 := st_14 X G hb m13 l13 c13 k13 R12_1
  have R14_1 := st_15 X G hb m14 l14 c14 k14 R13_1
  have R15_1 := st_16 X G hb m15 l15 c15 k15 R14_1
  have R16_1 := st_17 X G hb m16 l16 c16 k16 R15_1
  exact st_18 X G hb l17 c17 k17 R16_1
end Lk26
open PySem PySem.W PyProof.Rows in
set_option maxRecDepth 100000 in
set_option maxHeartbeats 0 in
theorem PySem.Challenge.cw_wishlane_k26_first_situations_holds : PySem.Challenge.rw_wishlane_k26_first_situations.Holds := by
  w_on; o_law; k_head; (case hw => w_witness2)
  k_fill
  refine TL.law_walk (l := PySem.Challenge.rw_wishlane_k26_first_situations) (k := 40) (x := "_law_script") rfl rfl ⟨rfl, by decide, by decide⟩ (by first | exact fun w h Y => PySem.W.kIn_of Y | exact fun w h Y => PySem.W.km_in_of Y) ?L ?F
  case L =>
    intro w x hx
    simp only [TL.lamNames, List.mem_cons, List.not_mem_nil, or_false] at hx
    rcases hx with rfl | rfl | rfl | rfl | rfl | rfl
    · exact TL.lamAt_no (by k_is)
    · exact TL.lamAt_no (by k_is)
    · exact TL.lamAt_no (by k_is)
    · refine' .inr ⟨?c__law_right, ?P__law_right, ?d__law_right, ?e__law_right, ?n__law_right, ?r__law_right⟩
      (case e__law_right =>
        refine' TL.tabIn_mk ?h1_1 ?h2_1 ?h3_1 ?h4_1 ?h5_1
        (case h1_1 => k_is)
        (case h2_1 => k_is)
        (case h3_1 => rfl)
        (case h4_1 => k_is)
        (case h5_1 => rfl))
      (case n__law_right => kernel_rfl)
      (case r__law_right => rfl)
    · exact TL.lamAt_no (by k_is)
    · exact TL.lamAt_no (by k_is)
  case F =>
    intro w mg fa h KX G hmg
    refine' Lk26.all_mk KX G hmg ?z_len ?z_abs ?z_int ?z_list ?z_tuple ?z_all ?z_any ?z_repr ?z_range ?z_enumerate ?z_zip ?z_sorted ?z_set ?z_max ?z_min ?z_sum ?z_divmod ?z_isinstance ?z_str ?z_bool ?z_dict ?z_reversed ?z_type ?m_COUNTER ?m_REST ?m_FALLEN ?m_AT_WORK ?hc3_1 ?m0 ?l0 ?c0 ?k0 ?m1 ?l1 ?c1 ?k1 ?m2 ?l2 ?c2 ?k2 ?m3 ?l3 ?c3 ?k3 ?m4 ?l4 ?c4 ?k4 ?m5 ?l5 ?c5 ?k5 ?m6 ?l6 ?c6 ?k6 ?m7 ?l7 ?c7 ?k7 ?m8 ?l8 ?c8 ?k8 ?m9 ?l9 ?c9 ?k9 ?m10 ?l10 ?c10 ?k10 ?m11 ?l11 ?c11 ?k11 ?m12 ?l12 ?c12 ?k12 ?m13 ?l13 ?c13 ?k13 ?m14 ?l14 ?c14 ?k14 ?m15 ?l15 ?c15 ?k15 ?m16 ?l16 ?c16 ?k16 ?m17 ?l17 ?c17 ?k17
    (case z_len => k_is)
    (case z_abs => k_is)
    (case z_int => k_is)
    (case z_list => k_is)
    (case z_tuple => k_is)
    (case z_all => k_is)
    (case z_any => k_is)
    (case z_repr => k_is)
    (case z_range => k_is)
    (case z_enumerate => k_is)
    (case z_zip => k_is)
    (case z_sorted => k_is)
    (case z_set => k_is)
    (case z_max => k_is)
    (case z_min => k_is)
    (case z_sum => k_is)
    (case z_divmod => k_is)
    (case z_isinstance => k_is)
    (case z_str => k_is)
    (case z_bool => k_is)
    (case z_dict => k_is)
    (case z_reversed => k_is)
    (case z_type => k_is)
    (case m_COUNTER => k_is)
    (case m_REST => k_is)
    (case m_FALLEN => k_is)
    (case m_AT_WORK => k_is)
    (case hc3_1 => k_is)
    (case m0 => k_is)
    (case l0 => k_is)
    (case c0 => k_is)
    (case k0 => k_is)
    (case m1 => k_is)
    (case l1 => k_is)
    (case c1 => k_is)
    (case k1 => k_is)
    (case m2 => k_is)
    (case l2 => k_is)
    (case c2 => k_is)
    (case k2 => k_is)
    (case m3 => k_is)
    (case l3 => k_is)
    (case c3 => k_is)
    (case k3 => k_is)
    (case m4 => k_is)
    (case l4 => k_is)
    (case c4 => k_is)
    (case k4 => k_is)
    (case m5 => k_is)
    (case l5 => k_is)
    (case c5 => k_is)
    (case k5 => k_is)
    (case m6 => k_is)
    (case l6 => k_is)
    (case c6 => k_is)
    (case k6 => k_is)
    (case m7 => k_is)
    (case l7 => k_is)
    (case c7 => k_is)
    (case k7 => k_is)
    (case m8 => k_is)
    (case l8 => k_is)
    (case c8 => k_is)
    (case k8 => k_is)
    (case m9 => k_is)
    (case l9 => k_is)
    (case c9 => k_is)
    (case k9 => k_is)
    (case m10 => k_is)
    (case l10 => k_is)
    (case c10 => k_is)
    (case k10 => k_is)
    (case m11 => k_is)
    (case l11 => k_is)
    (case c11 => k_is)
    (case k11 => k_is)
    (case m12 => k_is)
    (case l12 => k_is)
    (case c12 => k_is)
    (case k12 => k_is)
    (case m13 => k_is)
    (case l13 => k_is)
    (case c13 => k_is)
    (case k13 => k_is)
    (case m14 => k_is)
    (case l14 => k_is)
    (case c14 => k_is)
    (case k14 => k_is)
    (case m15 => k_is)
    (case l15 => k_is)
    (case c15 => k_is)
    (case k15 => k_is)
    (case m16 => k_is)
    (case l16 => k_is)
    (case c16 => k_is)
    (case k16 => k_is)
    (case m17 => k_is)
    (case l17 => k_is)
    (case c17 => k_is)
    (case k17 => k_is)

