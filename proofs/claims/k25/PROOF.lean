import PyProof.Rows.All
import Wide.All
import OpenK.AllK
import Wide.FinOn
import HandS.ForMost
import HandS.TupAny
import HandS.TupMul
import HandS.Flow
import HandS.NoneIn
import PyProof.ReprLen
import PyProof.StrLawsRepr
import HandS.Conv
import HandS.IsInst
import HandS.Zip0
import HandS.Zip
import HandS.Style
import HandS.SortInts
import HandS.RaiseMore
import HandS.Dict
import HandS.More
import KE.SortData
import KE.KItemsList
import HandS.ListItems
import HandS.SortRule
import HandS.DictTup
import KE.KDictPairs
import HandS.CallLocal
import HandS.StrMore
import HandS.Wide
import HandS.WideMore
import PyProof.StrOps2
import KE.GoesMore
import KE.GoesEnum
import HandS.Iter
import KE.GoesZip
import HandS.SetKeys
import KE.GoesEnumKw
import KE.DataEq
import HandS.SetFor
import HandS.TupSets
import PyProof.TupleOfSeq
import HandS.Defaults
import PySem.Challenge.RW_wishlane_k25_builds_or_not
set_option Elab.async false
set_option linter.all false
set_option maxHeartbeats 4000000
set_option maxRecDepth 100000
/-! T0: new tuples, tracked with their object: it bears no dict -/
namespace TL
open PySem PySem.Spec PyProof.Rows L2
def PTu (o : Obj) : Prop := o.cls = .type "tuple" ∧ o.dict = none
abbrev newT (H : Hp) (p : Addr) (o : Obj) (xs : List V) : Hp := upd H p (.frz o (.tup xs))
section
variable {X : Cx} {pins : List (Addr × Obj)} {σ : L2.St} {H : Hp} {s : Shared}
theorem Inv.laidT {h' : Heap} {p : Addr} {t' : Nat} {xs : List V} {us : List Value} (I : L2.Inv X pins σ H s) (k : ∀ b u, s.heap.get? b = some u → h'.get? b = some u) (hp : s.heap.objs.size ≤ p) (hz : xs.length ≤ sizeLine) (r : Vals xs us)
    (e : h'.get? p = some { cls := .type "tuple", data := .seq us.toArray }) : ∃ o, PTu o ∧ L2.Inv X pins σ (newT H p o xs) { s with heap := h', toks := t' } :=
  ⟨_, ⟨rfl, rfl⟩, I.laid (t' := t') k hp (show ObjOk X.prog X.w _ _ _ (.frz _ (.tup xs)) from ⟨e, hz, us, r, _, e, rfl, _, rfl⟩)⟩
def tTupT (t : TA) : TE := fun σ H Q => t σ H fun xs H1 => xs.length ≤ sizeLine ∧ ∀ p o, H1 p = none → PTu o → Q (.ref p) (newT H1 p o xs)
theorem pe_tupT {es : List Expr} {t : TA} {x1 : Nat} {pos : Pos} (ha : PA X es t) : PE X (.Tuple es x1 pos) (tTupT t) := by
  refine ⟨fun pins s σ H Q I hq => ?_⟩
  refine wpAny_Tuple_spliced (thn (ha.run pos pins s σ H _ I hq) fun us s1 ⟨vs, H1, I1, rv, hz, k⟩ => ⟨by have := rv.length; omega, ?_⟩)
  obtain ⟨o, po, J⟩ := Inv.laidT (t' := s1.toks) I1 (h' := s1.heap.push _) (fun b u e => Heap.get?_push_of_some _ e) (Nat.le_refl _) hz rv (Heap.get?_push_size _ rfl)
  exact ⟨.ref s1.heap.objs.size, _, J, rfl, k _ o (I1.hok.fresh (Nat.le_refl _)) po⟩
theorem call_tupleN : CallR X (.type "tuple") (fun xs H Q => ∃ p ys, xs = [.ref p] ∧ ((SqL X.K H p ys ∧ ∀ l o, H l = none → PTu o → Q (.ref l) (newT H l o ys)) ∨ (SqT X.K H p ys ∧ Q (.ref p) H))) := by
  intro pins s σ H xs us Q I r h
  obtain ⟨p, ys, rfl, h⟩ := h
  obtain ⟨u, rfl, rx⟩ := vals1 r
  cases rx
  rcases h with ⟨hq, q⟩ | ⟨hq, q⟩
  · obtain ⟨its, rv, pl, hz⟩ := I.list hq
    refine call_tuple_list pl.isList (fun h' kp => ?_) (by have := rv.length; simp only [List.size_toArray]; omega)
    have I1 : L2.Inv X pins σ H { s with heap := h' } := I.kept (t' := s.toks) kp
    obtain ⟨o, po, J⟩ := Inv.laidT (t' := s.toks) I1 (h' := h'.push _) (fun b u e => Heap.get?_push_of_some _ e) (Nat.le_refl _) hz rv (Heap.get?_push_size _ rfl)
    exact ⟨.ref h'.objs.size, _, J, rfl, q _ o (I1.hok.fresh (Nat.le_refl _)) po⟩
  · obtain ⟨its, _, pl, _⟩ := I.tuple hq
    exact call_tuple_same pl ⟨.ref p, H, I, rfl, q⟩
/-- t + u -/
def rCatN (K : PySem.W.Frag) : R2 := fun x y H Q => ∃ a b xs ys, x = .ref a ∧ y = .ref b ∧ SqT K H a xs ∧ SqT K H b ys ∧ xs.length + ys.length ≤ sizeLine ∧
  (xs = [] → Q (.ref b) H) ∧ (xs ≠ [] → ys = [] → Q (.ref a) H) ∧ (xs ≠ [] → ys ≠ [] → ∀ p o, H p = none → PTu o → Q (.ref p) (newT H p o (xs ++ ys)))
theorem op_catN : OpR X (binaryOp .Add) (rCatN X.K) := by
  intro pins s σ H x y v u Q I rx ry h
  obtain ⟨a, b, xs, ys, rfl, rfl, ha, hb, hz, q0, q1, q2⟩ := h
  cases rx
  cases ry
  obtain ⟨us, r1, p1, _⟩ := I.tuple ha
  obtain ⟨ws, r2, p2, _⟩ := I.tuple hb
  by_cases hx : xs = []
  · subst hx
    cases r1
    exact cat_tup0 p1 p2 ⟨.ref b, H, I, rfl, q0 rfl⟩
  · refine HT.cat_tup p1 p2 (fun z => hx (r1.nil_iff.mp z)) (fun z => ⟨.ref a, H, I, rfl, q1 hx (r2.nil_iff.mp z)⟩) (fun z => ?_) (by have := r1.length; have := r2.length; omega)
    obtain ⟨o, po, J⟩ := Inv.laidT (t' := s.toks) I (h' := s.heap.push _) (xs := xs ++ ys) (fun b u e => Heap.get?_push_of_some _ e) (Nat.le_refl _) (by rw [List.length_append]; exact hz) (r1.append r2) (Heap.get?_push_size _ rfl)
    exact ⟨.ref s.heap.objs.size, _, J, rfl, q2 hx (fun w => z (r2.nil_iff.mpr w)) _ o (I.hok.fresh (Nat.le_refl _)) po⟩
/-- t[lo:hi] -/
def rSlN (K : PySem.W.Frag) : V → Option Int → Option Int → Hp → VK → Prop := fun x lo hi H Q => ∃ a xs, x = .ref a ∧ SqT K H a xs ∧
  (HT.sIx xs.length 0 lo = 0 ∧ HT.sIx xs.length xs.length hi = xs.length → Q (.ref a) H) ∧ (¬ (HT.sIx xs.length 0 lo = 0 ∧ HT.sIx xs.length xs.length hi = xs.length) → ∀ p o, H p = none → PTu o → Q (.ref p) (newT H p o (cutV xs lo hi)))
theorem sl_tupN : SlR X (rSlN X.K) := by
  intro pins s σ H x v vl vu lo hi sl Q I rx hs pl pu h
  obtain ⟨a, xs, rfl, hx, q1, q2⟩ := h
  cases rx
  obtain ⟨us, r, ht, hz⟩ := I.tuple hx
  have hlen : us.toArray.size = xs.length := by have := r.length; simp only [List.size_toArray]; omega
  refine ⟨"tuple", _, PyProof.Rows.slot_tuple_getitem.lookup, ht.typeIs, ?_⟩
  by_cases hw : HT.sIx xs.length 0 lo = 0 ∧ HT.sIx xs.length xs.length hi = xs.length
  · exact getItem_tuple_whole ht hs pl pu (by rw [hlen]; exact hw) ⟨.ref a, H, I, rfl, q1 hw⟩
  · refine HT.getItem_tuple_cut ht hs pl pu (by rw [hlen]; exact hw) ?_ (by rw [hlen]; exact hz)
    rw [hlen]
    have hc := (r.drop (HT.sIx xs.length 0 lo)).take (HT.sIx xs.length xs.length hi - HT.sIx xs.length 0 lo)
    obtain ⟨o, po, J⟩ := Inv.laidT (t' := s.toks) I (h' := s.heap.push _) (xs := cutV xs lo hi) (fun b u e => Heap.get?_push_of_some _ e) (Nat.le_refl _) (Nat.le_trans (cutV_length xs lo hi) hz) hc (Heap.get?_push_size _ rfl)
    exact ⟨.ref s.heap.objs.size, _, J, rfl, q2 hw _ o (I.hok.fresh (Nat.le_refl _)) po⟩
theorem call_divmodN : CallR X (.builtin "divmod") (fun xs H Q => ∃ i j, xs = [.int i, .int j] ∧ CDiv i j ∧ ∀ p o, H p = none → PTu o → Q (.ref p) (newT H p o [.int (i / j), .int (i % j)])) := by
  intro pins s σ H xs us Q I r h
  obtain ⟨i, j, rfl, ⟨h1, h2⟩, q⟩ := h
  obtain ⟨u, w', rfl, ⟨t, rfl⟩, ⟨t', rfl⟩⟩ := vals2 r
  refine divmod_int (by omega) ?_ (.inl (PyProof.noPylong_small (by omega)))
  rw [Int.fdiv_eq_ediv_of_nonneg i (by omega), Int.fmod_eq_emod_of_nonneg i (by omega)]
  have rv : Vals [V.int (i / j), V.int (i % j)] [Value.int (i / j) s.toks, Value.int (i % j) (s.toks + 1)] := .cons ⟨_, rfl⟩ (.cons ⟨_, rfl⟩ .nil)
  have hz : [V.int (i / j), V.int (i % j)].length ≤ sizeLine := by simp only [List.length_cons, List.length_nil]; rw [sizeLine_eq]; decide
  refine ⟨.ref s.heap.objs.size, newT H s.heap.objs.size { cls := .type "tuple", data := .seq ([Value.int (i / j) s.toks, Value.int (i % j) (s.toks + 1)] : List Value).toArray } [.int (i / j), .int (i % j)], ?_, rfl, q _ _ (I.hok.fresh (Nat.le_refl _)) ⟨rfl, rfl⟩⟩
  exact I.laid (fun b u e => Heap.get?_push_of_some _ e) (Nat.le_refl _) ⟨Heap.get?_push_size _ rfl, hz, _, rv, _, Heap.get?_push_size _ rfl, rfl, _, rfl⟩
end
end TL

/-! T1: data trees over the hand layer's abstract heap; who owns what -/
namespace TL
open PySem PySem.Spec PyProof.Rows L2

/-- data as a tree; dicts by keys and values in order; a def of the text by its name -/
inductive D where
  | non | bl (b : Bool) | int (i : Int) | str (s : Str)
  | lst (xs : List D) | tup (xs : List D) | dic (ks vs : List D)
  | fn (x : Str)
  | lse (xs : List D)
  /-- within a box: an own list, with its place -/
  | own (a : Addr) (xs : List D)
  /-- an own value some of whose items are own lists -/
  | box (d : D)
  /-- a locked dict: its keys can be walked -/
  | ldc (ks vs : List D)
  deriving Inhabited

def cl1 : D → D
  | .own _ xs => .lst xs
  | d => d
/-- a box opened -/
def opnD : D → D
  | .tup ds => .tup (ds.map cl1)
  | .lst ds => .lst (ds.map cl1)
  | .dic ks ds => .dic ks (ds.map cl1)
  | d => d
/-- a value: own, where nothing else refers to its root -/
structure Val where
  own : Bool
  d : D
abbrev fz (d : D) : Val := ⟨false, d⟩
abbrev EnvD := List (Option Val)

def keyD : Key → D
  | .inl i => .int i
  | .inr s => .str s

abbrev Pr := Addr → Prop
def keyOk : Key → Prop
  | .inl _ => True
  | .inr s => PyData.strOk s = true
/-- a dict's keys as data -/
structure KsOf (kvs : List (Key × V)) (ks : List D) : Prop where
  eq : ks = (kvs.map fun p => keyD p.1)
  ok : ∀ p ∈ kvs, keyOk p.1

/-- a list, a tuple of the written part -/
def KLs (K : PySem.W.Frag) (a : Addr) (xs : List V) : Prop :=
  ∃ (o : Obj) (its : Array Value) (n : Nat), K.lookup a = some o ∧ o.cls = .type "list" ∧ o.dict = none ∧ o.data = .seq its n ∧ its.size ≤ sizeLine ∧ Vals xs its.toList
def KTp (K : PySem.W.Frag) (a : Addr) (xs : List V) : Prop :=
  ∃ (o : Obj) (its : Array Value) (n : Nat), K.lookup a = some o ∧ o.cls = .type "tuple" ∧ o.dict = none ∧ o.data = .seq its n ∧ its.size ≤ sizeLine ∧ Vals xs its.toList
def LsF (K : PySem.W.Frag) (hot : Pr) (H : Hp) (a : Addr) (xs : List V) : Prop := (¬ hot a ∧ Rd H a (.lst xs)) ∨ KLs K a xs
def FzT (H : Hp) (a : Addr) (xs : List V) : Prop := ∃ o, PTu o ∧ H a = some (.frz o (.tup xs))
theorem FzT.rd {H a xs} (h : FzT H a xs) : Rd H a (.tup xs) := let ⟨o, _, e⟩ := h; .inr ⟨o, e⟩
def TpF (K : PySem.W.Frag) (hot : Pr) (H : Hp) (a : Addr) (xs : List V) : Prop := (¬ hot a ∧ FzT H a xs) ∨ KTp K a xs
theorem KTp.sq {K H a xs} (h : KTp K a xs) : SqT K H a xs := let ⟨o, its, n, h1, h2, _, h4, h5, h6⟩ := h; .inr ⟨o, its, n, h1, h2, h4, h5, h6⟩
theorem LsF.sq {K hot H a xs} (h : LsF K hot H a xs) : SqL K H a xs := h.elim (fun q => .inl q.2) .inr
theorem TpF.sq {K hot H a xs} (h : TpF K hot H a xs) : SqT K H a xs := h.elim (fun q => .inl q.2.rd) KTp.sq

mutual
inductive Rep (K : PySem.W.Frag) (mg : Str → Option Value) (hot : Pr) (H : Hp) : V → D → Prop
  | non : Rep K mg hot H .non .non
  | bl (b : Bool) : Rep K mg hot H (.bl b) (.bl b)
  | int (i : Int) : Rep K mg hot H (.int i) (.int i)
  | str (x : Str) : PyData.strOk x = true → Rep K mg hot H (.str x) (.str x)
  | lst {a : Addr} {xs : List V} {ds : List D} : LsF K hot H a xs → Reps K mg hot H xs ds → Rep K mg hot H (.ref a) (.lst ds)
  | tup {a : Addr} {xs : List V} {ds : List D} : TpF K hot H a xs → Reps K mg hot H xs ds → Rep K mg hot H (.ref a) (.tup ds)
  | dicK {a : Addr} {kvs : List (Key × V)} {ks ds : List D} : ¬ hot a → H a = some (.dK kvs) → KsOf kvs ks → Reps K mg hot H (kvs.map (·.2)) ds → Rep K mg hot H (.ref a) (.dic ks ds)
  | ldc {a : Addr} {kvs : List (Key × V)} {ks ds : List D} {o : Obj} : ¬ hot a → H a = some (.frz o (.dK kvs)) → KsOf kvs ks → Reps K mg hot H (kvs.map (·.2)) ds → Rep K mg hot H (.ref a) (.ldc ks ds)
  | lse {a : Addr} {xs : List V} {ds : List D} : ¬ hot a → Rd H a (.tup xs) → Reps K mg hot H xs ds → Rep K mg hot H (.ref a) (.lse ds)
  | fn {x : Str} {a : Addr} : mg x = some (.ref a) → Rep K mg hot H (.ref a) (.fn x)
  | box {a : Addr} {d : D} : Rep K mg hot H (.ref a) (opnD d) → Rep K mg hot H (.ref a) (.box d)
inductive Reps (K : PySem.W.Frag) (mg : Str → Option Value) (hot : Pr) (H : Hp) : List V → List D → Prop
  | nil : Reps K mg hot H [] []
  | cons {v : V} {vs : List V} {d : D} {ds : List D} : Rep K mg hot H v d → Reps K mg hot H vs ds → Reps K mg hot H (v :: vs) (d :: ds)
end

/-- what was cool and there is there and cool -/
structure Keeps (hot hot' : Pr) (H H' : Hp) : Prop where
  keep : ∀ a o, H a = some o → ¬ hot a → H' a = some o
  cool : ∀ a o, H a = some o → ¬ hot a → ¬ hot' a

section
variable {K : PySem.W.Frag} {mg : Str → Option Value} {hot hot' : Pr} {H H' : Hp}
theorem Keeps.rd (k : Keeps hot hot' H H') {a : Addr} {u : HO} (n : ¬ hot a) (r : Rd H a u) : ¬ hot' a ∧ Rd H' a u := by
  rcases r with r | ⟨o, r⟩
  · exact ⟨k.cool a _ r n, .inl (k.keep a _ r n)⟩
  · exact ⟨k.cool a _ r n, .inr ⟨o, k.keep a _ r n⟩⟩
theorem Keeps.ls (k : Keeps hot hot' H H') {a : Addr} {xs : List V} (h : LsF K hot H a xs) : LsF K hot' H' a xs := h.elim (fun q => .inl (k.rd q.1 q.2)) .inr
theorem Keeps.tp (k : Keeps hot hot' H H') {a : Addr} {xs : List V} (h : TpF K hot H a xs) : TpF K hot' H' a xs := h.elim (fun q => let ⟨o, po, e⟩ := q.2; .inl ⟨k.cool a _ e q.1, o, po, k.keep a _ e q.1⟩) .inr
mutual
theorem Rep.mono (k : Keeps hot hot' H H') : ∀ {v : V} {d : D}, Rep K mg hot H v d → Rep K mg hot' H' v d
  | _, _, .non => .non
  | _, _, .bl b => .bl b
  | _, _, .int i => .int i
  | _, _, .str x h => .str x h
  | _, _, .lst h r => .lst (k.ls h) (Reps.mono k r)
  | _, _, .tup h r => .tup (k.tp h) (Reps.mono k r)
  | _, _, .dicK n h e r => .dicK (k.cool _ _ h n) (k.keep _ _ h n) e (Reps.mono k r)
  | _, _, .ldc n h e r => .ldc (k.cool _ _ h n) (k.keep _ _ h n) e (Reps.mono k r)
  | _, _, .lse n h r => .lse (k.rd n h).1 (k.rd n h).2 (Reps.mono k r)
  | _, _, .fn h => .fn h
  | _, _, .box r => .box (Rep.mono k r)
theorem Reps.mono (k : Keeps hot hot' H H') : ∀ {vs : List V} {ds : List D}, Reps K mg hot H vs ds → Reps K mg hot' H' vs ds
  | _, _, .nil => .nil
  | _, _, .cons h t => .cons (Rep.mono k h) (Reps.mono k t)
end
theorem Reps.length : ∀ {vs : List V} {ds : List D}, Reps K mg hot H vs ds → vs.length = ds.length
  | _, _, .nil => rfl
  | _, _, .cons _ t => by rw [List.length_cons, List.length_cons, Reps.length t]
theorem Reps.append : ∀ {vs ws : List V} {ds es : List D}, Reps K mg hot H vs ds → Reps K mg hot H ws es → Reps K mg hot H (vs ++ ws) (ds ++ es)
  | _, _, _, _, .nil, r => r
  | _, _, _, _, .cons h t, r => .cons h (Reps.append t r)
theorem Reps.get : ∀ {vs : List V} {ds : List D} {i : Nat} {d : D}, Reps K mg hot H vs ds → ds[i]? = some d → ∃ v, vs[i]? = some v ∧ Rep K mg hot H v d
  | _, _, _, _, .nil, e => by simp at e
  | _, _, 0, _, .cons h _, e => by simp at e; subst e; exact ⟨_, rfl, h⟩
  | _, _, i + 1, _, .cons _ t, e => by
    obtain ⟨v, e1, r⟩ := Reps.get (i := i) t (by simpa using e)
    exact ⟨v, by simpa using e1, r⟩
theorem Reps.getV : ∀ {vs : List V} {ds : List D} {i : Nat} {v : V}, Reps K mg hot H vs ds → vs[i]? = some v → ∃ d, ds[i]? = some d ∧ Rep K mg hot H v d
  | _, _, _, _, .nil, e => by simp at e
  | _, _, 0, _, .cons h _, e => by simp at e; subst e; exact ⟨_, rfl, h⟩
  | _, _, i + 1, _, .cons _ t, e => by
    obtain ⟨v, e1, r⟩ := Reps.getV (i := i) t (by simpa using e)
    exact ⟨v, by simpa using e1, r⟩
theorem Reps.take : ∀ {vs : List V} {ds : List D} (n : Nat), Reps K mg hot H vs ds → Reps K mg hot H (vs.take n) (ds.take n)
  | _, _, 0, _ => .nil
  | _, _, _ + 1, .nil => .nil
  | _, _, n + 1, .cons h t => .cons h (Reps.take n t)
theorem Reps.drop : ∀ {vs : List V} {ds : List D} (n : Nat), Reps K mg hot H vs ds → Reps K mg hot H (vs.drop n) (ds.drop n)
  | _, _, 0, h => h
  | _, _, _ + 1, .nil => .nil
  | _, _, n + 1, .cons _ t => Reps.drop n t
theorem Reps.set {v : V} {d : D} (r : Rep K mg hot H v d) : ∀ {vs : List V} {ds : List D} (i : Nat), Reps K mg hot H vs ds → Reps K mg hot H (vs.set i v) (ds.set i d)
  | _, _, _, .nil => .nil
  | _, _, 0, .cons _ t => .cons r t
  | _, _, i + 1, .cons h t => .cons h (Reps.set r i t)
theorem Reps.reverse : ∀ {vs : List V} {ds : List D}, Reps K mg hot H vs ds → Reps K mg hot H vs.reverse ds.reverse
  | _, _, .nil => .nil
  | _, _, .cons h t => by
    rw [List.reverse_cons, List.reverse_cons]
    exact Reps.append (Reps.reverse t) (.cons h .nil)

/-- an item of a box: frozen, or an own list -/
inductive RepB (K : PySem.W.Frag) (mg : Str → Option Value) (hot : Pr) (H : Hp) : V → D → Prop
  | fro {v : V} {d : D} : Rep K mg hot H v d → RepB K mg hot H v d
  | own {a : Addr} {vs : List V} {ds : List D} : hot a → H a = some (.lst vs) → Reps K mg hot H vs ds → RepB K mg hot H (.ref a) (.own a ds)
inductive RepBs (K : PySem.W.Frag) (mg : Str → Option Value) (hot : Pr) (H : Hp) : List V → List D → Prop
  | nil : RepBs K mg hot H [] []
  | cons {v : V} {vs : List V} {d : D} {ds : List D} : RepB K mg hot H v d → RepBs K mg hot H vs ds → RepBs K mg hot H (v :: vs) (d :: ds)
def own1 : D → List Addr
  | .own a _ => [a]
  | _ => []
def bx : D → List Addr
  | .box (.tup ds) => ds.flatMap own1
  | .box (.lst ds) => ds.flatMap own1
  | .box (.dic _ ds) => ds.flatMap own1
  | _ => []
theorem Rep.own1 {v : V} {d : D} (r : Rep K mg hot H v d) : own1 d = [] := by cases r <;> rfl
theorem RepB.mono (k : Keeps hot hot' H H') {v : V} {d : D} (r : RepB K mg hot H v d) (o : ∀ b ∈ TL.own1 d, hot' b ∧ H' b = H b) : RepB K mg hot' H' v d := by
  cases r with
  | fro r => exact .fro (r.mono k)
  | own h1 h2 r => obtain ⟨q1, q2⟩ := o _ List.mem_cons_self; exact .own q1 (q2.trans h2) (r.mono k)
theorem RepBs.mono (k : Keeps hot hot' H H') : ∀ {vs : List V} {ds : List D}, RepBs K mg hot H vs ds → (∀ b ∈ ds.flatMap TL.own1, hot' b ∧ H' b = H b) → RepBs K mg hot' H' vs ds
  | _, _, .nil, _ => .nil
  | _, _, .cons r t, o => .cons (r.mono k fun b hb => o b (by rw [List.flatMap_cons]; exact List.mem_append_left _ hb)) (RepBs.mono k t fun b hb => o b (by rw [List.flatMap_cons]; exact List.mem_append_right _ hb))
theorem RepB.isHot {v : V} {d : D} (r : RepB K mg hot H v d) : ∀ b ∈ TL.own1 d, hot b ∧ H b ≠ none := by
  cases r with
  | fro r => rw [r.own1]; exact fun _ z => nomatch z
  | own h1 h2 r => intro b hb; rw [List.mem_singleton.mp hb]; exact ⟨h1, by rw [h2]; simp⟩
theorem RepBs.isHot : ∀ {vs : List V} {ds : List D}, RepBs K mg hot H vs ds → ∀ b ∈ ds.flatMap TL.own1, hot b ∧ H b ≠ none
  | _, _, .nil, _, h => nomatch h
  | _, _, .cons r t, b, h => by
    rw [List.flatMap_cons] at h
    exact (List.mem_append.mp h).elim (r.isHot b) (RepBs.isHot t b)
theorem Rep.cl_eq {v : V} {d : D} (r : Rep K mg hot H v d) : cl1 d = d := by cases r <;> rfl
/-- all items cool -/
theorem RepBs.cool (k : Keeps hot hot' H H) : ∀ {vs : List V} {ds : List D}, RepBs K mg hot H vs ds → (∀ b ∈ ds.flatMap TL.own1, ¬ hot' b) → Reps K mg hot' H vs (ds.map cl1)
  | _, _, .nil, _ => .nil
  | _, _, .cons r t, o => by
    refine .cons ?_ (RepBs.cool k t fun b hb => o b (by rw [List.flatMap_cons]; exact List.mem_append_right _ hb))
    cases r with
    | fro r => exact (r.cl_eq).symm ▸ r.mono k
    | own h1 h2 r => exact .lst (.inl ⟨o _ (by rw [List.flatMap_cons]; exact List.mem_append_left _ List.mem_cons_self), .inl h2⟩) (r.mono k)
theorem RepBs.length : ∀ {vs : List V} {ds : List D}, RepBs K mg hot H vs ds → vs.length = ds.length
  | _, _, .nil => rfl
  | _, _, .cons _ t => by rw [List.length_cons, List.length_cons, RepBs.length t]
inductive VR (K : PySem.W.Frag) (mg : Str → Option Value) (hot : Pr) (H : Hp) : V → Val → Prop
  | fro {v : V} {d : D} : Rep K mg hot H v d → VR K mg hot H v ⟨false, d⟩
  | lst {a : Addr} {vs : List V} {ds : List D} : hot a → H a = some (.lst vs) → Reps K mg hot H vs ds → VR K mg hot H (.ref a) ⟨true, .lst ds⟩
  | dicK {a : Addr} {kvs : List (Key × V)} {ks ds : List D} : hot a → H a = some (.dK kvs) → KsOf kvs ks → Reps K mg hot H (kvs.map (·.2)) ds → VR K mg hot H (.ref a) ⟨true, .dic ks ds⟩
  | boxT {a : Addr} {vs : List V} {ds : List D} : hot a → FzT H a vs → RepBs K mg hot H vs ds → VR K mg hot H (.ref a) ⟨true, .box (.tup ds)⟩
  | boxL {a : Addr} {vs : List V} {ds : List D} : hot a → H a = some (.lst vs) → RepBs K mg hot H vs ds → VR K mg hot H (.ref a) ⟨true, .box (.lst ds)⟩
  | boxD {a : Addr} {kvs : List (Key × V)} {ks ds : List D} : hot a → H a = some (.dK kvs) → KsOf kvs ks → RepBs K mg hot H (kvs.map (·.2)) ds → VR K mg hot H (.ref a) ⟨true, .box (.dic ks ds)⟩
end

/-! ### layouts: values beside what they stand for -/
abbrev Cell := Option V × Option Val
abbrev Lay := List Cell
def rootP : Cell → List Addr
  | (some (.ref a), some ⟨true, d⟩) => a :: bx d
  | _ => []
def roots (L : Lay) : List Addr := L.flatMap rootP
def hotL (oh : Pr) (L : Lay) : Pr := fun a => oh a ∨ a ∈ roots L
def SlotOk (K : PySem.W.Frag) (mg : Str → Option Value) (hot : Pr) (H : Hp) (p : Cell) : Prop := ∀ x, p.2 = some x → ∃ v, p.1 = some v ∧ VR K mg hot H v x
structure StR (K : PySem.W.Frag) (mg : Str → Option Value) (oh : Pr) (H : Hp) (L : Lay) : Prop where
  all : ∀ p ∈ L, SlotOk K mg (hotL oh L) H p
  nd : (roots L).Nodup
  dj : ∀ a ∈ roots L, ¬ oh a
  tr : ∀ a, oh a → H a ≠ none
structure Step (L : Lay) (H : Hp) (L' : Lay) (H' : Hp) : Prop where
  keep : ∀ a o, H a = some o → a ∉ roots L → H' a = some o
  sub : ∀ a ∈ roots L', a ∈ roots L ∨ H a = none
  dom : ∀ a, H a ≠ none → H' a ≠ none

section
variable {K : PySem.W.Frag} {mg : Str → Option Value} {oh : Pr} {H H' H'' : Hp} {L L' A A' B : Lay}
theorem roots_append : roots (A ++ B) = roots A ++ roots B := List.flatMap_append
theorem roots_cons {p : Cell} : roots (p :: A) = rootP p ++ roots A := List.flatMap_cons
theorem mem_roots {a : Addr} : a ∈ roots L ↔ ∃ p ∈ L, a ∈ rootP p := List.mem_flatMap
theorem rootP_some {p : Cell} {a : Addr} (h : a ∈ rootP p) : ∃ b d, p = (some (.ref b), some ⟨true, d⟩) := by
  obtain ⟨so, eo⟩ := p
  cases so with
  | none => cases h
  | some v =>
    cases eo with
    | none => cases v <;> cases h
    | some x =>
      obtain ⟨o, d⟩ := x
      cases v with
      | ref b =>
        cases o with
        | true => exact ⟨b, d, rfl⟩
        | false => cases h
      | _ => cases o <;> cases h
theorem rootP_none {so : Option V} : rootP (so, none) = [] := by
  cases so with
  | none => rfl
  | some v => cases v <;> rfl
theorem rootP_fro {so : Option V} {d : D} : rootP (so, some ⟨false, d⟩) = [] := by
  cases so with
  | none => rfl
  | some v => cases v <;> rfl
theorem roots_fro {so : Option V} {d : D} : roots ((so, some ⟨false, d⟩) :: L) = roots L := by rw [roots_cons, rootP_fro]; rfl
theorem roots_none {so : Option V} : roots ((so, none) :: L) = roots L := by rw [roots_cons, rootP_none]; rfl
theorem roots_ownG {a : Addr} {d : D} : roots ((some (.ref a), some ⟨true, d⟩) :: L) = a :: (bx d ++ roots L) := by rw [roots_cons]; rfl
theorem roots_own {a : Addr} {ds : List D} : roots ((some (.ref a), some ⟨true, .lst ds⟩) :: L) = a :: roots L := by rw [roots_cons]; rfl
theorem roots_ownD {a : Addr} {ks ds : List D} : roots ((some (.ref a), some ⟨true, .dic ks ds⟩) :: L) = a :: roots L := by rw [roots_cons]; rfl
theorem VR.own_all {hot : Pr} {v : V} {d : D} (h : VR K mg hot H v ⟨true, d⟩) : ∃ a, v = .ref a ∧ ∀ b ∈ a :: bx d, hot b ∧ H b ≠ none := by
  have one : ∀ (a : Addr) (o : HO), hot a → H a = some o → ∀ b ∈ [a], hot b ∧ H b ≠ none := fun a o h1 h2 b hb => by
    rw [List.mem_singleton.mp hb]; exact ⟨h1, by rw [h2]; simp⟩
  have more : ∀ (a : Addr) (o : HO) (l : List Addr), hot a → H a = some o → (∀ b ∈ l, hot b ∧ H b ≠ none) → ∀ b ∈ a :: l, hot b ∧ H b ≠ none := fun a o l h1 h2 h3 b hb =>
    (List.mem_cons.mp hb).elim (fun e => by rw [e]; exact ⟨h1, by rw [h2]; simp⟩) (h3 b)
  cases h with
  | lst h1 h2 _ => exact ⟨_, rfl, one _ _ h1 h2⟩
  | dicK h1 h2 _ _ => exact ⟨_, rfl, one _ _ h1 h2⟩
  | boxT h1 h2 r => obtain ⟨o, _, h2⟩ := h2; exact ⟨_, rfl, more _ _ _ h1 h2 r.isHot⟩
  | boxL h1 h2 r => exact ⟨_, rfl, more _ _ _ h1 h2 r.isHot⟩
  | boxD h1 h2 _ r => exact ⟨_, rfl, more _ _ _ h1 h2 r.isHot⟩
theorem VR.own_root {hot : Pr} {v : V} {d : D} (h : VR K mg hot H v ⟨true, d⟩) : ∃ a, v = .ref a ∧ hot a ∧ H a ≠ none :=
  let ⟨a, e, q⟩ := h.own_all
  ⟨a, e, q a List.mem_cons_self⟩
theorem VR.mono {hot hot' : Pr} (k : Keeps hot hot' H H') {v : V} {x : Val} (h : VR K mg hot H v x) (own : ∀ b ∈ rootP (some v, some x), hot' b ∧ H' b = H b) : VR K mg hot' H' v x := by
  cases h with
  | fro r => exact .fro (r.mono k)
  | lst h1 h2 r => obtain ⟨q1, q2⟩ := own _ List.mem_cons_self; exact .lst q1 (q2.trans h2) (r.mono k)
  | dicK h1 h2 e r => obtain ⟨q1, q2⟩ := own _ List.mem_cons_self; exact .dicK q1 (q2.trans h2) e (r.mono k)
  | boxT h1 h2 r => obtain ⟨q1, q2⟩ := own _ List.mem_cons_self; obtain ⟨o, po, h2⟩ := h2; exact .boxT q1 ⟨o, po, q2.trans h2⟩ (r.mono k fun b hb => own b (List.mem_cons_of_mem _ hb))
  | boxL h1 h2 r => obtain ⟨q1, q2⟩ := own _ List.mem_cons_self; exact .boxL q1 (q2.trans h2) (r.mono k fun b hb => own b (List.mem_cons_of_mem _ hb))
  | boxD h1 h2 e r => obtain ⟨q1, q2⟩ := own _ List.mem_cons_self; exact .boxD q1 (q2.trans h2) e (r.mono k fun b hb => own b (List.mem_cons_of_mem _ hb))
theorem StR.root_there (S : StR K mg oh H L) {a : Addr} (h : a ∈ roots L) : H a ≠ none := by
  obtain ⟨p, hp, e⟩ := mem_roots.mp h
  obtain ⟨b, d, rfl⟩ := rootP_some e
  obtain ⟨v, e2, r⟩ := S.all _ hp _ rfl
  cases e2
  obtain ⟨c, e3, q⟩ := r.own_all
  cases e3
  exact (q a e).2
theorem StR.hot_there (S : StR K mg oh H L) {a : Addr} (h : hotL oh L a) : H a ≠ none := h.elim (S.tr a) S.root_there
/-- fewer cells -/
theorem cell_eq {p : Cell} {x : Val} {v : V} (hx : p.2 = some x) (e : p.1 = some v) : p = (some v, some x) := by
  obtain ⟨so, eo⟩ := p
  simp only at hx e
  subst hx e
  rfl
theorem StR.less (S : StR K mg oh H L) (h : ∀ p ∈ L', p.2 = none ∨ p ∈ L) (nd : (roots L').Nodup) : StR K mg oh H L' := by
  have sub : ∀ a ∈ roots L', a ∈ roots L := fun a ha => by
    obtain ⟨p, hp, e⟩ := mem_roots.mp ha
    rcases h p hp with z | z
    · obtain ⟨b, d, rfl⟩ := rootP_some e
      cases z
    · exact mem_roots.mpr ⟨p, z, e⟩
  refine ⟨fun p hp x hx => ?_, nd, fun a ha => S.dj a (sub a ha), S.tr⟩
  rcases h p hp with z | z
  · rw [z] at hx; cases hx
  · obtain ⟨v, e, r⟩ := S.all p z x hx
    exact ⟨v, e, r.mono ⟨fun _ _ q _ => q, fun a o _ n q => n (q.elim .inl fun q => .inr (sub a q))⟩ fun b hb => ⟨.inr (mem_roots.mpr ⟨p, hp, by rw [cell_eq hx e]; exact hb⟩), rfl⟩⟩
theorem StR.perm (S : StR K mg oh H L) (h : L.Perm L') : StR K mg oh H L' :=
  S.less (fun p hp => .inr (h.mem_iff.mpr hp)) ((List.Perm.flatMap_right rootP h).nodup_iff.mp S.nd)
theorem StR.tail {p : Cell} (S : StR K mg oh H (p :: L)) : StR K mg oh H L :=
  S.less (fun _ hp => .inr (List.mem_cons_of_mem _ hp)) (by have := S.nd; rw [roots_cons] at this; exact (List.nodup_append.mp this).2.1)
theorem StR.right (S : StR K mg oh H (A ++ B)) : StR K mg oh H B :=
  S.less (fun _ hp => .inr (List.mem_append_right _ hp)) (by have := S.nd; rw [roots_append] at this; exact (List.nodup_append.mp this).2.1)
theorem StR.left (S : StR K mg oh H (A ++ B)) : StR K mg oh H A :=
  S.less (fun _ hp => .inr (List.mem_append_left _ hp)) (by have := S.nd; rw [roots_append] at this; exact (List.nodup_append.mp this).1)
theorem hotL_append : hotL oh (A ++ B) = hotL (fun a => oh a ∨ a ∈ roots B) A := by
  funext a
  apply propext
  unfold hotL
  rw [roots_append, List.mem_append]
  constructor
  · rintro (h | h | h)
    · exact .inl (.inl h)
    · exact .inr h
    · exact .inl (.inr h)
  · rintro ((h | h) | h)
    · exact .inl h
    · exact .inr (.inr h)
    · exact .inr (.inl h)
/-- the others' roots become the surroundings -/
theorem StR.split (S : StR K mg oh H (A ++ B)) : StR K mg (hotL oh B) H A := by
  have nd := S.nd
  rw [roots_append] at nd
  obtain ⟨n1, n2, n3⟩ := List.nodup_append.mp nd
  refine ⟨fun p hp => ?_, n1, fun a ha => ?_, fun a ha => ?_⟩
  · have := S.all p (List.mem_append_left _ hp)
    rw [hotL_append] at this
    exact this
  · rintro (z | z)
    · exact S.dj a (by rw [roots_append]; exact List.mem_append_left _ ha) z
    · exact n3 a ha a z rfl
  · rcases ha with z | z
    · exact S.tr a z
    · exact S.right.root_there z
theorem Step.refl : Step L H L H := ⟨fun _ _ h _ => h, fun _ h => .inl h, fun _ h => h⟩
theorem Step.trans (s : Step L H L' H') (t : Step L' H' A H'') : Step L H A H'' := by
  have up : ∀ a, H' a = none → H a = none := fun a h => by
    cases e : H a with
    | none => rfl
    | some o => exact absurd h (s.dom a (by rw [e]; simp))
  refine ⟨fun a o e n => ?_, fun a ha => ?_, fun a h => t.dom a (s.dom a h)⟩
  · refine t.keep a o (s.keep a o e n) fun z => ?_
    rcases s.sub a z with q | q
    · exact n q
    · rw [e] at q; cases q
  · rcases t.sub a ha with q | q
    · exact s.sub a q
    · exact .inr (up a q)
theorem Step.frame (s : Step A H A' H') : Step (A ++ B) H (A' ++ B) H' := by
  refine ⟨fun a o e n => s.keep a o e fun z => n (by rw [roots_append]; exact List.mem_append_left _ z), fun a ha => ?_, s.dom⟩
  rw [roots_append] at ha ⊢
  rcases List.mem_append.mp ha with z | z
  · exact (s.sub a z).imp (List.mem_append_left _) id
  · exact .inl (List.mem_append_right _ z)
theorem Step.keeps {oh : Pr} (s : Step A H A' H') : Keeps (hotL oh (A ++ B)) (hotL oh (A' ++ B)) H H' := by
  refine ⟨fun a o e n => s.keep a o e fun z => n (.inr (by rw [roots_append]; exact List.mem_append_left _ z)), fun a o e n q => ?_⟩
  rcases q with q | q
  · exact n (.inl q)
  · rw [roots_append] at q
    rcases List.mem_append.mp q with z | z
    · rcases s.sub a z with y | y
      · exact n (.inr (by rw [roots_append]; exact List.mem_append_left _ y))
      · rw [e] at y; cases y
    · exact n (.inr (by rw [roots_append]; exact List.mem_append_right _ z))
/-- THE FRAME: what A came to, beside B -/
theorem StR.frame (S : StR K mg oh H (A ++ B)) (T : StR K mg (hotL oh B) H' A') (s : Step A H A' H') : StR K mg oh H' (A' ++ B) := by
  have nd := S.nd
  rw [roots_append] at nd
  obtain ⟨n1, n2, n3⟩ := List.nodup_append.mp nd
  have kp := s.keeps (oh := oh) (B := B)
  refine ⟨fun p hp => ?_, ?_, fun a ha => ?_, fun a ha => s.dom a (S.tr a ha)⟩
  · rcases List.mem_append.mp hp with hp | hp
    · rw [hotL_append]; exact T.all p hp
    · intro x hx
      obtain ⟨v, e, r⟩ := S.all p (List.mem_append_right _ hp) x hx
      refine ⟨v, e, r.mono kp fun a hb => ?_⟩
      have ha : a ∈ roots B := mem_roots.mpr ⟨p, hp, by rw [cell_eq hx e]; exact hb⟩
      refine ⟨.inr (by rw [roots_append]; exact List.mem_append_right _ ha), ?_⟩
      cases q : H a with
      | none => exact absurd q (S.right.root_there ha)
      | some o => exact s.keep a o q fun z => n3 a z a ha rfl
  · rw [roots_append]
    exact List.nodup_append.mpr ⟨T.nd, n2, fun a ha b hb e => T.dj a ha (.inr (e ▸ hb))⟩
  · rw [roots_append] at ha
    rcases List.mem_append.mp ha with z | z
    · exact fun q => T.dj a z (.inl q)
    · exact fun q => S.dj a (by rw [roots_append]; exact List.mem_append_right _ z) q
theorem StR.nil {hot : Pr} (h : ∀ a, hot a → H a ≠ none) : StR K mg hot H [] := ⟨fun _ z => (nomatch z), List.nodup_nil, fun _ z => (nomatch z), h⟩
/-- a new value beside all -/
theorem StR.push {c : Cell} (S : StR K mg oh H L) (T : StR K mg (hotL oh L) H' [c]) (s : Step [] H [c] H') : StR K mg oh H' (c :: L) :=
  StR.frame (A := []) (B := L) (A' := [c]) S T s
theorem Step.push {c : Cell} (s : Step [] H [c] H') : Step L H (c :: L) H' := Step.frame (A := []) (B := L) (A' := [c]) s
/-- a value that stands is looked at: frozen, nothing changes -/
theorem StR.one_fro {hot : Pr} (h : ∀ a, hot a → H a ≠ none) {v : V} {d : D} (r : Rep K mg hot H v d) : StR K mg hot H [(some v, some ⟨false, d⟩)] := by
  refine ⟨fun p hp x hx => ?_, ?_, fun a ha => ?_, h⟩
  · obtain rfl := List.mem_singleton.mp hp
    cases hx
    refine ⟨v, rfl, .fro (r.mono ⟨fun _ _ e _ => e, fun a o e n => ?_⟩)⟩
    rintro (q | q)
    · exact n q
    · rw [roots_fro] at q; cases q
  · rw [roots_fro]; exact List.nodup_nil
  · rw [roots_fro] at ha; cases ha
theorem Step.one_fro {v : V} {d : D} : Step [] H [(some v, some ⟨false, d⟩)] H :=
  ⟨fun _ _ e _ => e, fun a ha => (by rw [roots_fro] at ha; cases ha), fun _ e => e⟩
theorem hot_upd {hot : Pr} (h : ∀ a, hot a → H a ≠ none) {p : Addr} {o : HO} : ∀ a, hot a → upd H p o a ≠ none := fun a ha => by
  by_cases e : a = p
  · subst e; rw [upd_same]; simp
  · rw [upd_ne e]; exact h a ha
theorem keeps_new {hot : Pr} {p : Addr} {o : HO} (n : H p = none) : Keeps hot hot H (upd H p o) :=
  ⟨fun a u e _ => by rw [upd_ne (ne_of_none e n)]; exact e, fun _ _ _ n => n⟩
theorem keeps_newH {hot hot' : Pr} {p : Addr} {o : HO} (n : H p = none) (hh : ∀ a, hot' a → hot a ∨ a = p) : Keeps hot hot' H (upd H p o) :=
  ⟨fun a u e _ => by rw [upd_ne (ne_of_none e n)]; exact e, fun a u e m q => (hh a q).elim m fun z => by subst z; rw [n] at e; cases e⟩
theorem step_new {p : Addr} {o : HO} {c : Cell} (n : H p = none) (hr : ∀ a ∈ roots [c], a = p) : Step [] H [c] (upd H p o) :=
  ⟨fun a u e _ => by rw [upd_ne (ne_of_none e n)]; exact e, fun a ha => .inr (by rw [hr a ha]; exact n), fun a e => by
    by_cases q : a = p
    · subst q; rw [upd_same]; simp
    · rw [upd_ne q]; exact e⟩
/-- a new list -/
theorem StR.new_lst {hot : Pr} (h : ∀ a, hot a → H a ≠ none) {p : Addr} (n : H p = none) {vs : List V} {ds : List D} (r : Reps K mg hot H vs ds) :
    StR K mg hot (upd H p (.lst vs)) [(some (.ref p), some ⟨true, .lst ds⟩)] := by
  refine ⟨fun q hq x hx => ?_, ?_, fun a ha => ?_, hot_upd h⟩
  · obtain rfl := List.mem_singleton.mp hq
    cases hx
    refine ⟨_, rfl, .lst (.inr (by rw [roots_own]; exact List.mem_cons_self)) upd_same (r.mono (keeps_newH n fun a q => ?_))⟩
    rcases q with q | q
    · exact .inl q
    · rw [roots_own] at q; exact .inr (by simpa [roots] using q)
  · rw [roots_own]; exact List.nodup_cons.mpr ⟨by simp [roots], List.nodup_nil⟩
  · rw [roots_own] at ha
    have e : a = p := by simpa [roots] using ha
    subst e
    exact fun q => h a q n
theorem roots_one {a : Addr} {d : D} (hb : bx d = []) : roots [((some (.ref a), some ⟨true, d⟩) : Cell)] = [a] := by rw [roots_ownG, hb]; rfl
theorem Step.new_lst {p : Addr} (n : H p = none) {o : HO} {d : D} (hb : bx d = [] := by rfl) : Step [] H [(some (.ref p), some ⟨true, d⟩)] (upd H p o) :=
  step_new n fun a ha => by rw [roots_one hb] at ha; simpa using ha
/-- a new tuple -/
theorem rep_new_tup {hot : Pr} (h : ∀ a, hot a → H a ≠ none) {p : Addr} (n : H p = none) {o : Obj} (po : PTu o) {vs : List V} {ds : List D} (r : Reps K mg hot H vs ds) :
    Rep K mg hot (newT H p o vs) (.ref p) (.tup ds) :=
  .tup (.inl ⟨fun q => h p q n, o, po, upd_same⟩) (r.mono (keeps_new n))
theorem StR.new_tup {hot : Pr} (h : ∀ a, hot a → H a ≠ none) {p : Addr} (n : H p = none) {o : Obj} (po : PTu o) {vs : List V} {ds : List D} (r : Reps K mg hot H vs ds) :
    StR K mg hot (newT H p o vs) [(some (.ref p), some ⟨false, .tup ds⟩)] :=
  StR.one_fro (hot_upd h) (rep_new_tup h n po r)
/-- a new loose tuple -/
theorem StR.new_lse {hot : Pr} (h : ∀ a, hot a → H a ≠ none) {p : Addr} (n : H p = none) {vs : List V} {ds : List D} (r : Reps K mg hot H vs ds) :
    StR K mg hot (upd H p (.tup vs)) [(some (.ref p), some ⟨false, .lse ds⟩)] :=
  StR.one_fro (hot_upd h) (.lse (fun q => h p q n) (.inl upd_same) (r.mono (keeps_new n)))
theorem Step.new_fro {p : Addr} (n : H p = none) {o : HO} {v : V} {d : D} : Step [] H [(some v, some ⟨false, d⟩)] (upd H p o) :=
  step_new n fun a ha => by rw [roots_fro] at ha; cases ha
/-- an own value becomes everybody's -/
theorem StR.freeze {v : V} {x : Val} (S : StR K mg oh H ((some v, some x) :: L)) : StR K mg oh H ((some v, some ⟨false, x.d⟩) :: L) := by
  obtain ⟨o, d⟩ := x
  cases o with
  | false => exact S
  | true =>
    obtain ⟨v', e, r⟩ := S.all _ List.mem_cons_self _ rfl
    cases e
    obtain ⟨a, rfl, ha, _⟩ := r.own_root
    have nd := S.nd
    rw [roots_ownG] at nd
    obtain ⟨n1, n3⟩ := List.nodup_cons.mp nd
    have n2 := (List.nodup_append.mp n3).2.1
    have na : ¬ oh a := S.dj a (by rw [roots_ownG]; exact List.mem_cons_self)
    have coolA : ∀ b ∈ a :: bx d, ¬ hotL oh ((some (V.ref a), some ⟨false, d⟩) :: L) b := by
      rintro b hb (q | q)
      · exact S.dj b (by rw [roots_ownG]; exact (List.mem_cons.mp hb).elim (fun e => by rw [e]; exact List.mem_cons_self) fun z => List.mem_cons_of_mem _ (List.mem_append_left _ z)) q
      · rw [roots_fro] at q
        rcases List.mem_cons.mp hb with e | z
        · rw [e] at q; exact n1 (List.mem_append_right _ q)
        · exact (List.nodup_append.mp n3).2.2 b z b q rfl
    have cool := coolA a List.mem_cons_self
    have kp : Keeps (hotL oh ((some (V.ref a), some ⟨true, d⟩) :: L)) (hotL oh ((some (V.ref a), some ⟨false, d⟩) :: L)) H H :=
      ⟨fun _ _ e _ => e, fun b o _ n q => n (q.elim .inl fun q => .inr (by rw [roots_fro] at q; rw [roots_ownG]; exact List.mem_cons_of_mem _ (List.mem_append_right _ q)))⟩
    refine ⟨fun p hp x hx => ?_, by rw [roots_fro]; exact n2, fun b hb => S.dj b (by rw [roots_fro] at hb; rw [roots_ownG]; exact List.mem_cons_of_mem _ (List.mem_append_right _ hb)), S.tr⟩
    rcases List.mem_cons.mp hp with rfl | hp
    · cases hx
      refine ⟨_, rfl, .fro ?_⟩
      cases r with
      | lst _ h2 r => exact .lst (.inl ⟨cool, .inl h2⟩) (r.mono kp)
      | dicK _ h2 e r => exact .dicK cool h2 e (r.mono kp)
      | boxT _ h2 rs => obtain ⟨o, po, h2⟩ := h2; exact .box (.tup (.inl ⟨cool, o, po, h2⟩) (rs.cool kp fun b hb => coolA b (List.mem_cons_of_mem _ hb)))
      | boxL _ h2 rs => exact .box (.lst (.inl ⟨cool, .inl h2⟩) (rs.cool kp fun b hb => coolA b (List.mem_cons_of_mem _ hb)))
      | boxD _ h2 e rs => exact .box (.dicK cool h2 e (rs.cool kp fun b hb => coolA b (List.mem_cons_of_mem _ hb)))
    · obtain ⟨w, e, q⟩ := S.all p (List.mem_cons_of_mem _ hp) x hx
      exact ⟨w, e, q.mono kp fun b hb => ⟨.inr (by rw [roots_fro]; exact mem_roots.mpr ⟨p, hp, by rw [cell_eq hx e]; exact hb⟩), rfl⟩⟩
theorem Step.freeze {v : V} {x : Val} (s : Step A H ((some v, some x) :: L) H') : Step A H ((some v, some ⟨false, x.d⟩) :: L) H' :=
  ⟨s.keep, fun a ha => s.sub a (by rw [roots_fro] at ha; rw [roots_cons]; exact List.mem_append_right _ ha), s.dom⟩
/-- the head's value, as it reads -/
theorem StR.head {v : V} {x : Val} (S : StR K mg oh H ((some v, some x) :: L)) : VR K mg (hotL oh ((some v, some x) :: L)) H v x := by
  obtain ⟨w, e, r⟩ := S.all _ List.mem_cons_self _ rfl
  cases e
  exact r
theorem StR.head_fro {v : V} {d : D} (S : StR K mg oh H ((some v, some ⟨false, d⟩) :: L)) : Rep K mg (hotL oh L) H v d := by
  have r := S.head
  have e : hotL oh ((some v, some ⟨false, d⟩) :: L) = hotL oh L := by unfold hotL; rw [roots_fro]
  rw [e] at r
  cases r with
  | fro r => exact r
/-- an own list is changed -/
theorem StR.put_lst {a : Addr} {ds es : List D} {ws : List V} (S : StR K mg oh H ((some (.ref a), some ⟨true, .lst ds⟩) :: L)) (r : Reps K mg (hotL oh ((some (.ref a), some ⟨true, .lst ds⟩) :: L)) H ws es) :
    StR K mg oh (upd H a (.lst ws)) ((some (.ref a), some ⟨true, .lst es⟩) :: L) ∧ Step ((some (.ref a), some ⟨true, .lst ds⟩) :: L) H ((some (.ref a), some ⟨true, .lst es⟩) :: L) (upd H a (.lst ws)) := by
  have T : StR K mg (hotL oh L) H [(some (.ref a), some ⟨true, .lst ds⟩)] := StR.split (A := [_]) S
  have ne : ∀ b o, H b = some o → b ∉ roots [((some (.ref a), some ⟨true, .lst ds⟩) : Cell)] → b ≠ a := fun b o _ n z => n (by subst z; rw [roots_own]; exact List.mem_cons_self)
  have st : Step [((some (.ref a), some ⟨true, .lst ds⟩) : Cell)] H [(some (.ref a), some ⟨true, .lst es⟩)] (upd H a (.lst ws)) :=
    ⟨fun b o e n => by rw [upd_ne (ne b o e n)]; exact e, fun b hb => .inl (by rw [roots_own] at hb ⊢; exact hb), fun b e => by
      by_cases q : b = a
      · subst q; rw [upd_same]; simp
      · rw [upd_ne q]; exact e⟩
  refine ⟨StR.frame (A := [_]) (A' := [_]) S ?_ st, Step.frame (A := [_]) (A' := [_]) st⟩
  refine ⟨fun p hp x hx => ?_, by rw [roots_own]; exact List.nodup_cons.mpr ⟨by simp [roots], List.nodup_nil⟩, fun b hb => T.dj b (by rw [roots_own] at hb ⊢; exact hb), fun b hb => hot_upd T.tr b hb⟩
  obtain rfl := List.mem_singleton.mp hp
  cases hx
  refine ⟨_, rfl, .lst (.inr (by rw [roots_own]; exact List.mem_cons_self)) upd_same (r.mono ⟨fun b o e n => ?_, fun b o _ n q => n ?_⟩)⟩
  · rw [upd_ne fun z => n (.inr (by subst z; rw [roots_own]; exact List.mem_cons_self))]
    exact e
  · rcases q with (q | q) | q
    · exact .inl q
    · exact .inr (by rw [roots_own]; exact List.mem_cons_of_mem _ q)
    · rw [roots_own] at q
      exact .inr (by rw [roots_own]; simp [roots] at q; subst q; exact List.mem_cons_self)
end
end TL

/-! T2: readings over data, lifted to the hand layer's readings -/
namespace TL
open PySem PySem.Spec PyProof.Rows L2

abbrev WE := EnvD → (Val → EnvD → Prop) → Prop
inductive Opd where
  | sl (i : Nat) | tm (d : D)
def Opd.cell (v : V) : Opd → Cell
  | .sl _ => (some v, none)
  | .tm d => (some v, some (fz d))
def Opd.At (σ : L2.St) (v : V) : Opd → Prop
  | .sl i => σ[i]? = some (some v)
  | .tm _ => True
def Opd.res (env : EnvD) : Opd → Option D
  | .sl i => match env[i]? with
    | some (some x) => some x.d
    | _ => none
  | .tm d => some d
def resAll (env : EnvD) : List Opd → Option (List D)
  | [] => some []
  | o :: os => match o.res env, resAll env os with
    | some d, some ds => some (d :: ds)
    | _, _ => none
abbrev WX := EnvD → (Opd → EnvD → Prop) → Prop
abbrev WXs := EnvD → (List Opd → EnvD → Prop) → Prop
abbrev WT := EnvD → (Bool → EnvD → Prop) → Prop
def cells : List V → List Opd → Lay
  | v :: vs, o :: os => o.cell v :: cells vs os
  | _, _ => []
inductive OpdsAt (σ : L2.St) : List V → List Opd → Prop
  | nil : OpdsAt σ [] []
  | cons {v vs o os} : o.At σ v → OpdsAt σ vs os → OpdsAt σ (v :: vs) (o :: os)

section
variable (K : PySem.W.Frag) (mg : Str → Option Value)
def liftE (t : WE) : TE := fun σ H Q => ∃ (oh : Pr) (τ : Lay) (env : EnvD) (P : Val → EnvD → Prop), σ.length = env.length ∧ StR K mg oh H (τ ++ σ.zip env) ∧ t env P ∧
  ∀ v val env' H', σ.length = env'.length → StR K mg oh H' ((some v, some val) :: (τ ++ σ.zip env')) → Step (τ ++ σ.zip env) H ((some v, some val) :: (τ ++ σ.zip env')) H' → P val env' → Q v H'
def liftX (t : WX) : TE := fun σ H Q => ∃ (oh : Pr) (τ : Lay) (env : EnvD) (P : Opd → EnvD → Prop), σ.length = env.length ∧ StR K mg oh H (τ ++ σ.zip env) ∧ t env P ∧
  ∀ v o env' H', σ.length = env'.length → o.At σ v → StR K mg oh H' (o.cell v :: (τ ++ σ.zip env')) → Step (τ ++ σ.zip env) H (o.cell v :: (τ ++ σ.zip env')) H' → P o env' → Q v H'
def liftXs (t : WXs) : TA := fun σ H Q => ∃ (oh : Pr) (τ : Lay) (env : EnvD) (P : List Opd → EnvD → Prop), σ.length = env.length ∧ StR K mg oh H (τ ++ σ.zip env) ∧ t env P ∧
  ∀ vs os env' H', σ.length = env'.length → OpdsAt σ vs os → StR K mg oh H' (cells vs os ++ (τ ++ σ.zip env')) → Step (τ ++ σ.zip env) H (cells vs os ++ (τ ++ σ.zip env')) H' → P os env' → Q vs H'
def liftT (t : WT) : TT := fun σ H Q => ∃ (oh : Pr) (τ : Lay) (env : EnvD) (P : Bool → EnvD → Prop), σ.length = env.length ∧ StR K mg oh H (τ ++ σ.zip env) ∧ t env P ∧
  ∀ b env' H', σ.length = env'.length → StR K mg oh H' (τ ++ σ.zip env') → Step (τ ++ σ.zip env) H (τ ++ σ.zip env') H' → P b env' → Q b H'
end

theorem PEimp {X : Cx} {e : Expr} {t t' : TE} (h : PE X e t) (q : ∀ σ H Q, t' σ H Q → t σ H Q) : PE X e t' := ⟨fun pins s σ H Q I w => h.run pins s σ H Q I (q σ H Q w)⟩
theorem PTimp {X : Cx} {e : Expr} {t t' : TT} (h : PT X e t) (q : ∀ σ H Q, t' σ H Q → t σ H Q) : PT X e t' := ⟨fun pins s σ H Q I w => h.run pins s σ H Q I (q σ H Q w)⟩
theorem PWimp {X : Cx} {e : Expr} {t t' : TT} (h : PW X e t) (q : ∀ σ H Q, t' σ H Q → t σ H Q) : PW X e t' := ⟨fun wh pins s σ H Q I w => h.run wh pins s σ H Q I (q σ H Q w)⟩
theorem PAimp {X : Cx} {es : List Expr} {t t' : TA} (h : PA X es t) (q : ∀ σ H Q, t' σ H Q → t σ H Q) : PA X es t' := ⟨fun p pins s σ H Q I w => h.run p pins s σ H Q I (q σ H Q w)⟩
theorem PSimp {X : Cx} {e : Stmt} {t t' : TS} (h : PS X e t) (q : ∀ D σ H, t' D σ H → t D σ H) : PS X e t' := ⟨fun pins s σ H D I w => h.run pins s σ H D I (q D σ H w)⟩
theorem PSsimp {X : Cx} {e : List Stmt} {t t' : TS} (h : PSs X e t) (q : ∀ D σ H, t' D σ H → t D σ H) : PSs X e t' := ⟨fun pins s σ H D I w => h.run pins s σ H D I (q D σ H w)⟩

/-! ### cells by their place -/
theorem zip_split {σ : L2.St} {env : EnvD} (hl : σ.length = env.length) : ∀ {i : Nat} {so : Option V} {eo : Option Val}, σ[i]? = some so → env[i]? = some eo →
    ∃ A B : Lay, σ.zip env = A ++ (so, eo) :: B ∧ ∀ so' eo', (σ.set i so').zip (env.set i eo') = A ++ (so', eo') :: B := by
  induction σ generalizing env with
  | nil => intro i so eo h; simp at h
  | cons s0 σ ih =>
    intro i so eo h1 h2
    cases env with
    | nil => simp at h2
    | cons e0 env =>
      cases i with
      | zero =>
        simp at h1 h2
        subst h1 h2
        exact ⟨[], σ.zip env, rfl, fun _ _ => rfl⟩
      | succ i =>
        obtain ⟨A, B, e, f⟩ := ih (env := env) (by simpa using hl) (i := i) (by simpa using h1) (by simpa using h2)
        exact ⟨(s0, e0) :: A, B, by rw [List.zip_cons_cons, e]; rfl, fun so' eo' => by rw [List.set_cons_succ, List.set_cons_succ, List.zip_cons_cons, f]; rfl⟩
theorem get_slot {K mg oh H τ} {σ : L2.St} {env : EnvD} (hl : σ.length = env.length) (S : StR K mg oh H (τ ++ σ.zip env)) {i : Nat} {x : Val} (h : env[i]? = some (some x)) :
    ∃ v, σ[i]? = some (some v) ∧ VR K mg (hotL oh (τ ++ σ.zip env)) H v x := by
  obtain ⟨hi, _⟩ := List.getElem?_eq_some_iff.mp h
  have hs : σ[i]? = some σ[i] := List.getElem?_eq_getElem (by omega)
  obtain ⟨A, B, e, _⟩ := zip_split hl hs h
  obtain ⟨v, e1, r⟩ := S.all (σ[i], some x) (by rw [e]; simp) x rfl
  exact ⟨v, by rw [hs]; exact congrArg some e1, r⟩
theorem perm_mid {A B τ : Lay} {c : Cell} : (τ ++ (A ++ c :: B)).Perm (c :: (τ ++ (A ++ B))) := by
  rw [← List.append_assoc, ← List.append_assoc]
  exact List.perm_middle
theorem roots_perm (h : L.Perm L') {a : Addr} : a ∈ roots L ↔ a ∈ roots L' := (List.Perm.flatMap_right rootP h).mem_iff
theorem Step.permR {L L1 L2 : Lay} {H H' : Hp} (s : Step L H L1 H') (h : L1.Perm L2) : Step L H L2 H' := ⟨s.keep, fun a ha => s.sub a ((roots_perm h).mpr ha), s.dom⟩
theorem Step.permL {L L1 L2 : Lay} {H H' : Hp} (s : Step L H L1 H') (h : L.Perm L2) : Step L2 H L1 H' := ⟨fun a o e n => s.keep a o e fun z => n ((roots_perm h).mp z), fun a ha => (s.sub a ha).imp (roots_perm h).mp id, s.dom⟩
theorem Step.lessR {L L1 L2 : Lay} {H H' : Hp} (s : Step L H L1 H') (h : ∀ a ∈ roots L2, a ∈ roots L1) : Step L H L2 H' := ⟨s.keep, fun a ha => s.sub a (h a ha), s.dom⟩
theorem roots_sublist {A B : Lay} (h : A.Sublist B) : (roots A).Sublist (roots B) := by
  induction h with
  | slnil => exact List.Sublist.refl _
  | cons a _ ih => rw [roots_cons]; exact ih.trans (List.sublist_append_right _ _)
  | cons_cons a _ ih => rw [roots_cons, roots_cons]; exact List.Sublist.append_left ih _
theorem roots_app_sub {A B : Lay} : ∀ a ∈ roots B, a ∈ roots (A ++ B) := fun a h => by rw [roots_append]; exact List.mem_append_right _ h
theorem roots_cons_sub {c : Cell} {B : Lay} : ∀ a ∈ roots B, a ∈ roots (c :: B) := fun a h => by rw [roots_cons]; exact List.mem_append_right _ h
theorem rootP_cell {v : V} {o : Opd} : rootP (o.cell v) = [] := by
  cases o with
  | sl i => exact rootP_none
  | tm d => exact rootP_fro
theorem roots_cell {v : V} {o : Opd} {L : Lay} : roots (o.cell v :: L) = roots L := by rw [roots_cons, rootP_cell]; rfl
theorem roots_cells {L : Lay} : ∀ {vs : List V} {os : List Opd}, roots (cells vs os ++ L) = roots L
  | [], _ => by simp [cells]
  | _ :: _, [] => by simp [cells]
  | v :: vs, o :: os => by
    show roots (o.cell v :: (cells vs os ++ L)) = _
    rw [roots_cell, roots_cells]
theorem hot_cell {oh : Pr} {v : V} {o : Opd} {L : Lay} : hotL oh (o.cell v :: L) = hotL oh L := by unfold hotL; rw [roots_cell]
theorem hot_cells {oh : Pr} {vs : List V} {os : List Opd} {L : Lay} : hotL oh (cells vs os ++ L) = hotL oh L := by unfold hotL; rw [roots_cells]

/-- what an operand reads as -/
def VRo (K : PySem.W.Frag) (mg : Str → Option Value) (hot : Pr) (H : Hp) (v : V) (d : D) : Prop := ∃ o, VR K mg hot H v ⟨o, d⟩
inductive VRos (K : PySem.W.Frag) (mg : Str → Option Value) (hot : Pr) (H : Hp) : List V → List D → Prop
  | nil : VRos K mg hot H [] []
  | cons {v vs d ds} : VRo K mg hot H v d → VRos K mg hot H vs ds → VRos K mg hot H (v :: vs) (d :: ds)
theorem opd_reads {K mg oh H τ} {σ : L2.St} {env : EnvD} (hl : σ.length = env.length) {A : Lay} (hA : ∀ {L : Lay}, hotL oh (A ++ L) = hotL oh L) (S : StR K mg oh H (A ++ (τ ++ σ.zip env))) {v : V} {o : Opd} {d : D}
    (ha : o.At σ v) (hc : o.cell v ∈ A) (hr : o.res env = some d) : VRo K mg (hotL oh (τ ++ σ.zip env)) H v d := by
  cases o with
  | sl i =>
    simp only [Opd.res] at hr
    split at hr
    · rename_i x he
      cases hr
      obtain ⟨w, e1, r⟩ := get_slot hl S.right he
      have e2 : σ[i]? = some (some v) := ha
      rw [e2] at e1
      cases e1
      exact ⟨x.own, r⟩
    · cases hr
  | tm d' =>
    cases hr
    obtain ⟨w, e1, r⟩ := S.all _ (List.mem_append_left _ hc) _ rfl
    cases e1
    rw [hA] at r
    exact ⟨false, r⟩
theorem mem_cells_head {v vs o os} : o.cell v ∈ cells (v :: vs) (o :: os) := List.mem_cons_self
theorem opds_read {K mg oh H τ} {σ : L2.St} {env : EnvD} (hl : σ.length = env.length) {A : Lay} (hA : ∀ {L : Lay}, hotL oh (A ++ L) = hotL oh L) (S : StR K mg oh H (A ++ (τ ++ σ.zip env))) :
    ∀ {vs : List V} {os : List Opd} {ds : List D}, OpdsAt σ vs os → (∀ c ∈ cells vs os, c ∈ A) → resAll env os = some ds → VRos K mg (hotL oh (τ ++ σ.zip env)) H vs ds
  | [], [], ds, _, _, hr => by cases hr; exact .nil
  | v :: vs, o :: os, ds, ha, hc, hr => by
    cases ha with
    | cons a1 a2 =>
      unfold resAll at hr
      split at hr
      · rename_i d ds' e1 e2
        cases hr
        exact .cons (opd_reads hl hA S a1 (hc _ mem_cells_head) e1) (opds_read hl hA S a2 (fun c hm => hc c (List.mem_cons_of_mem _ hm)) e2)
      · cases hr

/-- what a built-in's reading must give: r, of the values; s, of the data -/
abbrev PostF (K : PySem.W.Frag) (mg : Str → Option Value) (hot : Pr) (H : Hp) (P : Val → Prop) (Q : VK) : Prop :=
  ∀ v val H', StR K mg hot H' [(some v, some val)] → Step [] H [(some v, some val)] H' → P val → Q v H'
def BinL (K : PySem.W.Frag) (mg : Str → Option Value) (r : R2) (s : D → D → (Val → Prop) → Prop) : Prop :=
  ∀ (hot : Pr) (H : Hp) (x y : V) (dx dy : D) (P : Val → Prop) (Q : VK), (∀ a, hot a → H a ≠ none) → VRo K mg hot H x dx → VRo K mg hot H y dy → s dx dy P → PostF K mg hot H P Q → r x y H Q
def UnL (K : PySem.W.Frag) (mg : Str → Option Value) (r : V → Hp → VK → Prop) (s : D → (Val → Prop) → Prop) : Prop :=
  ∀ (hot : Pr) (H : Hp) (x : V) (dx : D) (P : Val → Prop) (Q : VK), (∀ a, hot a → H a ≠ none) → VRo K mg hot H x dx → s dx P → PostF K mg hot H P Q → r x H Q
def CallL (K : PySem.W.Frag) (mg : Str → Option Value) (r : List V → Hp → VK → Prop) (s : List D → (Val → Prop) → Prop) : Prop :=
  ∀ (hot : Pr) (H : Hp) (xs : List V) (ds : List D) (P : Val → Prop) (Q : VK), (∀ a, hot a → H a ≠ none) → VRos K mg hot H xs ds → s ds P → PostF K mg hot H P Q → r xs H Q

section
variable {K : PySem.W.Frag} {mg : Str → Option Value} {oh : Pr} {H H' : Hp} {L : Lay} {Q : VK}
/-- behind operands: the new value in their place -/
theorem over_cells {L0 : Lay} {H0 : Hp} {A : Lay} {v : V} {val : Val} (hA : ∀ {L : Lay}, roots (A ++ L) = roots L) (S : StR K mg oh H (A ++ L)) (s0 : Step L0 H0 (A ++ L) H)
    (T : StR K mg (hotL oh L) H' [(some v, some val)]) (s : Step [] H [(some v, some val)] H') : StR K mg oh H' ((some v, some val) :: L) ∧ Step L0 H0 ((some v, some val) :: L) H' := by
  have S' : StR K mg oh H L := S.right
  refine ⟨S'.push T s, ?_⟩
  have s1 : Step L0 H0 L H := s0.lessR fun a ha => by rw [hA]; exact ha
  exact s1.trans s.push

def wBin (s : D → D → (Val → Prop) → Prop) (ta tb : WX) : WE := fun env P => ta env fun oa env1 => tb env1 fun ob env2 => ∃ x y, oa.res env2 = some x ∧ ob.res env2 = some y ∧ s x y fun val => P val env2
theorem bin_lift {r : R2} {s : D → D → (Val → Prop) → Prop} (hl : BinL K mg r s) {ta tb : WX} {σ : L2.St} (h : liftE K mg (wBin s ta tb) σ H Q) :
    liftX K mg ta σ H fun x H1 => liftX K mg tb σ H1 fun y H2 => r x y H2 Q := by
  obtain ⟨oh, τ, env, P, e0, S, t, k⟩ := h
  refine ⟨oh, τ, env, _, e0, S, t, fun va oa env1 H1 e1 a1 S1 s1 t1 => ?_⟩
  refine ⟨oh, oa.cell va :: τ, env1, _, e1, S1, t1, fun vb ob env2 H2 e2 a2 S2 s2 ⟨x, y, rx, ry, q⟩ => ?_⟩
  have hA : ∀ {L : Lay}, roots ([ob.cell vb, oa.cell va] ++ L) = roots L := by
    intro L
    show roots (ob.cell vb :: oa.cell va :: L) = _
    rw [roots_cell, roots_cell]
  have hA2 : ∀ {L : Lay}, hotL oh ([ob.cell vb, oa.cell va] ++ L) = hotL oh L := by intro L; unfold hotL; rw [hA]
  have S2' : StR K mg oh H2 ([ob.cell vb, oa.cell va] ++ (τ ++ σ.zip env2)) := S2
  have h1 := opd_reads e2 hA2 S2' a1 (by simp) rx
  have h2 := opd_reads e2 hA2 S2' a2 (by simp) ry
  refine hl _ H2 va vb x y _ Q (fun a ha => S2'.right.hot_there ha) h1 h2 q fun v val H3 T st p => ?_
  obtain ⟨S3, s3⟩ := over_cells hA S2' (s1.trans s2) T st
  exact k v val env2 H3 e2 S3 s3 p
def wUn (s : D → (Val → Prop) → Prop) (ta : WX) : WE := fun env P => ta env fun oa env1 => ∃ x, oa.res env1 = some x ∧ s x fun val => P val env1
theorem un_lift {r : V → Hp → VK → Prop} {s : D → (Val → Prop) → Prop} (hl : UnL K mg r s) {ta : WX} {σ : L2.St} (h : liftE K mg (wUn s ta) σ H Q) : liftX K mg ta σ H fun x H1 => r x H1 Q := by
  obtain ⟨oh, τ, env, P, e0, S, t, k⟩ := h
  refine ⟨oh, τ, env, _, e0, S, t, fun va oa env1 H1 e1 a1 S1 s1 ⟨x, rx, q⟩ => ?_⟩
  have hA : ∀ {L : Lay}, roots ([oa.cell va] ++ L) = roots L := by intro L; exact roots_cell
  have hA2 : ∀ {L : Lay}, hotL oh ([oa.cell va] ++ L) = hotL oh L := by intro L; unfold hotL; rw [hA]
  have S1' : StR K mg oh H1 ([oa.cell va] ++ (τ ++ σ.zip env1)) := S1
  refine hl _ H1 va x _ Q (fun a ha => S1'.right.hot_there ha) (opd_reads e1 hA2 S1' a1 (by simp) rx) q fun v val H3 T st p => ?_
  obtain ⟨S3, s3⟩ := over_cells hA S1' s1 T st
  exact k v val env1 H3 e1 S3 s3 p
def wCall (s : List D → (Val → Prop) → Prop) (ts : WXs) : WE := fun env P => ts env fun os env1 => ∃ ds, resAll env1 os = some ds ∧ s ds fun val => P val env1
theorem call_lift {r : List V → Hp → VK → Prop} {s : List D → (Val → Prop) → Prop} (hl : CallL K mg r s) {ts : WXs} {σ : L2.St} (h : liftE K mg (wCall s ts) σ H Q) : liftXs K mg ts σ H fun xs H1 => r xs H1 Q := by
  obtain ⟨oh, τ, env, P, e0, S, t, k⟩ := h
  refine ⟨oh, τ, env, _, e0, S, t, fun vs os env1 H1 e1 a1 S1 s1 ⟨ds, rx, q⟩ => ?_⟩
  have hA : ∀ {L : Lay}, roots (cells vs os ++ L) = roots L := roots_cells
  refine hl _ H1 vs ds _ Q (fun a ha => S1.right.hot_there ha) (opds_read e1 hot_cells S1 a1 (fun _ h => h) rx) q fun v val H3 T st p => ?_
  obtain ⟨S3, s3⟩ := over_cells hA S1 s1 T st
  exact k v val env1 H3 e1 S3 s3 p
end

/-! ### operands, argument lists -/
section
variable {X : Cx} {e : Expr} {es : List Expr} {pos : Pos} {i : Nat} {x : Str}
def wVarX (i : Nat) : WX := fun env P => (∃ x, env[i]? = some (some x)) ∧ P (.sl i) env
theorem px_var {K mg} (h : PE X (.Name x pos) (tVar i)) : PE X (.Name x pos) (liftX K mg (wVarX i)) := by
  refine PEimp h fun σ H Q w => ?_
  obtain ⟨oh, τ, env, P, e0, S, ⟨⟨x, hx⟩, p⟩, k⟩ := w
  obtain ⟨v, hv, _⟩ := get_slot e0 S hx
  refine ⟨v, hv, k v (.sl i) env H e0 hv ?_ ?_ p⟩
  · exact S.less (fun c hc => (List.mem_cons.mp hc).imp (fun e => by rw [e]; rfl) id) (by rw [roots_cell]; exact S.nd)
  · exact Step.refl.lessR fun a ha => by rw [roots_cell] at ha; exact ha
def wTm (t : WE) : WX := fun env P => t env fun val env1 => P (.tm val.d) env1
theorem px_tm {K mg} {t : WE} (h : PE X e (liftE K mg t)) : PE X e (liftX K mg (wTm t)) := by
  refine PEimp h fun σ H Q w => ?_
  obtain ⟨oh, τ, env, P, e0, S, t1, k⟩ := w
  exact ⟨oh, τ, env, _, e0, S, t1, fun v val env' H' e1 S1 s1 p => k v (.tm val.d) env' H' e1 trivial S1.freeze s1.freeze p⟩
/-- a name as a value: what it holds is everybody's from here on -/
def wVar (i : Nat) : WE := fun env P => ∃ x, env[i]? = some (some x) ∧ P (fz x.d) (env.set i (some (fz x.d)))
theorem pe_varD {K mg} (h : PE X (.Name x pos) (tVar i)) : PE X (.Name x pos) (liftE K mg (wVar i)) := by
  refine PEimp h fun σ H Q w => ?_
  obtain ⟨oh, τ, env, P, e0, S, ⟨x, hx, p⟩, k⟩ := w
  obtain ⟨v, hv, _⟩ := get_slot e0 S hx
  have hset : σ.set i (some v) = σ := by
    obtain ⟨hi, he⟩ := List.getElem?_eq_some_iff.mp hv
    rw [← he]; exact List.set_getElem_self hi
  obtain ⟨A, B, e1, e2⟩ := zip_split e0 hv hx
  have e3 : σ.zip (env.set i (some (fz x.d))) = A ++ (some v, some (fz x.d)) :: B := by
    have := e2 (some v) (some (fz x.d))
    rw [hset] at this
    exact this
  have S1 : StR K mg oh H ((some v, some x) :: (τ ++ (A ++ B))) := by rw [e1] at S; exact S.perm perm_mid
  have S2 : StR K mg oh H ((some v, some (fz x.d)) :: (τ ++ (A ++ B))) := S1.freeze
  have r := S2.head_fro
  have S3 : StR K mg oh H ((some v, some (fz x.d)) :: (τ ++ σ.zip (env.set i (some (fz x.d))))) := by
    have hp : (τ ++ σ.zip (env.set i (some (fz x.d)))).Perm ((some v, some (fz x.d)) :: (τ ++ (A ++ B))) := by rw [e3]; exact perm_mid
    have S2' := S2.perm hp.symm
    refine S2'.push (StR.one_fro (fun a ha => S2'.hot_there ha) ?_) Step.one_fro
    have e : hotL oh (τ ++ σ.zip (env.set i (some (fz x.d)))) = hotL oh (τ ++ (A ++ B)) := by
      funext a
      apply propext
      unfold hotL
      rw [roots_perm hp, roots_fro]
    rw [e]
    exact r
  refine ⟨v, hv, k v (fz x.d) _ H (by rw [List.length_set]; exact e0) S3 ?_ p⟩
  refine Step.refl.lessR fun a ha => ?_
  rw [roots_fro, e3] at ha
  rw [e1]
  have h1 := (roots_perm perm_mid).mp ha
  rw [roots_fro] at h1
  exact (roots_perm perm_mid).mpr (roots_cons_sub a h1)

def wXnil : WXs := fun env P => P [] env
def wXcons (t : WX) (ts : WXs) : WXs := fun env P => t env fun o env1 => ts env1 fun os env2 => P (o :: os) env2
theorem pa_nilD {K mg} : PA X [] (liftXs K mg wXnil) := PAimp pa_nil fun σ H Q w => by
  obtain ⟨oh, τ, env, P, e0, S, t, k⟩ := w
  exact k [] [] env H e0 .nil S Step.refl t
def noStar : Expr → Bool
  | .Starred _ _ => false
  | _ => true
theorem star_of {e : Expr} {es : List Expr} {env : Env} (h : noStar e = true) : starEach (e :: es) env = (false, eval e env) :: starEach es env := by
  cases e <;> first | rfl | cases h
theorem pa_consD {K mg} {t : WX} {ts : WXs} (h : PE X e (liftX K mg t)) (hs : PA X es (liftXs K mg ts)) (hn : noStar e = true) : PA X (e :: es) (liftXs K mg (wXcons t ts)) := by
  refine PAimp (pa_cons h hs (star_of hn)) fun σ H Q w => ?_
  obtain ⟨oh, τ, env, P, e0, S, t, k⟩ := w
  refine ⟨oh, τ, env, _, e0, S, t, fun v o env1 H1 e1 a1 S1 s1 t1 => ?_⟩
  refine ⟨oh, o.cell v :: τ, env1, _, e1, S1, t1, fun vs os env2 H2 e2 a2 S2 s2 p => ?_⟩
  have hp : (cells vs os ++ (o.cell v :: τ ++ σ.zip env2)).Perm (cells (v :: vs) (o :: os) ++ (τ ++ σ.zip env2)) := by
    show (cells vs os ++ o.cell v :: (τ ++ σ.zip env2)).Perm (o.cell v :: (cells vs os ++ (τ ++ σ.zip env2)))
    exact List.perm_middle
  exact k (v :: vs) (o :: os) env2 H2 e2 (.cons a1 a2) (S2.perm hp) ((s1.trans s2).permR hp) p
end
end TL

/-! T3: operators and built-ins over data -/
namespace TL
open PySem PySem.Spec PyProof.Rows L2

/-! ### what operators make of data -/
abbrev S2 := D → D → (Val → Prop) → Prop
abbrev S1 := D → (Val → Prop) → Prop
abbrev SN := List D → (Val → Prop) → Prop
def sAdd : S2
  | .int i, .int j, P => P (fz (.int (i + j)))
  | .str s, .str t, P => s.length + t.length ≤ 16777216 ∧ P (fz (.str (s ++ t)))
  | .lst xs, .lst ys, P => xs.length + ys.length ≤ 16777216 ∧ P ⟨true, .lst (xs ++ ys)⟩
  | .tup xs, .tup ys, P => xs.length + ys.length ≤ 16777216 ∧ P (fz (.tup (xs ++ ys)))
  | _, _, _ => False
def sInt2 (C : Int → Int → Prop) (g : Int → Int → D) : S2
  | .int i, .int j, P => C i j ∧ P (fz (g i j))
  | _, _, _ => False
def sSub : S2
  | .int i, .int j, P => P (fz (.int (i - j)))
  | _, _, _ => False
def sMul : S2
  | .int i, .int j, P => ((-(2 ^ 64) < i ∧ i < 2 ^ 64) ∨ (-(2 ^ 64) < j ∧ j < 2 ^ 64)) ∧ P (fz (.int (i * j)))
  | _, _, _ => False
def sDiv : S2
  | .int i, .int j, P => (0 < j ∧ j < 1073741824) ∧ P (fz (.int (i / j)))
  | _, _, _ => False
def sMod : S2
  | .int i, .int j, P => 0 < j ∧ P (fz (.int (i % j)))
  | _, _, _ => False
def sPow : S2
  | .int i, .int j, P => (0 ≤ j ∧ j ≤ 1000000 ∧ i.natAbs < 2 ^ 64) ∧ P (fz (.int (i ^ j.toNat)))
  | _, _, _ => False
def sLt : S2
  | .int i, .int j, P => P (fz (.bl (decide (i < j))))
  | .str s, .str t, P => P (fz (.bl (decide (s.cps.toList < t.cps.toList))))
  | _, _, _ => False
def sLe : S2
  | .int i, .int j, P => P (fz (.bl (decide (i ≤ j))))
  | _, _, _ => False
def sGt : S2
  | .int i, .int j, P => P (fz (.bl (decide (j < i))))
  | _, _, _ => False
def sGe : S2
  | .int i, .int j, P => P (fz (.bl (decide (j ≤ i))))
  | _, _, _ => False
/-- x is None, True, False written there -/
def sIsN (neg : Bool) : S1
  | .non, P => P (fz (.bl (!neg)))
  | _, P => P (fz (.bl neg))

/-! == at any depth -/
mutual
def toPy : D → Option PyData
  | .non => some .none
  | .bl b => some (.bool b)
  | .int i => some (.int i)
  | .str s => some (.str s)
  | .lst xs => (toPys xs).map .list
  | .tup xs => (toPys xs).map .tuple
  | .dic _ _ => none
  | .fn _ => none
  | .lse _ => none
  | .own _ _ => none
  | .ldc _ _ => none
  | .box _ => none
def toPys : List D → Option (List PyData)
  | [] => some []
  | x :: xs => match toPy x, toPys xs with
    | some y, some ys => some (y :: ys)
    | _, _ => none
end
def isNonD : D → Bool
  | .non => true
  | _ => false
mutual
/-- == of data without dicts and defs -/
def eqD : D → D → Bool
  | .non, .non => true
  | .bl a, .bl b => a == b
  | .bl a, .int j => (if a then 1 else 0) == j
  | .int i, .bl b => i == (if b then 1 else 0)
  | .int i, .int j => i == j
  | .str s, .str t => s == t
  | .lst xs, .lst ys => eqDs xs ys
  | .tup xs, .tup ys => eqDs xs ys
  | _, _ => false
def eqDs : List D → List D → Bool
  | [], [] => true
  | x :: xs, y :: ys => eqD x y && eqDs xs ys
  | _, _ => false
end
mutual
def pure' : D → Bool
  | .lst xs => pures xs
  | .tup xs => pures xs
  | .dic _ _ => false
  | .fn _ => false
  | .lse _ => false
  | .own _ _ => false
  | .ldc _ _ => false
  | .box _ => false
  | _ => true
def pures : List D → Bool
  | [] => true
  | x :: xs => pure' x && pures xs
end
mutual
def depthD : D → Nat
  | .lst xs => depthDs xs + 1
  | .tup xs => depthDs xs + 1
  | _ => 0
def depthDs : List D → Nat
  | [] => 0
  | x :: xs => max (depthD x) (depthDs xs)
end
def sEq (neg : Bool) : S2 := fun x y P => pure' x = true ∧ pure' y = true ∧ (depthD x ≤ 64 ∨ depthD y ≤ 64) ∧ P (fz (.bl (if neg then !eqD x y else eqD x y)))

mutual
theorem toPy_pure : ∀ d : D, pure' d = true → ∃ p, toPy d = some p
  | .non, _ => ⟨_, rfl⟩
  | .bl _, _ => ⟨_, rfl⟩
  | .int _, _ => ⟨_, rfl⟩
  | .str _, _ => ⟨_, rfl⟩
  | .lst xs, h => by
    obtain ⟨ps, e⟩ := toPys_pure xs (by simpa [pure'] using h)
    exact ⟨.list ps, by simp [toPy, e]⟩
  | .tup xs, h => by
    obtain ⟨ps, e⟩ := toPys_pure xs (by simpa [pure'] using h)
    exact ⟨.tuple ps, by simp [toPy, e]⟩
  | .dic _ _, h => by simp [pure'] at h
  | .fn _, h => by simp [pure'] at h
  | .lse _, h => by simp [pure'] at h
  | .own _ _, h => by simp [pure'] at h
  | .ldc _ _, h => by simp [pure'] at h
  | .box _, h => by simp [pure'] at h
theorem toPys_pure : ∀ ds : List D, pures ds = true → ∃ ps, toPys ds = some ps
  | [], _ => ⟨[], by simp [toPys]⟩
  | d :: ds, h => by
    simp only [pures, Bool.and_eq_true] at h
    obtain ⟨p, e1⟩ := toPy_pure d h.1
    obtain ⟨ps, e2⟩ := toPys_pure ds h.2
    exact ⟨p :: ps, by simp [toPys, e1, e2]⟩
end
theorem toPys_cons {x : D} {xs : List D} {ps : List PyData} (h : toPys (x :: xs) = some ps) : ∃ q qs, toPy x = some q ∧ toPys xs = some qs ∧ ps = q :: qs := by
  simp only [toPys] at h
  split at h
  · rename_i q qs h1 h2
    cases h
    exact ⟨_, _, h1, h2, rfl⟩
  · cases h
theorem toPy_lst {xs : List D} {p : PyData} (h : toPy (.lst xs) = some p) : ∃ ps, toPys xs = some ps ∧ p = .list ps := by
  simp only [toPy, Option.map_eq_some_iff] at h
  obtain ⟨ps, h1, rfl⟩ := h
  exact ⟨ps, h1, rfl⟩
theorem toPy_tup {xs : List D} {p : PyData} (h : toPy (.tup xs) = some p) : ∃ ps, toPys xs = some ps ∧ p = .tuple ps := by
  simp only [toPy, Option.map_eq_some_iff] at h
  obtain ⟨ps, h1, rfl⟩ := h
  exact ⟨ps, h1, rfl⟩
mutual
theorem eqv_toPy : ∀ (x y : D) (p q : PyData), toPy x = some p → toPy y = some q → PyData.eqv p q = eqD x y
  | .non, y, p, q, h, k => by
    cases h
    cases y with
    | lst _ => obtain ⟨_, _, rfl⟩ := toPy_lst k; simp [PyData.eqv, eqD]
    | tup _ => obtain ⟨_, _, rfl⟩ := toPy_tup k; simp [PyData.eqv, eqD]
    | dic _ _ => simp [toPy] at k
    | fn _ => simp [toPy] at k
    | lse _ => simp [toPy] at k
    | own _ _ => simp [toPy] at k
    | ldc _ _ => simp [toPy] at k
    | box _ => simp [toPy] at k
    | _ => cases k; simp [PyData.eqv, eqD]
  | .bl a, y, p, q, h, k => by
    cases h
    cases y with
    | lst _ => obtain ⟨_, _, rfl⟩ := toPy_lst k; simp [PyData.eqv, eqD]
    | tup _ => obtain ⟨_, _, rfl⟩ := toPy_tup k; simp [PyData.eqv, eqD]
    | dic _ _ => simp [toPy] at k
    | fn _ => simp [toPy] at k
    | lse _ => simp [toPy] at k
    | own _ _ => simp [toPy] at k
    | ldc _ _ => simp [toPy] at k
    | box _ => simp [toPy] at k
    | _ => cases k; simp [PyData.eqv, eqD]
  | .int a, y, p, q, h, k => by
    cases h
    cases y with
    | lst _ => obtain ⟨_, _, rfl⟩ := toPy_lst k; simp [PyData.eqv, eqD]
    | tup _ => obtain ⟨_, _, rfl⟩ := toPy_tup k; simp [PyData.eqv, eqD]
    | dic _ _ => simp [toPy] at k
    | fn _ => simp [toPy] at k
    | lse _ => simp [toPy] at k
    | own _ _ => simp [toPy] at k
    | ldc _ _ => simp [toPy] at k
    | box _ => simp [toPy] at k
    | _ => cases k; simp [PyData.eqv, eqD]
  | .str a, y, p, q, h, k => by
    cases h
    cases y with
    | lst _ => obtain ⟨_, _, rfl⟩ := toPy_lst k; simp [PyData.eqv, eqD]
    | tup _ => obtain ⟨_, _, rfl⟩ := toPy_tup k; simp [PyData.eqv, eqD]
    | dic _ _ => simp [toPy] at k
    | fn _ => simp [toPy] at k
    | lse _ => simp [toPy] at k
    | own _ _ => simp [toPy] at k
    | ldc _ _ => simp [toPy] at k
    | box _ => simp [toPy] at k
    | _ => cases k; simp [PyData.eqv, eqD]
  | .lst xs, y, p, q, h, k => by
    obtain ⟨ps, h1, rfl⟩ := toPy_lst h
    cases y with
    | lst ys =>
      obtain ⟨qs, k1, rfl⟩ := toPy_lst k
      simp only [PyData.eqv, eqD]
      exact eqv_toPys xs ys ps qs h1 k1
    | tup _ => obtain ⟨_, _, rfl⟩ := toPy_tup k; simp [PyData.eqv, eqD]
    | dic _ _ => simp [toPy] at k
    | fn _ => simp [toPy] at k
    | lse _ => simp [toPy] at k
    | own _ _ => simp [toPy] at k
    | ldc _ _ => simp [toPy] at k
    | box _ => simp [toPy] at k
    | _ => cases k; simp [PyData.eqv, eqD]
  | .tup xs, y, p, q, h, k => by
    obtain ⟨ps, h1, rfl⟩ := toPy_tup h
    cases y with
    | tup ys =>
      obtain ⟨qs, k1, rfl⟩ := toPy_tup k
      simp only [PyData.eqv, eqD]
      exact eqv_toPys xs ys ps qs h1 k1
    | lst _ => obtain ⟨_, _, rfl⟩ := toPy_lst k; simp [PyData.eqv, eqD]
    | dic _ _ => simp [toPy] at k
    | fn _ => simp [toPy] at k
    | lse _ => simp [toPy] at k
    | own _ _ => simp [toPy] at k
    | ldc _ _ => simp [toPy] at k
    | box _ => simp [toPy] at k
    | _ => cases k; simp [PyData.eqv, eqD]
  | .dic _ _, _, _, _, h, _ => by simp [toPy] at h
  | .fn _, _, _, _, h, _ => by simp [toPy] at h
  | .lse _, _, _, _, h, _ => by simp [toPy] at h
  | .own _ _, _, _, _, h, _ => by simp [toPy] at h
  | .ldc _ _, _, _, _, h, _ => by simp [toPy] at h
  | .box _, _, _, _, h, _ => by simp [toPy] at h
theorem eqv_toPys : ∀ (xs ys : List D) (ps qs : List PyData), toPys xs = some ps → toPys ys = some qs → PyData.eqvAll ps qs = eqDs xs ys
  | [], [], ps, qs, h, k => by
    simp only [toPys, Option.some.injEq] at h k
    subst h k
    simp [PyData.eqvAll, eqDs]
  | [], y :: ys, ps, qs, h, k => by
    simp only [toPys, Option.some.injEq] at h
    subst h
    obtain ⟨_, _, _, _, rfl⟩ := toPys_cons k
    simp [PyData.eqvAll, eqDs]
  | x :: xs, [], ps, qs, h, k => by
    simp only [toPys, Option.some.injEq] at k
    subst k
    obtain ⟨_, _, _, _, rfl⟩ := toPys_cons h
    simp [PyData.eqvAll, eqDs]
  | x :: xs, y :: ys, ps, qs, h, k => by
    obtain ⟨p, ps', h1, h2, rfl⟩ := toPys_cons h
    obtain ⟨q, qs', k1, k2, rfl⟩ := toPys_cons k
    simp only [PyData.eqvAll, eqDs]
    rw [eqv_toPy x y p q h1 k1, eqv_toPys xs ys ps' qs' h2 k2]
end
mutual
theorem depth_toPy : ∀ (x : D) (p : PyData), toPy x = some p → p.depth = depthD x
  | .non, _, h => by cases h; simp [PyData.depth, depthD]
  | .bl _, _, h => by cases h; simp [PyData.depth, depthD]
  | .int _, _, h => by cases h; simp [PyData.depth, depthD]
  | .str _, _, h => by cases h; simp [PyData.depth, depthD]
  | .lst xs, _, h => by
    obtain ⟨ps, h1, rfl⟩ := toPy_lst h
    simp only [PyData.depth, depthD, depth_toPys xs ps h1]
  | .tup xs, _, h => by
    obtain ⟨ps, h1, rfl⟩ := toPy_tup h
    simp only [PyData.depth, depthD, depth_toPys xs ps h1]
  | .dic _ _, _, h => by simp [toPy] at h
  | .fn _, _, h => by simp [toPy] at h
  | .lse _, _, h => by simp [toPy] at h
  | .own _ _, _, h => by simp [toPy] at h
  | .ldc _ _, _, h => by simp [toPy] at h
  | .box _, _, h => by simp [toPy] at h
theorem depth_toPys : ∀ (xs : List D) (ps : List PyData), toPys xs = some ps → PyData.depthAll ps = depthDs xs
  | [], _, h => by
    simp only [toPys, Option.some.injEq] at h
    subst h
    simp [PyData.depthAll, depthDs]
  | x :: xs, _, h => by
    obtain ⟨p, ps', h1, h2, rfl⟩ := toPys_cons h
    simp only [PyData.depthAll, depthDs, depth_toPy x p h1, depth_toPys xs ps' h2]
end

section
variable {K : PySem.W.Frag} {mg : Str → Option Value} {hot : Pr} {H : Hp}
mutual
/-- what stands for data reads so -/
theorem Rep.dp : ∀ (d : D) (v : V) (p : PyData), Rep K mg hot H v d → toPy d = some p → Dp K H v p ∧ p.canLay0 = true
  | .non, _, _, r, h => by cases h; cases r; exact ⟨.non, by simp [PyData.canLay0]⟩
  | .bl _, _, _, r, h => by cases h; cases r; exact ⟨.bl _, by simp [PyData.canLay0]⟩
  | .int _, _, _, r, h => by cases h; cases r; exact ⟨.int _, by simp [PyData.canLay0]⟩
  | .str _, _, _, r, h => by
    cases h
    cases r with
    | str _ hs => exact ⟨.str _, by simpa [PyData.canLay0] using hs⟩
  | .lst xs, _, _, r, h => by
    obtain ⟨ps, h1, rfl⟩ := toPy_lst h
    cases r with
    | lst hl rs =>
      obtain ⟨a, b⟩ := Reps.dps xs _ ps rs h1
      exact ⟨.lst hl.sq a, by simpa [PyData.canLay0] using b⟩
  | .tup xs, _, _, r, h => by
    obtain ⟨ps, h1, rfl⟩ := toPy_tup h
    cases r with
    | tup hl rs =>
      obtain ⟨a, b⟩ := Reps.dps xs _ ps rs h1
      exact ⟨.tup hl.sq a, by simpa [PyData.canLay0] using b⟩
  | .dic _ _, _, _, _, h => by simp [toPy] at h
  | .fn _, _, _, _, h => by simp [toPy] at h
  | .lse _, _, _, _, h => by simp [toPy] at h
  | .own _ _, _, _, _, h => by simp [toPy] at h
  | .ldc _ _, _, _, _, h => by simp [toPy] at h
  | .box _, _, _, _, h => by simp [toPy] at h
theorem Reps.dps : ∀ (ds : List D) (vs : List V) (ps : List PyData), Reps K mg hot H vs ds → toPys ds = some ps → DpAll K H vs ps ∧ PyData.canLayAll0 ps = true
  | [], _, _, r, h => by
    cases r
    simp only [toPys, Option.some.injEq] at h
    subst h
    exact ⟨.nil, by simp [PyData.canLayAll0]⟩
  | d :: ds, _, _, r, h => by
    obtain ⟨p, ps', h1, h2, rfl⟩ := toPys_cons h
    cases r with
    | cons r1 r2 =>
      obtain ⟨a1, b1⟩ := Rep.dp d _ p r1 h1
      obtain ⟨a2, b2⟩ := Reps.dps ds _ ps' r2 h2
      exact ⟨.cons a1 a2, by simp [PyData.canLayAll0, b1, b2]⟩
end
theorem VRo.dp {d : D} {v : V} {p : PyData} (r : VRo K mg hot H v d) (h : toPy d = some p) : Dp K H v p ∧ p.canLay0 = true := by
  obtain ⟨o, r⟩ := r
  cases r with
  | fro r => exact r.dp _ _ _ h
  | lst _ h2 rs =>
    obtain ⟨ps, h1, rfl⟩ := toPy_lst h
    obtain ⟨a, b⟩ := Reps.dps _ _ ps rs h1
    exact ⟨.lst (.inl (.inl h2)) a, by simpa [PyData.canLay0] using b⟩
  | dicK _ _ _ _ => simp [toPy] at h
  | boxT _ _ _ => simp [toPy] at h
  | boxL _ _ _ => simp [toPy] at h
  | boxD _ _ _ _ => simp [toPy] at h
/-- a list, a tuple that is read, whoever owns it -/
theorem VRo.lst {xs : List D} {v : V} (r : VRo K mg hot H v (.lst xs)) : ∃ a vs, v = .ref a ∧ SqL K H a vs ∧ Reps K mg hot H vs xs := by
  obtain ⟨o, r⟩ := r
  cases r with
  | fro r =>
    cases r with
    | lst hl rs => exact ⟨_, _, rfl, hl.sq, rs⟩
  | lst _ h2 rs => exact ⟨_, _, rfl, .inl (.inl h2), rs⟩
theorem VRo.tup {xs : List D} {v : V} (r : VRo K mg hot H v (.tup xs)) : ∃ a vs, v = .ref a ∧ SqT K H a vs ∧ Reps K mg hot H vs xs := by
  obtain ⟨o, r⟩ := r
  cases r with
  | fro r =>
    cases r with
    | tup hl rs => exact ⟨_, _, rfl, hl.sq, rs⟩
theorem VRo.int {i : Int} {v : V} (r : VRo K mg hot H v (.int i)) : v = .int i := by
  obtain ⟨o, r⟩ := r
  cases r with
  | fro r => cases r; rfl
theorem VRo.str {s : Str} {v : V} (r : VRo K mg hot H v (.str s)) : v = .str s ∧ PyData.strOk s = true := by
  obtain ⟨o, r⟩ := r
  cases r with
  | fro r => cases r; exact ⟨rfl, by assumption⟩
theorem VRo.bl {b : Bool} {v : V} (r : VRo K mg hot H v (.bl b)) : v = .bl b := by
  obtain ⟨o, r⟩ := r
  cases r with
  | fro r => cases r; rfl
theorem VRo.non {v : V} (r : VRo K mg hot H v .non) : v = .non := by
  obtain ⟨o, r⟩ := r
  cases r with
  | fro r => cases r; rfl
theorem VRo.of {v : V} {d : D} (r : Rep K mg hot H v d) : VRo K mg hot H v d := ⟨false, .fro r⟩
theorem VRo.not_non {v : V} {d : D} (r : VRo K mg hot H v d) : decide (v = .non) = isNonD d := by
  obtain ⟨o, r⟩ := r
  cases r with
  | fro r => cases r <;> rfl
  | lst _ _ _ => rfl
  | dicK _ _ _ _ => rfl
  | boxT _ _ _ => rfl
  | boxL _ _ _ => rfl
  | boxD _ _ _ _ => rfl
variable {P : Val → Prop} {Q : VK}
/-- the end of a reading that changes nothing -/
theorem post_fz (hh : ∀ a, hot a → H a ≠ none) (k : PostF K mg hot H P Q) {v : V} {d : D} (r : Rep K mg hot H v d) (p : P (fz d)) : Q v H := k v (fz d) H (StR.one_fro hh r) Step.one_fro p
theorem post_lst (hh : ∀ a, hot a → H a ≠ none) (k : PostF K mg hot H P Q) {p : Addr} (n : H p = none) {vs : List V} {ds : List D} (r : Reps K mg hot H vs ds) (q : P ⟨true, .lst ds⟩) : Q (.ref p) (upd H p (.lst vs)) :=
  k _ ⟨true, .lst ds⟩ _ (StR.new_lst hh n r) (Step.new_lst n) q
theorem post_tup (hh : ∀ a, hot a → H a ≠ none) (k : PostF K mg hot H P Q) {p : Addr} (n : H p = none) {o : Obj} (po : PTu o) {vs : List V} {ds : List D} (r : Reps K mg hot H vs ds) (q : P (fz (.tup ds))) : Q (.ref p) (newT H p o vs) :=
  k _ (fz (.tup ds)) _ (StR.new_tup hh n po r) (Step.new_fro n) q
end
theorem slen : (sizeLine : Nat) = 16777216 := sizeLine_eq

/-! ### lists put together, of any standing -/
section
variable {X : Cx}
def rCatL (K : PySem.W.Frag) : R2 := fun x y H Q => ∃ l b xs ys, x = .ref l ∧ y = .ref b ∧ SqL K H l xs ∧ SqL K H b ys ∧ xs.length + ys.length ≤ sizeLine ∧ ∀ p, H p = none → Q (.ref p) (upd H p (.lst (xs ++ ys)))
theorem op_catL : OpR X (binaryOp .Add) (rCatL X.K) := by
  intro pins s σ H x y v u Q I rx ry h
  obtain ⟨l, b, xs, ys, rfl, rfl, hl, hb, hz, q⟩ := h
  cases rx
  cases ry
  obtain ⟨its, r1, ⟨o1, n1, e1, c1, _, d1⟩, _⟩ := I.list hl
  obtain ⟨its2, r2, ⟨o2, n2, e2, c2, _, d2⟩, _⟩ := I.list hb
  obtain ⟨cls1, dd1, dat1, sl1⟩ := o1
  obtain ⟨cls2, dd2, dat2, sl2⟩ := o2
  simp only at c1 d1 c2 d2
  subst c1 d1 c2 d2
  have ez : its.toArray ++ its2.toArray = (its ++ its2).toArray := by simp
  have l1 := r1.length
  have l2 := r2.length
  refine concat_meets (S := _) ⟨_, e1, rfl⟩ ⟨_, e2, rfl⟩ noFill_list_add seq_list_add PySem.F.slot_list_add PySem.F.entry_list_add (PySem.F.args_list_add_2 _ _)
    (list_addW l b its.toArray its2.toArray n1 n2 dd1 dd2 sl1 sl2 (by simp only [List.size_toArray]; omega)) ⟨e1, e2, ?_⟩
  rw [ez]
  exact ⟨.ref _, _, I.lnew (t' := s.toks) (r1.append r2) (by rw [List.length_append]; omega), rfl, q _ I.fresh⟩
end
end TL

/-! T4: operators and built-ins: their rules serve their readings -/
namespace TL
open PySem PySem.Spec PyProof.Rows L2

section
variable {K : PySem.W.Frag} {mg : Str → Option Value} {X : Cx}
theorem BinL.or {r r' : R2} {s s' : S2} (h : BinL K mg r s) (h' : BinL K mg r' s') : BinL K mg (fun x y H Q => r x y H Q ∨ r' x y H Q) (fun x y P => s x y P ∨ s' x y P) :=
  fun hot H x y dx dy P Q hh rx ry q k => q.elim (fun q => .inl (h hot H x y dx dy P Q hh rx ry q k)) fun q => .inr (h' hot H x y dx dy P Q hh rx ry q k)
/-! #### + -/
def rAddAll (K : PySem.W.Frag) : R2 := fun x y H Q => rI0 (fun i j => .int (i + j)) x y H Q ∨ (∃ i j, x = .str i ∧ y = .str j ∧ i.length + j.length ≤ sizeLine ∧ Q (.str (i ++ j)) H) ∨ rCatL K x y H Q ∨ rCatN K x y H Q
theorem or_add : OpR X (binaryOp .Add) (rAddAll X.K) := OpR.or op_add (OpR.or op_add_str (OpR.or op_catL op_catN))
theorem strOk_app {s t : Str} (h : PyData.strOk s = true) (k : PyData.strOk t = true) : PyData.strOk (s ++ t) = true := by
  show (Str.cps (s ++ t)).all _ = true
  have e : Str.cps (s ++ t) = s.cps ++ t.cps := rfl
  rw [e, Array.all_append, Bool.and_eq_true]
  exact ⟨h, k⟩
theorem bl_add : BinL K mg (rAddAll K) sAdd := by
  intro hot H x y dx dy P Q hh rx ry q k
  cases dx <;> cases dy <;> simp only [sAdd] at q <;> try exact q.elim
  · exact .inl ⟨_, _, rx.int, ry.int, post_fz hh k (.int _) q⟩
  · obtain ⟨rfl, o1⟩ := rx.str
    obtain ⟨rfl, o2⟩ := ry.str
    exact .inr (.inl ⟨_, _, rfl, rfl, by rw [slen]; exact q.1, post_fz hh k (.str _ (strOk_app o1 o2)) q.2⟩)
  · obtain ⟨a, vs, rfl, h1, r1⟩ := rx.lst
    obtain ⟨b, ws, rfl, h2, r2⟩ := ry.lst
    exact .inr (.inr (.inl ⟨a, b, vs, ws, rfl, rfl, h1, h2, by rw [slen, r1.length, r2.length]; exact q.1, fun p n => post_lst hh k n (r1.append r2) q.2⟩))
  · rename_i xs ys
    obtain ⟨o1, R1⟩ := id rx
    obtain ⟨o2, R2⟩ := id ry
    obtain ⟨a, vs, rfl, h1, r1⟩ := rx.tup
    obtain ⟨b, ws, rfl, h2, r2⟩ := ry.tup
    have f1 : Rep K mg hot H (.ref a) (.tup xs) := by cases R1 with | fro r => exact r
    have f2 : Rep K mg hot H (.ref b) (.tup ys) := by cases R2 with | fro r => exact r
    refine .inr (.inr (.inr ⟨a, b, vs, ws, rfl, rfl, h1, h2, by rw [slen, r1.length, r2.length]; exact q.1, fun z => ?_, fun _ z => ?_, fun _ _ p o n po => post_tup hh k n po (r1.append r2) q.2⟩))
    · subst z
      have z := r1.length
      have e : ∀ {l : List D}, ([] : List V).length = l.length → l = [] := fun h => List.length_eq_zero_iff.mp h.symm
      rw [e z] at q
      exact post_fz hh k f2 (by simpa using q.2)
    · subst z
      have z := r2.length
      have e : ∀ {l : List D}, ([] : List V).length = l.length → l = [] := fun h => List.length_eq_zero_iff.mp h.symm
      rw [e z] at q
      exact post_fz hh k f1 (by simpa using q.2)
theorem bl_sub : BinL K mg (rI0 fun i j => .int (i - j)) sSub := by
  intro hot H x y dx dy P Q hh rx ry q k
  cases dx <;> cases dy <;> simp only [sSub] at q <;> try exact q.elim
  exact ⟨_, _, rx.int, ry.int, post_fz hh k (.int _) q⟩
theorem bl_mul : BinL K mg (rI CMul fun i j => .int (i * j)) sMul := by
  intro hot H x y dx dy P Q hh rx ry q k
  cases dx <;> cases dy <;> simp only [sMul] at q <;> try exact q.elim
  exact ⟨_, _, rx.int, ry.int, q.1, post_fz hh k (.int _) q.2⟩
theorem bl_div : BinL K mg (rI CDiv fun i j => .int (i / j)) sDiv := by
  intro hot H x y dx dy P Q hh rx ry q k
  cases dx <;> cases dy <;> simp only [sDiv] at q <;> try exact q.elim
  exact ⟨_, _, rx.int, ry.int, q.1, post_fz hh k (.int _) q.2⟩
theorem bl_mod : BinL K mg (rI (fun _ j => 0 < j) fun i j => .int (i % j)) sMod := by
  intro hot H x y dx dy P Q hh rx ry q k
  cases dx <;> cases dy <;> simp only [sMod] at q <;> try exact q.elim
  exact ⟨_, _, rx.int, ry.int, q.1, post_fz hh k (.int _) q.2⟩
theorem bl_pow : BinL K mg (rI CPow fun i j => .int (i ^ j.toNat)) sPow := by
  intro hot H x y dx dy P Q hh rx ry q k
  cases dx <;> cases dy <;> simp only [sPow] at q <;> try exact q.elim
  exact ⟨_, _, rx.int, ry.int, q.1, post_fz hh k (.int _) q.2⟩
/-! #### order -/
def rLtAll : R2 := fun x y H Q => rI0 (fun i j => .bl (decide (i < j))) x y H Q ∨ ∃ i j, x = .str i ∧ y = .str j ∧ Q (.bl (decide (i.cps.toList < j.cps.toList))) H
theorem or_lt : OpR X (compareOp .Lt) rLtAll := OpR.or op_lt op_lt_str
theorem bl_lt : BinL K mg rLtAll sLt := by
  intro hot H x y dx dy P Q hh rx ry q k
  cases dx <;> cases dy <;> simp only [sLt] at q <;> try exact q.elim
  · exact .inl ⟨_, _, rx.int, ry.int, post_fz hh k (.bl _) q⟩
  · exact .inr ⟨_, _, rx.str.1, ry.str.1, post_fz hh k (.bl _) q⟩
theorem bl_le : BinL K mg (rI0 fun i j => .bl (decide (i ≤ j))) sLe := by
  intro hot H x y dx dy P Q hh rx ry q k
  cases dx <;> cases dy <;> simp only [sLe] at q <;> try exact q.elim
  exact ⟨_, _, rx.int, ry.int, post_fz hh k (.bl _) q⟩
theorem bl_gt : BinL K mg (rI0 fun i j => .bl (decide (j < i))) sGt := by
  intro hot H x y dx dy P Q hh rx ry q k
  cases dx <;> cases dy <;> simp only [sGt] at q <;> try exact q.elim
  exact ⟨_, _, rx.int, ry.int, post_fz hh k (.bl _) q⟩
theorem bl_ge : BinL K mg (rI0 fun i j => .bl (decide (j ≤ i))) sGe := by
  intro hot H x y dx dy P Q hh rx ry q k
  cases dx <;> cases dy <;> simp only [sGe] at q <;> try exact q.elim
  exact ⟨_, _, rx.int, ry.int, post_fz hh k (.bl _) q⟩
/-! #### == and != -/
def rEqX (K : PySem.W.Frag) (neg : Bool) : R2 := fun x y H Q => ∃ d e, Dp K H x d ∧ Dp K H y e ∧ d.canLay0 = true ∧ e.canLay0 = true ∧ min d.depth e.depth ≤ 64 ∧ Q (.bl (if neg then !PyData.eqv d e else PyData.eqv d e)) H
theorem or_eq (hu : X.A.units + 64 < cLine) : OpR X (compareOp .Eq) (rEqX X.K false) := by
  intro pins s σ H x y v u Q I rx ry h
  obtain ⟨d, e, hd, he, sd, se, hm, q⟩ := h
  obtain ⟨as, r1⟩ := Dp.reads I d x v hd rx
  obtain ⟨bs, r2⟩ := Dp.reads I e y u he ry
  exact SeqAt.compareEq_reads r1 r2 sd se (by omega) ⟨.bl _, H, I, rfl, q⟩
theorem or_ne (hu : X.A.units + 64 < cLine) : OpR X (compareOp .NotEq) (rEqX X.K true) := by
  intro pins s σ H x y v u Q I rx ry h
  obtain ⟨d, e, hd, he, sd, se, hm, q⟩ := h
  obtain ⟨as, r1⟩ := Dp.reads I d x v hd rx
  obtain ⟨bs, r2⟩ := Dp.reads I e y u he ry
  exact SeqAt.compareNe_reads r1 r2 sd se (by omega) ⟨.bl _, H, I, rfl, q⟩
theorem bl_eq (neg : Bool) : BinL K mg (rEqX K neg) (sEq neg) := by
  intro hot H x y dx dy P Q hh rx ry q k
  obtain ⟨p1, p2, dp, p⟩ := q
  obtain ⟨d, e1⟩ := toPy_pure dx p1
  obtain ⟨e, e2⟩ := toPy_pure dy p2
  obtain ⟨h1, c1⟩ := rx.dp e1
  obtain ⟨h2, c2⟩ := ry.dp e2
  refine ⟨d, e, h1, h2, c1, c2, ?_, ?_⟩
  · rw [depth_toPy _ _ e1, depth_toPy _ _ e2]; omega
  · rw [eqv_toPy _ _ _ _ e1 e2]
    exact post_fz hh k (.bl _) p
/-! #### is None -/
theorem or_is : OpR X (compareOp .Is) (fun x y H Q => y = .non ∧ Q (.bl (decide (x = .non))) H) := op_isN
theorem or_isnot : OpR X (compareOp .IsNot) (fun x y H Q => y = .non ∧ Q (.bl (!decide (x = .non))) H) := op_notN
def sIs (neg : Bool) : S2
  | x, .non, P => P (fz (.bl (if neg then !isNonD x else isNonD x)))
  | _, _, _ => False
theorem bl_is : BinL K mg (fun x y H Q => y = .non ∧ Q (.bl (decide (x = .non))) H) (sIs false) := by
  intro hot H x y dx dy P Q hh rx ry q k
  cases dy <;> simp only [sIs] at q <;> try exact q.elim
  refine ⟨ry.non, ?_⟩
  rw [rx.not_non]
  exact post_fz hh k (.bl _) q
theorem bl_isnot : BinL K mg (fun x y H Q => y = .non ∧ Q (.bl (!decide (x = .non))) H) (sIs true) := by
  intro hot H x y dx dy P Q hh rx ry q k
  cases dy <;> simp only [sIs] at q <;> try exact q.elim
  refine ⟨ry.non, ?_⟩
  rw [rx.not_non]
  exact post_fz hh k (.bl _) q
/-! #### in -/
def flatD : D → Bool
  | .non | .bl _ | .int _ | .str _ => true
  | _ => false
def inD (x : D) (xs : List D) : Bool := xs.any fun y => eqD y x
def sIn (neg : Bool) : S2
  | x, .lst xs, P => flatD x = true ∧ xs.all flatD = true ∧ P (fz (.bl (if neg then !inD x xs else inD x xs)))
  | x, .tup xs, P => flatD x = true ∧ xs.all flatD = true ∧ P (fz (.bl (if neg then !inD x xs else inD x xs)))
  | .str s, .str t, P => P (fz (.bl (if neg then !!(Builtin.Str.occurrences t s 0 t.length 1).isEmpty else !(Builtin.Str.occurrences t s 0 t.length 1).isEmpty)))
  | _, _, _ => False
theorem rep_flat {hot : Pr} {H : Hp} {v : V} {d : D} (r : VRo K mg hot H v d) (f : flatD d = true) : (∀ w e, VRo K mg hot H w e → flatD e = true → eqV w v = eqD e d) ∧ flatV v = true := by
  cases d with
  | non =>
    obtain rfl := r.non
    refine ⟨fun w e q g => ?_, rfl⟩
    cases e with
    | non => obtain rfl := q.non; rfl
    | bl b => obtain rfl := q.bl; rfl
    | int i => obtain rfl := q.int; rfl
    | str s => obtain ⟨rfl, _⟩ := q.str; rfl
    | _ => cases g
  | bl b =>
    obtain rfl := r.bl
    refine ⟨fun w e q g => ?_, rfl⟩
    cases e with
    | non => obtain rfl := q.non; rfl
    | bl b => obtain rfl := q.bl; simp [eqV, eqD]
    | int i => obtain rfl := q.int; simp [eqV, eqD]
    | str s => obtain ⟨rfl, _⟩ := q.str; rfl
    | _ => cases g
  | int i =>
    obtain rfl := r.int
    refine ⟨fun w e q g => ?_, rfl⟩
    cases e with
    | non => obtain rfl := q.non; rfl
    | bl b => obtain rfl := q.bl; simp [eqV, eqD]
    | int i => obtain rfl := q.int; simp [eqV, eqD]
    | str s => obtain ⟨rfl, _⟩ := q.str; rfl
    | _ => cases g
  | str s =>
    obtain ⟨rfl, _⟩ := r.str
    refine ⟨fun w e q g => ?_, rfl⟩
    cases e with
    | non => obtain rfl := q.non; rfl
    | bl b => obtain rfl := q.bl; rfl
    | int i => obtain rfl := q.int; rfl
    | str s => obtain ⟨rfl, _⟩ := q.str; simp [eqV, eqD]
    | _ => cases g
  | _ => cases f
theorem inV_inD {hot : Pr} {H : Hp} {v : V} {d : D} (r : VRo K mg hot H v d) (f : flatD d = true) : ∀ {vs : List V} {ds : List D}, Reps K mg hot H vs ds → ds.all flatD = true → inV v vs = inD d ds ∧ vs.all flatV = true
  | _, _, .nil, _ => ⟨rfl, rfl⟩
  | _, _, .cons h t, g => by
    rw [List.all_cons, Bool.and_eq_true] at g
    obtain ⟨e1, e2⟩ := inV_inD r f t g.2
    have h1 := (rep_flat r f).1 _ _ (.of h) g.1
    refine ⟨?_, ?_⟩
    · unfold inV inD at e1 ⊢
      rw [List.any_cons, List.any_cons, h1, e1]
    · rw [List.all_cons, e2, (rep_flat (.of h) g.1).2]; rfl
def rInAll (K : PySem.W.Frag) (neg : Bool) : R2 := fun x y H Q => rIn K neg x y H Q ∨ ∃ i j, x = .str i ∧ y = .str j ∧ Q (.bl (if neg then !!(Builtin.Str.occurrences j i 0 j.length 1).isEmpty else !(Builtin.Str.occurrences j i 0 j.length 1).isEmpty)) H
theorem or_in : OpR X (compareOp .In) (rInAll X.K false) := OpR.or op_in_seq op_in_str
theorem or_notin : OpR X (compareOp .NotIn) (rInAll X.K true) := OpR.or op_notIn_seq op_notin_str
theorem bl_in (neg : Bool) : BinL K mg (rInAll K neg) (sIn neg) := by
  intro hot H x y dx dy P Q hh rx ry q k
  cases dy with
  | lst xs =>
    obtain ⟨q1, q2, q⟩ : flatD dx = true ∧ xs.all flatD = true ∧ P (fz (.bl (if neg then !inD dx xs else inD dx xs))) := by cases dx <;> exact q
    obtain ⟨a, vs, rfl, h1, r1⟩ := ry.lst
    obtain ⟨e1, e2⟩ := inV_inD rx q1 r1 q2
    exact .inl ⟨a, vs, rfl, .inl h1, (rep_flat rx q1).2, e2, by rw [e1]; exact post_fz hh k (.bl _) q⟩
  | tup xs =>
    obtain ⟨q1, q2, q⟩ : flatD dx = true ∧ xs.all flatD = true ∧ P (fz (.bl (if neg then !inD dx xs else inD dx xs))) := by cases dx <;> exact q
    obtain ⟨a, vs, rfl, h1, r1⟩ := ry.tup
    obtain ⟨e1, e2⟩ := inV_inD rx q1 r1 q2
    exact .inl ⟨a, vs, rfl, .inr h1, (rep_flat rx q1).2, e2, by rw [e1]; exact post_fz hh k (.bl _) q⟩
  | str t =>
    cases dx <;> simp only [sIn] at q <;> try exact q.elim
    exact .inr ⟨_, _, rx.str.1, ry.str.1, post_fz hh k (.bl _) q⟩
  | _ => cases dx <;> exact q.elim
/-! #### an item -/
def sIx : S2
  | .lst xs, .int i, P => ∃ d, atI xs i = some d ∧ P (fz d)
  | .tup xs, .int i, P => ∃ d, atI xs i = some d ∧ P (fz d)
  | .str z, .int i, P => z.length ≤ 16777216 ∧ ∃ c, atI z.cps.toList i = some c ∧ P (fz (.str ⟨#[c]⟩))
  | _, _, _ => False
theorem atI_rep {hot : Pr} {H : Hp} {vs : List V} {ds : List D} {i : Int} {d : D} (r : Reps K mg hot H vs ds) (h : atI ds i = some d) : ∃ v, atI vs i = some v ∧ Rep K mg hot H v d := by
  unfold atI at h ⊢
  rw [r.length]
  cases e : ixN ds.length i with
  | none => rw [e] at h; cases h
  | some j =>
    rw [e] at h
    exact r.get h
theorem bl_ix : BinL K mg (rIx K) sIx := by
  intro hot H x y dx dy P Q hh rx ry q k
  cases dx <;> cases dy <;> simp only [sIx] at q <;> try exact q.elim
  · obtain ⟨h1, c, h2, q⟩ := q
    obtain ⟨rfl, o1⟩ := rx.str
    refine .inr (.inr ⟨_, _, c, rfl, ry.int, by rw [slen]; exact h1, h2, post_fz hh k (.str _ ?_) q⟩)
    show (#[c] : Array Nat).all _ = true
    have hc : c ∈ Str.cps ‹_› := by
      unfold atI at h2
      obtain ⟨j, _, e⟩ := Option.bind_eq_some_iff.mp h2
      exact Array.mem_toList_iff.mp (List.mem_of_getElem? e)
    have := Array.all_eq_true_iff_forall_mem.mp o1 c hc
    simpa using this
  · obtain ⟨d, h1, q⟩ := q
    obtain ⟨a, vs, rfl, h2, r1⟩ := rx.lst
    obtain ⟨v, e, r⟩ := atI_rep r1 h1
    exact .inl ⟨a, vs, _, v, rfl, ry.int, h2, e, post_fz hh k r q⟩
  · obtain ⟨d, h1, q⟩ := q
    obtain ⟨a, vs, rfl, h2, r1⟩ := rx.tup
    obtain ⟨v, e, r⟩ := atI_rep r1 h1
    exact .inr (.inl ⟨a, vs, _, v, rfl, ry.int, h2, e, post_fz hh k r q⟩)
/-! #### unary -/
def sNeg : S1
  | .int i, P => P (fz (.int (-i)))
  | _, _ => False
theorem ul_neg : UnL K mg (rU fun i => .int (-i)) sNeg := by
  intro hot H x dx P Q hh rx q k
  cases dx <;> simp only [sNeg] at q <;> try exact q.elim
  exact ⟨_, rx.int, post_fz hh k (.int _) q⟩
end
end TL

/-! T5: texts of data; built-in functions; slices -/
namespace TL
open PySem PySem.Spec PyProof.Rows L2

/-! ### repr -/
def reprD (d : D) : Str := match toPy d with
  | some p => p.shown
  | none => Str.empty
mutual
/-- at least as many signs as repr has -/
def costD : D → Nat
  | .non => 4
  | .bl _ => 5
  | .int i => if i.natAbs < 10 ^ 30 then 31 else 1000000000
  | .str s => 10 * s.length + 2
  | .lst xs => costDs xs + 3
  | .tup xs => costDs xs + 3
  | .dic _ _ => 1000000000
  | .fn _ => 1000000000
  | .lse _ => 1000000000
  | .own _ _ => 1000000000
  | .ldc _ _ => 1000000000
  | .box _ => 1000000000
def costDs : List D → Nat
  | [] => 0
  | x :: xs => costD x + 2 + costDs xs
end
mutual
theorem cost_pure : ∀ d : D, costD d ≤ 16777216 → pure' d = true
  | .non, _ => rfl
  | .bl _, _ => rfl
  | .int _, _ => rfl
  | .str _, _ => rfl
  | .lst xs, h => by
    simp only [costD] at h
    simp only [pure']
    exact costs_pure xs (by omega)
  | .tup xs, h => by
    simp only [costD] at h
    simp only [pure']
    exact costs_pure xs (by omega)
  | .dic _ _, h => by simp [costD] at h
  | .fn _, h => by simp [costD] at h
  | .lse _, h => by simp [costD] at h
  | .own _ _, h => by simp [costD] at h
  | .ldc _ _, h => by simp [costD] at h
  | .box _, h => by simp [costD] at h
theorem costs_pure : ∀ ds : List D, costDs ds ≤ 16777216 → pures ds = true
  | [], _ => rfl
  | d :: ds, h => by
    simp only [costDs] at h
    simp only [pures, Bool.and_eq_true]
    exact ⟨cost_pure d (by omega), costs_pure ds (by omega)⟩
end
def strsOk : PyData → Bool := PyData.canLay0
theorem len_ofString (s : String) : (Str.ofString s).length = s.length := PySem.ofString_length s
theorem log_small {n : Nat} (h : n < 10 ^ 30) : n.log2 < 1920 := by
  by_cases h0 : n = 0
  · subst h0; decide
  · exact (Nat.log2_lt h0).mpr (Nat.lt_trans h (by decide +kernel))
mutual
theorem shown_len : ∀ (d : D) (p : PyData), toPy d = some p → p.canLay0 = true → costD d ≤ 16777216 → p.shown.length ≤ costD d ∧ p.showable = true
  | .non, _, h, _, _ => by cases h; exact ⟨by simp only [PyData.shown, costD]; decide +kernel, rfl⟩
  | .bl b, _, h, _, _ => by cases h; cases b <;> exact ⟨by simp only [PyData.shown, costD]; decide +kernel, rfl⟩
  | .int i, _, h, _, c => by
    cases h
    simp only [costD] at c ⊢
    split at c
    · rename_i hi
      rw [if_pos hi]
      refine ⟨?_, by simp only [PyData.showable]; exact decide_eq_true (log_small hi)⟩
      have := int_text_length_le10 (k := 30) (by decide) hi
      simp only [PyData.shown]
      show (Str.ofString (toString i)).length ≤ 31
      rw [len_ofString]
      omega
    · omega
  | .str s, _, h, k, c => by
    cases h
    refine ⟨?_, rfl⟩
    simp only [costD, PyData.shown]
    refine StrLaws.reprText_len s fun z hz => ?_
    have k' : PyData.strOk s = true := by simpa [PyData.canLay0] using k
    have := Array.all_eq_true_iff_forall_mem.mp k' z (Array.mem_toList_iff.mp hz)
    have e : z < 1114112 := by simpa using this
    omega
  | .lst xs, _, h, k, c => by
    obtain ⟨ps, h1, rfl⟩ := toPy_lst h
    simp only [costD] at c ⊢
    obtain ⟨q1, q2⟩ := shown_lens xs ps h1 (by simpa [PyData.canLay0] using k) (by omega)
    refine ⟨?_, by simpa [PyData.showable] using q2⟩
    have := listText_len_le (PyData.shownAll ps)
    simp only [PyData.shown]
    omega
  | .tup xs, _, h, k, c => by
    obtain ⟨ps, h1, rfl⟩ := toPy_tup h
    simp only [costD] at c ⊢
    obtain ⟨q1, q2⟩ := shown_lens xs ps h1 (by simpa [PyData.canLay0] using k) (by omega)
    refine ⟨?_, by simpa [PyData.showable] using q2⟩
    have := tupleText_len_le (PyData.shownAll ps)
    simp only [PyData.shown]
    omega
  | .dic _ _, _, h, _, _ => by simp [toPy] at h
  | .fn _, _, h, _, _ => by simp [toPy] at h
  | .lse _, _, h, _, _ => by simp [toPy] at h
  | .own _ _, _, h, _, _ => by simp [toPy] at h
  | .ldc _ _, _, h, _, _ => by simp [toPy] at h
  | .box _, _, h, _, _ => by simp [toPy] at h
theorem shown_lens : ∀ (xs : List D) (ps : List PyData), toPys xs = some ps → PyData.canLayAll0 ps = true → costDs xs ≤ 16777216 →
    ((PyData.shownAll ps).map (·.length)).sum + 2 * (PyData.shownAll ps).length ≤ costDs xs ∧ PyData.showableAll ps = true
  | [], _, h, _, _ => by
    simp only [toPys, Option.some.injEq] at h
    subst h
    simp [PyData.shownAll, costDs, PyData.showableAll]
  | x :: xs, _, h, k, c => by
    obtain ⟨p, ps', h1, h2, rfl⟩ := toPys_cons h
    simp only [costDs] at c ⊢
    simp only [PyData.canLayAll0, Bool.and_eq_true] at k
    obtain ⟨a1, a2⟩ := shown_len x p h1 k.1 (by omega)
    obtain ⟨b1, b2⟩ := shown_lens xs ps' h2 k.2 (by omega)
    refine ⟨?_, by simp [PyData.showableAll, a2, b2]⟩
    simp only [PyData.shownAll, List.map_cons, List.sum_cons, List.length_cons]
    omega
end
/-! the signs of a text are signs -/
theorem ok_ofString (s : String) : PyData.strOk (Str.ofString s) = true := by
  rw [Str.ofString_eq_toList]
  show ((s.toList.map Char.toNat).toArray).all _ = true
  rw [List.all_toArray, List.all_map, List.all_eq_true]
  intro c _
  have h : c.toNat < 1114112 := by
    have hv := c.valid
    have e : c.toNat = c.val.toNat := rfl
    rw [e]
    rcases hv with h | h
    · have : c.val.toNat < 55296 := h
      omega
    · exact h.2
  show decide (c.toNat < 1114112) = true
  exact decide_eq_true h
theorem ok_cps {l : List Nat} (h : ∀ c ∈ l, c < 1114112) : PyData.strOk ⟨l.toArray⟩ = true := by
  show (l.toArray).all _ = true
  rw [List.all_toArray, List.all_eq_true]
  intro c hc
  exact decide_eq_true (h c hc)
theorem ok_mem {s : Str} (h : PyData.strOk s = true) : ∀ c ∈ s.cps.toList, c < 1114112 := fun c hc => by
  have := Array.all_eq_true_iff_forall_mem.mp h c (Array.mem_toList_iff.mp hc)
  simpa using this
theorem ok_of_mem {s : Str} (h : ∀ c ∈ s.cps.toList, c < 1114112) : PyData.strOk s = true :=
  Array.all_eq_true_iff_forall_mem.mpr fun c hc => decide_eq_true (h c (Array.mem_toList_iff.mpr hc))
theorem hex_small (w c : Nat) : ∀ x ∈ List.replicate (w - ((Nat.toDigits 16 c).map Char.toNat).length) 48 ++ (Nat.toDigits 16 c).map Char.toNat, x < 1114112 := by
  intro x hx
  rcases List.mem_append.mp hx with h | h
  · rw [(List.mem_replicate.mp h).2]; decide
  · obtain ⟨d, _, rfl⟩ := List.mem_map.mp h
    have hv := d.valid
    have e : d.toNat = d.val.toNat := rfl
    rw [e]
    rcases hv with h | h
    · have : d.val.toNat < 55296 := h
      omega
    · exact h.2
theorem reprChar_small {q c : Nat} (hc : c < 1114112) : ∀ x ∈ Builtin.Str.reprChar q c, x < 1114112 := by
  intro x hx
  unfold Builtin.Str.reprChar at hx
  simp only at hx
  repeat' split at hx
  all_goals first
    | (simp only [List.mem_cons, List.not_mem_nil, or_false] at hx; rcases hx with rfl | rfl <;> omega)
    | (simp only [List.mem_cons, List.not_mem_nil, or_false] at hx; subst hx; omega)
    | (rcases List.mem_append.mp hx with h | h
       · simp only [List.mem_cons, List.not_mem_nil, or_false] at h; rcases h with rfl | rfl <;> omega
       · exact hex_small _ _ x h)
theorem fold_repr_small (q : Nat) : ∀ (l : List Nat) (acc : Array Nat), (∀ c ∈ l, c < 1114112) → (∀ c ∈ acc.toList, c < 1114112) → ∀ c ∈ (l.foldl (fun out c => out ++ (Builtin.Str.reprChar q c).toArray) acc).toList, c < 1114112
  | [], _, _, h => h
  | x :: l, acc, hl, h => by
    rw [List.foldl_cons]
    refine fold_repr_small q l _ (fun c hc => hl c (List.mem_cons_of_mem _ hc)) fun c hc => ?_
    rw [Array.toList_append] at hc
    rcases List.mem_append.mp hc with k | k
    · exact h c k
    · exact reprChar_small (hl x List.mem_cons_self) c (by simpa using k)
theorem ok_reprText {s : Str} (h : PyData.strOk s = true) : PyData.strOk (reprText s) = true := by
  refine ok_of_mem fun c hc => ?_
  have hq : reprQuote s < 1114112 := by unfold reprQuote; split <;> decide
  unfold reprText at hc
  simp only [Array.toList_push] at hc
  rcases List.mem_append.mp hc with k | k
  · rw [← Array.foldl_toList] at k
    exact fold_repr_small _ _ _ (ok_mem h) (by simpa using hq) c k
  · obtain rfl := List.mem_singleton.mp k
    exact hq
theorem ok_textFrom : ∀ (ts : List Str) (k : Nat) (acc : Str), PyData.strOk acc = true → (∀ t ∈ ts, PyData.strOk t = true) → PyData.strOk (textFrom k acc ts) = true
  | [], _, _, h, _ => h
  | t :: ts, k, acc, h, ht => by
    refine ok_textFrom ts (k + 1) _ (strOk_app (strOk_app h ?_) (ht t List.mem_cons_self)) fun u hu => ht u (List.mem_cons_of_mem _ hu)
    split <;> exact ok_ofString _
theorem ok_join (sep : Str) (hs : PyData.strOk sep = true) : ∀ ts : List Str, (∀ t ∈ ts, PyData.strOk t = true) → PyData.strOk (Str.join sep ts) = true
  | [], _ => ok_of_mem fun c hc => nomatch (show c ∈ ([] : List Nat) from hc)
  | [x], h => h x List.mem_cons_self
  | x :: y :: r, h => strOk_app (strOk_app (h x List.mem_cons_self) hs) (ok_join sep hs (y :: r) fun t ht => h t (List.mem_cons_of_mem _ ht))
mutual
theorem ok_shown : ∀ (d : D) (p : PyData), toPy d = some p → p.canLay0 = true → PyData.strOk p.shown = true
  | .non, _, h, _ => by cases h; exact ok_ofString _
  | .bl b, _, h, _ => by cases h; cases b <;> exact ok_ofString _
  | .int i, _, h, _ => by cases h; simp only [PyData.shown]; exact ok_ofString _
  | .str s, _, h, k => by
    cases h
    simp only [PyData.shown]
    exact ok_reprText (by simpa [PyData.canLay0] using k)
  | .lst xs, _, h, k => by
    obtain ⟨ps, h1, rfl⟩ := toPy_lst h
    simp only [PyData.shown]
    exact strOk_app (ok_textFrom _ _ _ (ok_ofString _) (ok_showns xs ps h1 (by simpa [PyData.canLay0] using k))) (ok_ofString _)
  | .tup xs, _, h, k => by
    obtain ⟨ps, h1, rfl⟩ := toPy_tup h
    simp only [PyData.shown]
    unfold tupleText
    refine strOk_app (strOk_app (ok_ofString _) (ok_join _ (ok_ofString _) _ (ok_showns xs ps h1 (by simpa [PyData.canLay0] using k)))) ?_
    split <;> exact ok_ofString _
  | .dic _ _, _, h, _ => by simp [toPy] at h
  | .fn _, _, h, _ => by simp [toPy] at h
  | .lse _, _, h, _ => by simp [toPy] at h
  | .own _ _, _, h, _ => by simp [toPy] at h
  | .ldc _ _, _, h, _ => by simp [toPy] at h
  | .box _, _, h, _ => by simp [toPy] at h
theorem ok_showns : ∀ (xs : List D) (ps : List PyData), toPys xs = some ps → PyData.canLayAll0 ps = true → ∀ t ∈ PyData.shownAll ps, PyData.strOk t = true
  | [], _, h, _ => by
    simp only [toPys, Option.some.injEq] at h
    subst h
    simp [PyData.shownAll]
  | x :: xs, _, h, k => by
    obtain ⟨p, ps', h1, h2, rfl⟩ := toPys_cons h
    simp only [PyData.canLayAll0, Bool.and_eq_true] at k
    simp only [PyData.shownAll]
    intro t ht
    rcases List.mem_cons.mp ht with rfl | ht
    · exact ok_shown x p h1 k.1
    · exact ok_showns xs ps' h2 k.2 t ht
end
def sRepr : SN
  | [d], P => costD d ≤ 16777216 ∧ depthD d ≤ 60 ∧ P (fz (.str (reprD d)))
  | _, _ => False
section
variable {K : PySem.W.Frag} {mg : Str → Option Value} {X : Cx}
def rRepr (K : PySem.W.Frag) : List V → Hp → VK → Prop := fun xs H Q => ∃ x p, xs = [x] ∧ Dp K H x p ∧ p.canLay0 = true ∧ p.showable = true ∧ p.depth ≤ 60 ∧ p.shown.length ≤ sizeLine ∧ Q (.str p.shown) H
theorem cr_repr (hg : X.A.guards = some []) (hu : X.A.units + 64 < cLine) : CallR X (.builtin "repr") (rRepr X.K) := by
  intro pins s σ H xs us Q I r h
  obtain ⟨x, p, rfl, hd, hc, hs, hp, hz, q⟩ := h
  obtain ⟨u, rfl, ru⟩ := vals1 r
  cases p with
  | none => cases hd; cases ru; exact PySem.P.repr_of_none ⟨.str _, H, I.tok _, ⟨_, rfl⟩, q⟩
  | bool b =>
    cases hd; cases ru
    exact PySem.P.repr_of_bool ⟨.str _, H, I.tok _, ⟨_, rfl⟩, by cases b <;> exact q⟩
  | int i =>
    cases hd
    obtain ⟨t, rfl⟩ := ru
    exact PySem.P.repr_of_int (by simpa [PyData.showable] using hs) ⟨.str _, H, I.tok _, ⟨_, rfl⟩, q⟩
  | str z =>
    cases hd
    obtain ⟨t, rfl⟩ := ru
    exact PySem.P.repr_of_str ⟨.str _, H, I.tok _, ⟨_, rfl⟩, q⟩ hz
  | dict _ => cases hd
  | list ds =>
    obtain ⟨as, rd⟩ := Dp.reads I _ x u hd ru
    cases hd
    cases ru
    exact repr_of_reads' rd hs (PyData.noDict_hsm (PyData.hasDict_of_canLay _ hc)) hg (by omega) (fun _ _ e => e) (fun h' t tk hk => ⟨.str _, H, I.kept (t' := tk) hk, ⟨_, rfl⟩, q⟩) hz
  | tuple ds =>
    obtain ⟨as, rd⟩ := Dp.reads I _ x u hd ru
    cases hd
    cases ru
    exact repr_of_reads' rd hs (PyData.noDict_hsm (PyData.hasDict_of_canLay _ hc)) hg (by omega) (fun _ _ e => e) (fun h' t tk hk => ⟨.str _, H, I.kept (t' := tk) hk, ⟨_, rfl⟩, q⟩) hz
theorem VRos.one {hot : Pr} {H : Hp} {xs : List V} {d : D} (r : VRos K mg hot H xs [d]) : ∃ x, xs = [x] ∧ VRo K mg hot H x d := by
  cases r with
  | cons h t => cases t; exact ⟨_, rfl, h⟩
theorem VRos.two {hot : Pr} {H : Hp} {xs : List V} {d e : D} (r : VRos K mg hot H xs [d, e]) : ∃ x y, xs = [x, y] ∧ VRo K mg hot H x d ∧ VRo K mg hot H y e := by
  cases r with
  | cons h t => obtain ⟨y, rfl, k⟩ := t.one; exact ⟨_, _, rfl, h, k⟩
theorem cl_repr : CallL K mg (rRepr K) sRepr := by
  intro hot H xs ds P Q hh rx q k
  obtain ⟨d, rfl⟩ : ∃ d, ds = [d] := by
    match ds, q with
    | [d], _ => exact ⟨d, rfl⟩
  obtain ⟨c, dp, p⟩ := q
  obtain ⟨x, rfl, r⟩ := rx.one
  obtain ⟨y, e⟩ := toPy_pure d (cost_pure d c)
  obtain ⟨h1, h2⟩ := r.dp e
  obtain ⟨h3, h4⟩ := shown_len d y e h2 c
  refine ⟨x, y, rfl, h1, h2, h4, by rw [depth_toPy _ _ e]; exact dp, by rw [slen]; omega, ?_⟩
  have er : reprD d = y.shown := by unfold reprD; rw [e]
  rw [← er]
  exact post_fz hh k (.str _ (by rw [er]; exact ok_shown d y e h2)) p
end
end TL

/-! T6: built-in functions, slices, displays, tests -/
namespace TL
open PySem PySem.Spec PyProof.Rows L2

def sLen : SN
  | [.lst xs], P => P (fz (.int xs.length))
  | [.tup xs], P => P (fz (.int xs.length))
  | [.str s], P => s.length ≤ 16777216 ∧ P (fz (.int s.length))
  | _, _ => False
def sAbs : SN
  | [.int i], P => P (fz (.int (if i < 0 then -i else i)))
  | _, _ => False
def sIntOf : SN
  | [.int i], P => P (fz (.int i))
  | [.bl b], P => P (fz (.int (if b then 1 else 0)))
  | _, _ => False
def sList : SN
  | [.lst xs], P => P ⟨true, .lst xs⟩
  | [.tup xs], P => P ⟨true, .lst xs⟩
  | _, _ => False
def sTuple : SN
  | [.lst xs], P => P (fz (.tup xs))
  | [.tup xs], P => P (fz (.tup xs))
  | _, _ => False
def sAll : SN
  | [.lst xs], P => ∃ bs : List Bool, xs = bs.map D.bl ∧ P (fz (.bl (bs.all id)))
  | _, _ => False
def sAny : SN
  | [.lst xs], P => ∃ bs : List Bool, xs = bs.map D.bl ∧ P (fz (.bl (bs.any id)))
  | _, _ => False
def cut {α : Type} (xs : List α) (lo hi : Option Int) : List α := (xs.drop (HT.sIx xs.length 0 lo)).take (HT.sIx xs.length xs.length hi - HT.sIx xs.length 0 lo)
def sCut (lo hi : Option Int) : S1
  | .lst xs, P => P ⟨true, .lst (cut xs lo hi)⟩
  | .tup xs, P => P (fz (.tup (cut xs lo hi)))
  | _, _ => False

section
variable {K : PySem.W.Frag} {mg : Str → Option Value} {X : Cx} {hot : Pr} {H : Hp}
theorem Reps.bls : ∀ {bs : List Bool} {vs : List V}, Reps K mg hot H vs (bs.map D.bl) → vs = bs.map V.bl
  | [], _, r => by cases r; rfl
  | b :: bs, _, r => by
    cases r with
    | cons h t => cases h; rw [Reps.bls t]; rfl
def rLen (K : PySem.W.Frag) : List V → Hp → VK → Prop := fun xs H Q => (∃ p ys, xs = [.ref p] ∧ (SqL K H p ys ∨ SqT K H p ys) ∧ Q (.int ys.length) H) ∨ (∃ z, xs = [.str z] ∧ z.length ≤ sizeLine ∧ Q (.int z.length) H)
theorem cr_len : CallR X (.builtin "len") (rLen X.K) := CallR.or call_len_seq call_len_str
theorem one_of {ds : List D} {C : D → Prop} (h : match ds with | [d] => C d | _ => False) : ∃ d, ds = [d] ∧ C d := by
  match ds, h with
  | [d], h => exact ⟨d, rfl, h⟩
theorem cl_len : CallL K mg (rLen K) sLen := by
  intro hot H xs ds P Q hh rx q k
  match ds, q with
  | [.lst ys], q =>
    obtain ⟨x, rfl, r⟩ := rx.one
    obtain ⟨a, vs, rfl, h1, r1⟩ := r.lst
    exact .inl ⟨a, vs, rfl, .inl h1, by rw [r1.length]; exact post_fz hh k (.int _) q⟩
  | [.tup ys], q =>
    obtain ⟨x, rfl, r⟩ := rx.one
    obtain ⟨a, vs, rfl, h1, r1⟩ := r.tup
    exact .inl ⟨a, vs, rfl, .inr h1, by rw [r1.length]; exact post_fz hh k (.int _) q⟩
  | [.str s], q =>
    obtain ⟨x, rfl, r⟩ := rx.one
    exact .inr ⟨s, by rw [r.str.1], by rw [slen]; exact q.1, post_fz hh k (.int _) q.2⟩
theorem cl_abs : CallL K mg (fun xs H Q => ∃ i, xs = [.int i] ∧ Q (.int (if i < 0 then -i else i)) H) sAbs := by
  intro hot H xs ds P Q hh rx q k
  match ds, q with
  | [.int i], q =>
    obtain ⟨x, rfl, r⟩ := rx.one
    exact ⟨i, by rw [r.int], post_fz hh k (.int _) q⟩
theorem cl_int : CallL K mg (fun xs H Q => (∃ i, xs = [.int i] ∧ Q (.int i) H) ∨ ∃ k, xs = [.bl k] ∧ Q (.int (if k then 1 else 0)) H) sIntOf := by
  intro hot H xs ds P Q hh rx q k
  match ds, q with
  | [.int i], q =>
    obtain ⟨x, rfl, r⟩ := rx.one
    exact .inl ⟨i, by rw [r.int], post_fz hh k (.int _) q⟩
  | [.bl b], q =>
    obtain ⟨x, rfl, r⟩ := rx.one
    exact .inr ⟨b, by rw [r.bl], post_fz hh k (.int _) q⟩
theorem cl_list : CallL K mg (fun xs H Q => ∃ p ys, xs = [.ref p] ∧ (SqL K H p ys ∨ SqT K H p ys) ∧ ∀ l, H l = none → Q (.ref l) (upd H l (.lst ys))) sList := by
  intro hot H xs ds P Q hh rx q k
  match ds, q with
  | [.lst ys], q =>
    obtain ⟨x, rfl, r⟩ := rx.one
    obtain ⟨a, vs, rfl, h1, r1⟩ := r.lst
    exact ⟨a, vs, rfl, .inl h1, fun l n => post_lst hh k n r1 q⟩
  | [.tup ys], q =>
    obtain ⟨x, rfl, r⟩ := rx.one
    obtain ⟨a, vs, rfl, h1, r1⟩ := r.tup
    exact ⟨a, vs, rfl, .inr h1, fun l n => post_lst hh k n r1 q⟩
theorem VRo.rep_tup {xs : List D} {v : V} (r : VRo K mg hot H v (.tup xs)) : Rep K mg hot H v (.tup xs) := by
  obtain ⟨o, r⟩ := r
  cases r with
  | fro r => exact r
theorem cl_tuple : CallL K mg (fun xs H Q => ∃ p ys, xs = [.ref p] ∧ ((SqL K H p ys ∧ ∀ l o, H l = none → PTu o → Q (.ref l) (newT H l o ys)) ∨ (SqT K H p ys ∧ Q (.ref p) H))) sTuple := by
  intro hot H xs ds P Q hh rx q k
  match ds, q with
  | [.lst ys], q =>
    obtain ⟨x, rfl, r⟩ := rx.one
    obtain ⟨a, vs, rfl, h1, r1⟩ := r.lst
    exact ⟨a, vs, rfl, .inl ⟨h1, fun l o n po => post_tup hh k n po r1 q⟩⟩
  | [.tup ys], q =>
    obtain ⟨x, rfl, r⟩ := rx.one
    have r0 := r.rep_tup
    obtain ⟨a, vs, rfl, h1, r1⟩ := r.tup
    exact ⟨a, vs, rfl, .inr ⟨h1, post_fz hh k r0 q⟩⟩
theorem cl_all : CallL K mg (rAll K) sAll := by
  intro hot H xs ds P Q hh rx q k
  match ds, q with
  | [.lst ys], q =>
    obtain ⟨bs, rfl, q⟩ := q
    obtain ⟨x, rfl, r⟩ := rx.one
    obtain ⟨a, vs, rfl, h1, r1⟩ := r.lst
    exact ⟨a, bs, rfl, by rw [← r1.bls]; exact h1, post_fz hh k (.bl _) q⟩
theorem cl_any : CallL K mg (rAny K) sAny := by
  intro hot H xs ds P Q hh rx q k
  match ds, q with
  | [.lst ys], q =>
    obtain ⟨bs, rfl, q⟩ := q
    obtain ⟨x, rfl, r⟩ := rx.one
    obtain ⟨a, vs, rfl, h1, r1⟩ := r.lst
    exact ⟨a, bs, rfl, by rw [← r1.bls]; exact h1, post_fz hh k (.bl _) q⟩

/-! ### slices -/
def rCut (K : PySem.W.Frag) : V → Option Int → Option Int → Hp → VK → Prop := fun x lo hi H Q => rSlL K x lo hi H Q ∨ rSlN K x lo hi H Q
theorem sr_cut : SlR X (rCut X.K) := SlR.or sl_list sl_tupN
theorem Reps.cut {vs : List V} {ds : List D} (r : Reps K mg hot H vs ds) (lo hi : Option Int) : Reps K mg hot H (cutV vs lo hi) (cut ds lo hi) := by
  unfold cutV TL.cut
  rw [r.length]
  exact (r.drop _).take _
theorem cut_whole {α : Type} {xs : List α} {lo hi : Option Int} (h1 : HT.sIx xs.length 0 lo = 0) (h2 : HT.sIx xs.length xs.length hi = xs.length) : cut xs lo hi = xs := by
  unfold cut
  rw [h1, h2, List.drop_zero, Nat.sub_zero, List.take_length]
theorem ul_cut (lo hi : Option Int) : UnL K mg (fun x H Q => rCut K x lo hi H Q) (sCut lo hi) := by
  intro hot H x dx P Q hh rx q k
  cases dx <;> simp only [sCut] at q <;> try exact q.elim
  · obtain ⟨a, vs, rfl, h1, r1⟩ := rx.lst
    exact .inl ⟨a, vs, rfl, h1, fun p n => post_lst hh k n (r1.cut lo hi) q⟩
  · have r0 := rx.rep_tup
    obtain ⟨a, vs, rfl, h1, r1⟩ := rx.tup
    refine .inr ⟨a, vs, rfl, h1, fun ⟨w1, w2⟩ => ?_, fun _ p o n po => post_tup hh k n po (r1.cut lo hi) q⟩
    rw [r1.length] at w1 w2
    rw [cut_whole w1 w2] at q
    exact post_fz hh k r0 q

/-! ### displays: what stands in them is everybody's -/
def tms : List Opd → Option (List D)
  | [] => some []
  | .tm d :: os => (tms os).map (d :: ·)
  | .sl _ :: _ => none
theorem tms_reps {oh : Pr} {L : Lay} (S : StR K mg oh H L) : ∀ {vs : List V} {os : List Opd} {ds : List D} {σ : L2.St}, OpdsAt σ vs os → tms os = some ds → (∀ c ∈ cells vs os, c ∈ L) → Reps K mg (hotL oh L) H vs ds
  | [], _, ds, _, ha, h, _ => by cases ha; cases h; exact .nil
  | v :: vs, _, ds, _, ha, h, hc => by
    cases ha with
    | cons a1 a2 =>
      rename_i o os
      cases o with
      | sl i => cases h
      | tm d =>
        simp only [tms, Option.map_eq_some_iff] at h
        obtain ⟨ds', h, rfl⟩ := h
        obtain ⟨w, e, r⟩ := S.all _ (hc _ mem_cells_head) _ rfl
        cases e
        refine .cons ?_ (tms_reps S a2 h fun c hm => hc c (List.mem_cons_of_mem _ hm))
        cases r with
        | fro r => exact r
theorem tms_len : ∀ {vs : List V} {os : List Opd} {ds : List D} {σ : L2.St}, OpdsAt σ vs os → tms os = some ds → vs.length = ds.length
  | [], _, ds, _, ha, h => by cases ha; cases h; rfl
  | v :: vs, _, ds, _, ha, h => by
    cases ha with
    | cons a1 a2 =>
      rename_i o os
      cases o with
      | sl i => cases h
      | tm d =>
        simp only [tms, Option.map_eq_some_iff] at h
        obtain ⟨ds', h, rfl⟩ := h
        rw [List.length_cons, List.length_cons, tms_len a2 h]
def wLst (ts : WXs) : WE := fun env P => ts env fun os env1 => ∃ ds, tms os = some ds ∧ ds.length ≤ 16777216 ∧ P ⟨true, .lst ds⟩ env1
def wTup (ts : WXs) : WE := fun env P => ts env fun os env1 => ∃ ds, tms os = some ds ∧ ds.length ≤ 16777216 ∧ P (fz (.tup ds)) env1
theorem lst_lift {ts : WXs} {σ : L2.St} {Q : VK} (h : liftE K mg (wLst ts) σ H Q) : tLst (liftXs K mg ts) σ H Q := by
  obtain ⟨oh, τ, env, P, e0, S, t, k⟩ := h
  refine ⟨oh, τ, env, _, e0, S, t, fun vs os env1 H1 e1 a1 S1 s1 ⟨ds, hd, hz, p⟩ => ⟨by rw [slen, tms_len a1 hd]; exact hz, fun l n => ?_⟩⟩
  have r := tms_reps S1 a1 hd fun c hc => List.mem_append_left _ hc
  rw [hot_cells] at r
  have hh : ∀ a, hotL oh (τ ++ σ.zip env1) a → H1 a ≠ none := fun a ha => S1.right.hot_there ha
  have T : StR K mg (hotL oh (τ ++ σ.zip env1)) (upd H1 l (.lst vs)) [(some (.ref l), some ⟨true, .lst ds⟩)] := StR.new_lst hh n r
  obtain ⟨S3, s3⟩ := over_cells roots_cells S1 s1 T (Step.new_lst n)
  exact k _ _ env1 _ e1 S3 s3 p
theorem tup_lift {ts : WXs} {σ : L2.St} {Q : VK} (h : liftE K mg (wTup ts) σ H Q) : tTupT (liftXs K mg ts) σ H Q := by
  obtain ⟨oh, τ, env, P, e0, S, t, k⟩ := h
  refine ⟨oh, τ, env, _, e0, S, t, fun vs os env1 H1 e1 a1 S1 s1 ⟨ds, hd, hz, p⟩ => ⟨by rw [slen, tms_len a1 hd]; exact hz, fun l o n po => ?_⟩⟩
  have r := tms_reps S1 a1 hd fun c hc => List.mem_append_left _ hc
  rw [hot_cells] at r
  have hh : ∀ a, hotL oh (τ ++ σ.zip env1) a → H1 a ≠ none := fun a ha => S1.right.hot_there ha
  have T : StR K mg (hotL oh (τ ++ σ.zip env1)) (newT H1 l o vs) [(some (.ref l), some ⟨false, .tup ds⟩)] := StR.new_tup hh n po r
  obtain ⟨S3, s3⟩ := over_cells roots_cells S1 s1 T (Step.new_fro n)
  exact k _ _ env1 _ e1 S3 s3 p

/-! ### constants -/
def wC (d : D) : WE := fun env P => P (fz d) env
theorem cst_lift {d : D} {v : V} (hr : ∀ (hot : Pr) (H : Hp), Rep K mg hot H v d) {σ : L2.St} {Q : VK} (h : liftE K mg (wC d) σ H Q) : tC v σ H Q := by
  obtain ⟨oh, τ, env, P, e0, S, t, k⟩ := h
  exact k v (fz d) env H e0 (S.push (StR.one_fro (fun a ha => S.hot_there ha) (hr _ _)) Step.one_fro) Step.one_fro.push t

/-! ### tests -/
def truthD : D → Option Bool
  | .non => some false
  | .bl b => some b
  | .int i => some (i != 0)
  | .str s => if s.length ≤ 16777216 then some ((s.length : Int) != 0) else none
  | .lst xs => some (!xs.isEmpty)
  | .tup xs => some (!xs.isEmpty)
  | _ => none
theorem Reps.isEmpty {vs : List V} {ds : List D} (r : Reps K mg hot H vs ds) : vs.isEmpty = ds.isEmpty := by cases r <;> rfl
theorem truth_of {v : V} {d : D} {b : Bool} (r : VRo K mg hot H v d) (h : truthD d = some b) : TruV K v H b := by
  cases d with
  | non => obtain rfl := r.non; cases h; rfl
  | bl c => obtain rfl := r.bl; cases h; rfl
  | int i => obtain rfl := r.int; cases h; rfl
  | str s =>
    obtain ⟨rfl, _⟩ := r.str
    simp only [truthD] at h
    split at h
    · rename_i hz
      cases h
      exact ⟨by rw [slen]; exact hz, rfl⟩
    · cases h
  | lst xs =>
    obtain ⟨a, vs, rfl, h1, r1⟩ := r.lst
    cases h
    exact .inl ⟨vs, h1, by rw [r1.isEmpty]⟩
  | tup xs =>
    obtain ⟨a, vs, rfl, h1, r1⟩ := r.tup
    cases h
    exact .inr (.inl ⟨vs, h1, by rw [r1.isEmpty]⟩)
  | dic _ _ => cases h
  | fn _ => cases h
  | lse _ => cases h
  | own _ _ => cases h
  | ldc _ _ => cases h
  | box _ => cases h
def wTru (t : WX) : WT := fun env P => t env fun o env1 => ∃ d b, o.res env1 = some d ∧ truthD d = some b ∧ P b env1
theorem tru_lift {t : WX} {σ : L2.St} {Q : Bool → Hp → Prop} (h : liftT K mg (wTru t) σ H Q) : liftX K mg t σ H fun x H' => ∃ k, TruV K x H' k ∧ Q k H' := by
  obtain ⟨oh, τ, env, P, e0, S, t, k⟩ := h
  refine ⟨oh, τ, env, _, e0, S, t, fun v o env1 H1 e1 a1 S1 s1 ⟨d, b, hr, ht, p⟩ => ?_⟩
  have hA : ∀ {L : Lay}, hotL oh ([o.cell v] ++ L) = hotL oh L := by intro L; exact hot_cell
  refine ⟨b, truth_of (opd_reads e1 hA (A := [o.cell v]) S1 a1 (by simp) hr) ht, k b env1 H1 e1 S1.tail ?_ p⟩
  exact s1.lessR fun a ha => roots_cons_sub a ha
/-- a comparison as a test -/
def wTB (t : WE) : WT := fun env P => t env fun val env1 => ∃ b, val.d = .bl b ∧ P b env1
theorem VR.to_bl {v : V} {val : Val} {b : Bool} (r : VR K mg hot H v val) (e : val.d = .bl b) : v = .bl b := by
  cases r with
  | fro r => subst e; cases r; rfl
  | lst _ _ _ => cases e
  | dicK _ _ _ _ => cases e
  | boxT _ _ _ => cases e
  | boxL _ _ _ => cases e
  | boxD _ _ _ _ => cases e
theorem tb_lift {t : WE} {σ : L2.St} {Q : Bool → Hp → Prop} (h : liftT K mg (wTB t) σ H Q) : tTest (liftE K mg t) σ H Q := by
  obtain ⟨oh, τ, env, P, e0, S, t, k⟩ := h
  refine ⟨oh, τ, env, _, e0, S, t, fun v val env1 H1 e1 S1 s1 ⟨b, hb, p⟩ => ⟨b, S1.head.to_bl hb, k b env1 H1 e1 S1.tail ?_ p⟩⟩
  exact s1.lessR fun a ha => roots_cons_sub a ha
def wNotT (t : WT) : WT := fun env P => t env fun b env1 => P (!b) env1
theorem not_lift {t : WT} {σ : L2.St} {Q : Bool → Hp → Prop} (h : liftT K mg (wNotT t) σ H Q) : tNot (liftT K mg t) σ H Q := by
  obtain ⟨oh, τ, env, P, e0, S, t, k⟩ := h
  exact ⟨oh, τ, env, _, e0, S, t, fun b env1 H1 e1 S1 s1 p => k (!b) env1 H1 e1 S1 s1 p⟩
def wAndT (t u : WT) : WT := fun env P => t env fun b env1 => if b then u env1 P else P false env1
def wOrT (t u : WT) : WT := fun env P => t env fun b env1 => if b then P true env1 else u env1 P
theorem and_lift {t u : WT} {σ : L2.St} {Q : Bool → Hp → Prop} (h : liftT K mg (wAndT t u) σ H Q) : tAnd (liftT K mg t) (liftT K mg u) σ H Q := by
  obtain ⟨oh, τ, env, P, e0, S, t, k⟩ := h
  refine ⟨oh, τ, env, _, e0, S, t, fun b env1 H1 e1 S1 s1 p => ?_⟩
  cases b with
  | true => exact iteT ⟨oh, τ, env1, P, e1, S1, p, fun c env2 H2 e2 S2 s2 p => k c env2 H2 e2 S2 (s1.trans s2) p⟩
  | false => exact iteF (k false env1 H1 e1 S1 s1 p)
theorem or_lift {t u : WT} {σ : L2.St} {Q : Bool → Hp → Prop} (h : liftT K mg (wOrT t u) σ H Q) : tOr (liftT K mg t) (liftT K mg u) σ H Q := by
  obtain ⟨oh, τ, env, P, e0, S, t, k⟩ := h
  refine ⟨oh, τ, env, _, e0, S, t, fun b env1 H1 e1 S1 s1 p => ?_⟩
  cases b with
  | false => exact iteF ⟨oh, τ, env1, P, e1, S1, p, fun c env2 H2 e2 S2 s2 p => k c env2 H2 e2 S2 (s1.trans s2) p⟩
  | true => exact iteT (k true env1 H1 e1 S1 s1 p)
/-- a if c else b -/
def wIf (c : WT) (t u : WE) : WE := fun env P => c env fun b env1 => if b then t env1 P else u env1 P
theorem if_lift {c : WT} {t u : WE} {σ : L2.St} {Q : VK} (h : liftE K mg (wIf c t u) σ H Q) : tIf (liftT K mg c) (liftE K mg t) (liftE K mg u) σ H Q := by
  obtain ⟨oh, τ, env, P, e0, S, t, k⟩ := h
  refine ⟨oh, τ, env, _, e0, S, t, fun b env1 H1 e1 S1 s1 p => ?_⟩
  cases b with
  | true => exact iteT ⟨oh, τ, env1, P, e1, S1, p, fun v val env2 H2 e2 S2 s2 p => k v val env2 H2 e2 S2 (s1.trans s2) p⟩
  | false => exact iteF ⟨oh, τ, env1, P, e1, S1, p, fun v val env2 H2 e2 S2 s2 p => k v val env2 H2 e2 S2 (s1.trans s2) p⟩
/-- and, or as values -/
def wAndV (t u : WE) : WE := fun env P => t env fun val env1 => ∃ b, truthD val.d = some b ∧ if b then u env1 P else P val env1
def wOrV (t u : WE) : WE := fun env P => t env fun val env1 => ∃ b, truthD val.d = some b ∧ if b then P val env1 else u env1 P
theorem VR.vro {v : V} {val : Val} (r : VR K mg hot H v val) : VRo K mg hot H v val.d := ⟨val.own, r⟩
theorem orV_lift {t u : WE} {σ : L2.St} {Q : VK} (h : liftE K mg (wOrV t u) σ H Q) : tOrT K (liftE K mg t) (liftE K mg u) σ H Q := by
  obtain ⟨oh, τ, env, P, e0, S, t, k⟩ := h
  refine ⟨oh, τ, env, _, e0, S, t, fun v val env1 H1 e1 S1 s1 ⟨b, hb, p⟩ => ⟨b, truth_of S1.head.vro hb, ?_⟩⟩
  cases b with
  | true => exact iteT (k v val env1 H1 e1 S1 s1 p)
  | false => exact iteF ⟨oh, τ, env1, P, e1, S1.tail, p, fun v2 val2 env2 H2 e2 S2 s2 p => k v2 val2 env2 H2 e2 S2 ((s1.lessR fun a ha => roots_cons_sub a ha).trans s2) p⟩
theorem andV_lift {t u : WE} {σ : L2.St} {Q : VK} (h : liftE K mg (wAndV t u) σ H Q) : tAndT K (liftE K mg t) (liftE K mg u) σ H Q := by
  obtain ⟨oh, τ, env, P, e0, S, t, k⟩ := h
  refine ⟨oh, τ, env, _, e0, S, t, fun v val env1 H1 e1 S1 s1 ⟨b, hb, p⟩ => ⟨b, truth_of S1.head.vro hb, ?_⟩⟩
  cases b with
  | false => exact iteF (k v val env1 H1 e1 S1 s1 p)
  | true => exact iteT ⟨oh, τ, env1, P, e1, S1.tail, p, fun v2 val2 env2 H2 e2 S2 s2 p => k v2 val2 env2 H2 e2 S2 ((s1.lessR fun a ha => roots_cons_sub a ha).trans s2) p⟩
def wNotV (t : WE) : WE := fun env P => t env fun val env1 => ∃ b, truthD val.d = some b ∧ P (fz (.bl (!b))) env1
theorem notV_lift {t : WE} {σ : L2.St} {Q : VK} (h : liftE K mg (wNotV t) σ H Q) : tNotT K (liftE K mg t) σ H Q := by
  obtain ⟨oh, τ, env, P, e0, S, t, k⟩ := h
  refine ⟨oh, τ, env, _, e0, S, t, fun v val env1 H1 e1 S1 s1 ⟨b, hb, p⟩ => ⟨b, truth_of S1.head.vro hb, ?_⟩⟩
  have S2 := S1.tail
  exact k _ (fz (.bl (!b))) env1 H1 e1 (S2.push (StR.one_fro (fun a ha => S2.hot_there ha) (.bl _)) Step.one_fro) ((s1.lessR fun a ha => roots_cons_sub a ha).trans Step.one_fro.push) p
end
end TL

/-! T7: defs by what they make of data; calls -/
namespace TL
open PySem PySem.Spec PyProof.Rows L2

/-! ### the cells that say something -/
def core (L : Lay) : Lay := L.filter fun c => c.2.isSome
theorem core_append {A B : Lay} : core (A ++ B) = core A ++ core B := List.filter_append ..
theorem core_cons_some {so : Option V} {x : Val} {L : Lay} : core ((so, some x) :: L) = (so, some x) :: core L := by simp [core, List.filter_cons]
theorem core_cons_none {so : Option V} {L : Lay} : core ((so, none) :: L) = core L := by simp [core, List.filter_cons]
theorem roots_core : ∀ L : Lay, roots (core L) = roots L
  | [] => rfl
  | (so, none) :: L => by rw [core_cons_none, roots_none, roots_core L]
  | (so, some x) :: L => by rw [core_cons_some, roots_cons, roots_cons, roots_core L]
theorem mem_core {L : Lay} {p : Cell} : p ∈ core L ↔ p ∈ L ∧ p.2.isSome = true := by simp [core, List.mem_filter]
section
variable {K : PySem.W.Frag} {mg : Str → Option Value} {oh : Pr} {H H' : Hp} {L L' A B E : Lay}
theorem roots_coreP (h : (core L).Perm (core L' ++ E)) : (roots L).Perm (roots L' ++ roots E) := by
  have := List.Perm.flatMap_right rootP h
  rw [List.flatMap_append] at this
  have e1 : List.flatMap rootP (core L) = roots L := roots_core L
  have e2 : List.flatMap rootP (core L') = roots L' := roots_core L'
  rw [e1, e2] at this
  exact this
theorem StR.core (S : StR K mg oh H L) (h : (core L).Perm (core L' ++ E)) : StR K mg oh H L' := by
  refine S.less (fun p hp => ?_) (List.nodup_append.mp ((roots_coreP h).nodup_iff.mp S.nd)).1
  obtain ⟨so, eo⟩ := p
  cases eo with
  | none => exact .inl rfl
  | some x => exact .inr (mem_core.mp (h.mem_iff.mpr (List.mem_append_left _ (mem_core.mpr ⟨hp, rfl⟩)))).1
theorem Step.coreR {L0 : Lay} {H0 : Hp} (s : Step L0 H0 L H') (h : (TL.core L).Perm (TL.core L' ++ E)) : Step L0 H0 L' H' :=
  s.lessR fun a ha => (roots_coreP h).mem_iff.mpr (List.mem_append_left _ ha)
theorem Step.coreL {L0 : Lay} {H0 : Hp} (s : Step L0 H0 L H') (h : (TL.core L0).Perm (TL.core L')) : Step L' H0 L H' := by
  have h' : ∀ a, a ∈ roots L0 ↔ a ∈ roots L' := fun a => by
    have := roots_coreP (L := L0) (L' := L') (E := []) (by rw [List.append_nil]; exact h)
    rw [this.mem_iff]
    simp [roots]
  exact ⟨fun a o e n => s.keep a o e fun z => n ((h' a).mp z), fun a ha => (s.sub a ha).imp (h' a).mp id, s.dom⟩
end

/-! ### what a def makes of data -/
abbrev DSpec := List Val → (Val → List Val → Prop) → Prop
def zipA (vs : List V) (xs : List Val) : Lay := (vs.map some).zip (xs.map some)
theorem zipA_cons {v : V} {vs : List V} {x : Val} {xs : List Val} : zipA (v :: vs) (x :: xs) = (some v, some x) :: zipA vs xs := rfl
def spT (K : PySem.W.Frag) (mg : Str → Option Value) (n : Nat) (t : DSpec) : Sp := fun vs H Q _ => ∃ (oh : Pr) (args : List Val) (P : Val → List Val → Prop), vs.length = n ∧ args.length = n ∧ StR K mg oh H (zipA vs args) ∧ t args P ∧
  ∀ v val args' H', args'.length = n → StR K mg oh H' ((some v, some val) :: zipA vs args') → Step (zipA vs args) H ((some v, some val) :: zipA vs args') H' → P val args' → Q v H'

/-- a def's promise where nobody asks for a text of what is under way -/
structure FnT (P : Program) (w : World) (K : PySem.W.Frag) (mg : Str → Option Value) (base : Heap) (k : Nat) (f : Addr) (fd : FuncData) (ps : List Str) (sp : Sp) : Prop where
  len : ∀ vs H Q E, sp vs H Q E → vs.length = ps.length
  run : ∀ (A : Around) (outer : List Env) (s : Shared) (H : Hp) (args : Args) (us : List Value) (vs : List V) (Q : VK), Room k A → A.guards = some [] → Env0 P w K mg base A outer s H → BindsTo s fd args (ps.zip us) → Vals vs us → sp vs H Q E0 →
    codeAny (model P w) A (.call (.ref f) args) (CR CX0 outer P w H s Q E0) s
theorem FnT.mono {P w K mg base j k f fd ps sp} (F : FnT P w K mg base j f fd ps sp) (h : j ≤ k) : FnT P w K mg base k f fd ps sp :=
  ⟨F.len, fun A outer s H args us vs Q hr => F.run A outer s H args us vs Q (hr.mono h)⟩
theorem FnT.imp {P w K mg base k f fd ps sp sp'} (F : FnT P w K mg base k f fd ps sp) (h : ∀ vs H Q E, sp' vs H Q E → sp vs H Q E) : FnT P w K mg base k f fd ps sp' :=
  ⟨fun vs H Q E q => F.len vs H Q E (h _ _ _ _ q), fun A outer s H args us vs Q hr hg he hb hv hs => F.run A outer s H args us vs Q hr hg he hb hv (h _ _ _ _ hs)⟩

section
variable {X : Cx} {k : Nat} {f : Addr} {fd : FuncData} {ps : List Str} {sp : Sp}
/-- the callee runs, args bound as hb says -/
theorem run_fnT {pins : List (Addr × Obj)} {σ : L2.St} {H : Hp} {s : Shared} {Q : VK} {us vus : List Value} {kw : List (Str × Value)} {vs : List V} (F : FnT X.prog X.w X.K X.mg X.base k f fd ps sp) (hr : Room k X.A) (hg : X.A.guards = some [])
    (hb : vus.length = ps.length → BindsTo s fd ⟨us, kw⟩ (ps.zip vus)) (I : L2.Inv X pins σ H s) (r : Vals vs vus) (h : sp vs H Q E0) : wpAny (model X.prog X.w) X.A (call (.ref f) us kw) (EP X pins σ Q) X.xe s := by
  have hl : vus.length = ps.length := by rw [← r.length]; exact F.len _ _ _ _ h
  refine wpAny_call (codeAny_mono (F.run X.A X.stack s H ⟨us, kw⟩ vus vs Q hr hg I.env0 (hb hl) r h) fun z s' hq => ?_)
  match z, hq with
  | .ok (.ret u), hq => exact I.after hq
  | .ok .next, hq => exact False.elim hq
  | .ok .brk, hq => exact False.elim hq
  | .ok .cont, hq => exact False.elim hq
  | .error e, hq => exact False.elim hq
theorem pe_callT {x : Str} {p pos : Pos} {e : Expr} {es : List Expr} {t : TA} (F : FnT X.prog X.w X.K X.mg X.base k f fd ps sp) (hr : Room k X.A) (hgd : X.A.guards = some []) (hg : Gl X x) (hm : X.mg x = some (.ref f)) (hk : PySem.W.keepIn X.K (.ref f) = true)
    (hb : Binds X.K fd ps []) (ha : PA X (e :: es) t) (hdb : (x == ("__debug__" : Str)) = false) (he : starEach (e :: es) X.env = (false, eval e X.env) :: starEach es X.env) (hpl : (backTo pos (starEach es X.env)).any (·.1) = false) :
    PE X (.Call (.Name x p) (e :: es) [] pos) (fun σ H Q => t σ H fun vs H1 => sp vs H1 Q E0) := by
  refine ⟨fun pins s σ H Q I h => ?_⟩
  refine wpAny_Call_Name_kw (ld_glob I hg hm ?_ hdb)
  refine PySem.W.callWith_K (h₀ := X.base) I.ok.mod.kin hk (thn (ha.run pos pins s σ H _ I h) fun us s1 ⟨vs, H1, I1, r, q⟩ => ⟨I1.kIn, ?_⟩) he hpl
  exact run_fnT F hr hgd (fun hl => by have := hb s1 us I1.kIn (by rw [List.append_nil]; exact hl); rw [List.append_nil] at this; exact this) I1 r q
theorem pe_callT0 {x : Str} {p pos : Pos} (F : FnT X.prog X.w X.K X.mg X.base k f fd ps sp) (hr : Room k X.A) (hgd : X.A.guards = some []) (hg : Gl X x) (hm : X.mg x = some (.ref f)) (hk : PySem.W.keepIn X.K (.ref f) = true)
    (hb : Binds X.K fd ps []) (hdb : (x == ("__debug__" : Str)) = false) : PE X (.Call (.Name x p) [] [] pos) (fun σ H Q => sp [] H Q E0) := by
  refine ⟨fun pins s σ H Q I h => ?_⟩
  refine wpAny_Call_Name_kw (ld_glob I hg hm ?_ hdb)
  exact PySem.W.callWith_K0 I.kIn hk (run_fnT (us := []) (vus := []) F hr hgd (fun hl => by have := hb s [] I.kIn hl; exact this) I .nil h)
end

/-! ### a def's body keeps its promise -/
theorem fnT_of {P : Program} {w : World} {K : PySem.W.Frag} {mg : Str → Option Value} {base : Heap} {k : Nat} {x qual : Str} {st : Stmt} {f : Addr} {fd : FuncData} {N ps : List Str} {sp : Sp} (F : Fun K x qual st f fd) (S : FnScope N ps (defScope st))
    (len : ∀ vs H Q E, sp vs H Q E → vs.length = ps.length)
    (hbody : ∀ (cdv : Value) (A : Around) (outer : List Env) (s : Shared) (H : Hp) (vs : List V) (Q : VK), Room k (A.deeper (envOfC qual (defScope st) s.heap.objs.size f cdv)) → (A.deeper (envOfC qual (defScope st) s.heap.objs.size f cdv)).guards = some [] → sp vs H Q E0 →
      ∃ t, PSs (cxOf CX0 P w K mg base N qual (defScope st) f cdv A outer s H E0).nox (defBody st) t ∧ t { nx := fun _ H' => Q .non H', rt := Q } (start N vs) H) : FnT P w K mg base (k + 1) f fd ps sp := by
  obtain ⟨oc, od, kV, doc, pm, an, cdv, ct, osl, rfl, lk, hcd⟩ := F.ex
  refine ⟨len, fun A outer s H args us vs Q hr hg e0 hb r hsp => ?_⟩
  have hl := len _ _ _ _ hsp
  have keepB : ∀ b o, base.get? b = some o → s.heap.get? b = some o := fun b o e => (e0.bs b o e).1
  have KX : K.In s.heap := e0.mod.kin.keeps keepB
  have lim : s.heap.NoLimit := e0.mod.nolimit.keeps keepB
  have hkind : ∀ y ∈ ps.zip us, (defScope st).names.lookup y.1 = some .local ∨ ((defScope st).names.lookup y.1 = some .cell ∧ ((cellsFrom (s.heap.objs.size + 1) (defScope st).names []).lookup y.1).isSome = true) := by
    rintro ⟨n, v⟩ hy
    exact (S.par n (List.of_mem_zip hy).1).imp id fun q => ⟨q, PySem.W.cellsFrom_some _ _ _ (.inl q)⟩
  refine codeAny_call_function hr.depth (KX _ _ lk) rfl S.co S.gen rfl (PySem.W.codeRec_of KX hcd) (hb _ _ _ _ (wpAny_newFunctionEnv_cells S.kind hkind fun env he s1 z => ?_))
  subst he
  refine ⟨lim.keeps z.toInCall.keep, codeAny_func ?_⟩
  obtain ⟨t, ht, hq⟩ := hbody cdv A outer s H vs Q (hr.deeper _) hg hsp
  have I : L2.Inv (cxOf CX0 P w K mg base N qual (defScope st) f cdv A outer s H E0) [] (start N vs) H s1 := inv_start S hr.hd e0 hl r z
  refine wpAny_mono (ht.nox.run [] s1 (start N vs) H _ I hq) (fun fl s' hs => ?_) fun e s' hs => hs
  match fl, hs with
  | .ret u, hs =>
    obtain ⟨v, σ', H', J, rv, q⟩ := hs
    exact ⟨v, H', J.os, J.bare, J.base, J.hok, rv, q⟩
  | .next, hs =>
    obtain ⟨σ', H', J, q⟩ := hs
    exact ⟨.non, H', J.os, J.bare, J.base, J.hok, rfl, q⟩
  | .brk, hs => obtain ⟨_, _, _, q⟩ := hs; exact False.elim q
  | .cont, hs => obtain ⟨_, _, _, q⟩ := hs; exact False.elim q

/-! ### arguments: lent slots, own values, everybody's -/
inductive AO where
  | ls (i : Nat) | vl (x : Val)
def AO.cell (v : V) : AO → Cell
  | .ls _ => (some v, none)
  | .vl x => (some v, some x)
def AO.At (σ : L2.St) (v : V) : AO → Prop
  | .ls i => σ[i]? = some (some v)
  | .vl _ => True
inductive AOsAt (σ : L2.St) : List V → List AO → Prop
  | nil : AOsAt σ [] []
  | cons {v vs o os} : o.At σ v → AOsAt σ vs os → AOsAt σ (v :: vs) (o :: os)
def cellsA : List V → List AO → Lay
  | v :: vs, o :: os => o.cell v :: cellsA vs os
  | _, _ => []
abbrev WAs := EnvD → (List AO → EnvD → Prop) → Prop
abbrev WA1 := EnvD → (AO → EnvD → Prop) → Prop
section
variable (K : PySem.W.Frag) (mg : Str → Option Value)
def liftA1 (t : WA1) : TE := fun σ H Q => ∃ (oh : Pr) (τ : Lay) (env : EnvD) (P : AO → EnvD → Prop), σ.length = env.length ∧ StR K mg oh H (τ ++ σ.zip env) ∧ t env P ∧
  ∀ v o env' H', σ.length = env'.length → o.At σ v → StR K mg oh H' (o.cell v :: (τ ++ σ.zip env')) → Step (τ ++ σ.zip env) H (o.cell v :: (τ ++ σ.zip env')) H' → P o env' → Q v H'
def liftAs (t : WAs) : TA := fun σ H Q => ∃ (oh : Pr) (τ : Lay) (env : EnvD) (P : List AO → EnvD → Prop), σ.length = env.length ∧ StR K mg oh H (τ ++ σ.zip env) ∧ t env P ∧
  ∀ vs os env' H', σ.length = env'.length → AOsAt σ vs os → StR K mg oh H' (cellsA vs os ++ (τ ++ σ.zip env')) → Step (τ ++ σ.zip env) H (cellsA vs os ++ (τ ++ σ.zip env')) H' → P os env' → Q vs H'
end
/-- a slot is lent -/
def wLs (i : Nat) : WA1 := fun env P => (∃ x, env[i]? = some (some x)) ∧ P (.ls i) env
/-- a value that is the callee's own, where it is own -/
def wOwn (t : WE) : WA1 := fun env P => t env fun val env1 => P (.vl val) env1
/-- everybody's -/
def wFro (t : WE) : WA1 := fun env P => t env fun val env1 => P (.vl (fz val.d)) env1
def wAnil : WAs := fun env P => P [] env
def wAcons (t : WA1) (ts : WAs) : WAs := fun env P => t env fun o env1 => ts env1 fun os env2 => P (o :: os) env2
section
variable {X : Cx} {e : Expr} {es : List Expr} {pos : Pos} {i : Nat} {x : Str} {K : PySem.W.Frag} {mg : Str → Option Value}
theorem p1_ls (h : PE X (.Name x pos) (tVar i)) : PE X (.Name x pos) (liftA1 K mg (wLs i)) := by
  refine PEimp h fun σ H Q w => ?_
  obtain ⟨oh, τ, env, P, e0, S, ⟨⟨x, hx⟩, p⟩, k⟩ := w
  obtain ⟨v, hv, _⟩ := get_slot e0 S hx
  refine ⟨v, hv, k v (.ls i) env H e0 hv ?_ ?_ p⟩
  · exact S.less (fun c hc => (List.mem_cons.mp hc).imp (fun e => by rw [e]; rfl) id) (by show (roots ((some v, none) :: _)).Nodup; rw [roots_none]; exact S.nd)
  · exact Step.refl.lessR fun a ha => by
      have ha : a ∈ roots ((some v, none) :: (τ ++ σ.zip env)) := ha
      rw [roots_none] at ha; exact ha
theorem p1_own {t : WE} (h : PE X e (liftE K mg t)) : PE X e (liftA1 K mg (wOwn t)) := by
  refine PEimp h fun σ H Q w => ?_
  obtain ⟨oh, τ, env, P, e0, S, t1, k⟩ := w
  exact ⟨oh, τ, env, _, e0, S, t1, fun v val env' H' e1 S1 s1 p => k v (.vl val) env' H' e1 trivial S1 s1 p⟩
theorem p1_fro {t : WE} (h : PE X e (liftE K mg t)) : PE X e (liftA1 K mg (wFro t)) := by
  refine PEimp h fun σ H Q w => ?_
  obtain ⟨oh, τ, env, P, e0, S, t1, k⟩ := w
  exact ⟨oh, τ, env, _, e0, S, t1, fun v val env' H' e1 S1 s1 p => k v (.vl (fz val.d)) env' H' e1 trivial S1.freeze s1.freeze p⟩
theorem pas_nil : PA X [] (liftAs K mg wAnil) := PAimp pa_nil fun σ H Q w => by
  obtain ⟨oh, τ, env, P, e0, S, t, k⟩ := w
  exact k [] [] env H e0 .nil S Step.refl t
theorem pas_cons {t : WA1} {ts : WAs} (h : PE X e (liftA1 K mg t)) (hs : PA X es (liftAs K mg ts)) (hn : noStar e = true) : PA X (e :: es) (liftAs K mg (wAcons t ts)) := by
  refine PAimp (pa_cons h hs (star_of hn)) fun σ H Q w => ?_
  obtain ⟨oh, τ, env, P, e0, S, t, k⟩ := w
  refine ⟨oh, τ, env, _, e0, S, t, fun v o env1 H1 e1 a1 S1 s1 t1 => ?_⟩
  refine ⟨oh, o.cell v :: τ, env1, _, e1, S1, t1, fun vs os env2 H2 e2 a2 S2 s2 p => ?_⟩
  have hp : (cellsA vs os ++ (o.cell v :: τ ++ σ.zip env2)).Perm (cellsA (v :: vs) (o :: os) ++ (τ ++ σ.zip env2)) := by
    show (cellsA vs os ++ o.cell v :: (τ ++ σ.zip env2)).Perm (o.cell v :: (cellsA vs os ++ (τ ++ σ.zip env2)))
    exact List.perm_middle
  exact k (v :: vs) (o :: os) env2 H2 e2 (.cons a1 a2) (S2.perm hp) ((s1.trans s2).permR hp) p
end
/-- lend: the values that go in, what is left -/
def lendA : EnvD → List AO → Option (List Val × EnvD)
  | env, [] => some ([], env)
  | env, .vl x :: os => match lendA env os with
    | some r => some (x :: r.1, r.2)
    | none => none
  | env, .ls i :: os => match env[i]? with
    | some (some x) => match lendA (env.set i none) os with
      | some r => some (x :: r.1, r.2)
      | none => none
    | _ => none
/-- what was lent comes back -/
def giveA : EnvD → List AO → List Val → EnvD
  | env, .ls i :: os, x :: xs => giveA (env.set i (some x)) os xs
  | env, .vl _ :: os, _ :: xs => giveA env os xs
  | env, _, _ => env
theorem lendA_len : ∀ {os : List AO} {env : EnvD} {r : List Val × EnvD}, lendA env os = some r → r.1.length = os.length ∧ r.2.length = env.length
  | [], env, r, h => by cases h; exact ⟨rfl, rfl⟩
  | .vl x :: os, env, r, h => by
    simp only [lendA] at h
    split at h
    · rename_i r' e
      cases h
      obtain ⟨a, b⟩ := lendA_len e
      exact ⟨by simp [a], b⟩
    · cases h
  | .ls i :: os, env, r, h => by
    simp only [lendA] at h
    split at h
    · split at h
      · rename_i r' e
        cases h
        obtain ⟨a, b⟩ := lendA_len e
        exact ⟨by simp [a], by rw [b, List.length_set]⟩
      · cases h
    · cases h
theorem giveA_len : ∀ {os : List AO} {env : EnvD} {xs : List Val}, (giveA env os xs).length = env.length
  | [], env, xs => by cases xs <;> rfl
  | .vl x :: os, env, [] => rfl
  | .vl x :: os, env, y :: xs => giveA_len (os := os)
  | .ls i :: os, env, [] => rfl
  | .ls i :: os, env, y :: xs => by
    show (giveA (env.set i (some y)) os xs).length = _
    rw [giveA_len (os := os), List.length_set]
theorem cellsA_len {σ : L2.St} : ∀ {vs : List V} {os : List AO}, AOsAt σ vs os → vs.length = os.length
  | [], [], _ => rfl
  | _ :: _, _ :: _, .cons _ t => by rw [List.length_cons, List.length_cons, cellsA_len t]
theorem core_slot {σ : L2.St} {env : EnvD} (hl : σ.length = env.length) {i : Nat} {v : V} {x : Val} (h1 : σ[i]? = some (some v)) (h2 : env[i]? = some (some x)) :
    (core (σ.zip env)).Perm ((some v, some x) :: core (σ.zip (env.set i none))) := by
  obtain ⟨A, B, e1, e2⟩ := zip_split hl h1 h2
  have hset : σ.set i (some v) = σ := by
    obtain ⟨hi, he⟩ := List.getElem?_eq_some_iff.mp h1
    rw [← he]; exact List.set_getElem_self hi
  have e3 := e2 (some v) none
  rw [hset] at e3
  rw [e1, e3, core_append, core_append, core_cons_some, core_cons_none]
  exact List.perm_middle
theorem core_slotIn {σ : L2.St} {env : EnvD} (hl : σ.length = env.length) {i : Nat} {v : V} {x : Val} (h1 : σ[i]? = some (some v)) :
    ∃ E, ((some v, some x) :: core (σ.zip env)).Perm (core (σ.zip (env.set i (some x))) ++ E) := by
  obtain ⟨hi, _⟩ := List.getElem?_eq_some_iff.mp h1
  have h2 : env[i]? = some env[i] := List.getElem?_eq_getElem (by omega)
  obtain ⟨A, B, e1, e2⟩ := zip_split hl h1 h2
  have hset : σ.set i (some v) = σ := by
    obtain ⟨hi, he⟩ := List.getElem?_eq_some_iff.mp h1
    rw [← he]; exact List.set_getElem_self hi
  have e3 := e2 (some v) (some x)
  rw [hset] at e3
  rw [e1, e3, core_append, core_append, core_cons_some]
  cases env[i] with
  | none =>
    rw [core_cons_none]
    exact ⟨[], by rw [List.append_nil]; exact List.perm_middle.symm⟩
  | some y =>
    rw [core_cons_some]
    refine ⟨[(some v, some y)], ?_⟩
    refine List.Perm.trans (l₂ := (some v, some y) :: (some v, some x) :: (core A ++ core B)) ?_ ?_
    · exact (List.Perm.cons _ List.perm_middle).trans (List.Perm.swap _ _ _)
    · exact (List.Perm.cons _ List.perm_middle.symm).trans (List.perm_append_singleton _ _).symm
theorem lend_core {σ : L2.St} {R : Lay} : ∀ {vs : List V} {os : List AO} {env : EnvD} {r : List Val × EnvD}, σ.length = env.length → AOsAt σ vs os → lendA env os = some r →
    (core (cellsA vs os ++ (R ++ σ.zip env))).Perm (core (zipA vs r.1 ++ (R ++ σ.zip r.2)))
  | [], [], env, r, _, _, h => by cases h; exact List.Perm.refl _
  | v :: vs, .vl x :: os, env, r, hl, .cons a1 a2, h => by
    simp only [lendA] at h
    split at h
    · rename_i r' e
      cases h
      show (core ((some v, some x) :: (cellsA vs os ++ (R ++ σ.zip env)))).Perm (core ((some v, some x) :: (zipA vs r'.1 ++ (R ++ σ.zip r'.2))))
      rw [core_cons_some, core_cons_some]
      exact (lend_core hl a2 e).cons _
    · cases h
  | v :: vs, .ls i :: os, env, r, hl, .cons a1 a2, h => by
    simp only [lendA] at h
    split at h
    · rename_i x hx
      split at h
      · rename_i r' e
        cases h
        show (core ((some v, none) :: (cellsA vs os ++ (R ++ σ.zip env)))).Perm (core ((some v, some x) :: (zipA vs r'.1 ++ (R ++ σ.zip r'.2))))
        rw [core_cons_none, core_cons_some]
        refine List.Perm.trans ?_ ((lend_core (R := R) (by rw [List.length_set]; exact hl) a2 e).cons _)
        rw [core_append, core_append, core_append, core_append]
        refine ((List.Perm.append_left _ ((core_slot hl a1 hx).append_left _)).trans ?_)
        exact (List.Perm.append_left _ List.perm_middle).trans List.perm_middle
      · cases h
    · cases h
theorem give_core {σ : L2.St} {R : Lay} : ∀ {vs : List V} {os : List AO} {env : EnvD} {xs : List Val}, σ.length = env.length → AOsAt σ vs os → xs.length = os.length →
    ∃ E, (core (zipA vs xs ++ (R ++ σ.zip env))).Perm (core (R ++ σ.zip (giveA env os xs)) ++ E)
  | [], [], env, [], _, _, _ => ⟨[], by rw [List.append_nil]; exact List.Perm.refl _⟩
  | v :: vs, .vl x :: os, env, y :: xs, hl, .cons a1 a2, h => by
    obtain ⟨E, p⟩ := give_core (R := R) hl a2 (by simpa using h)
    refine ⟨(some v, some y) :: E, ?_⟩
    show (core ((some v, some y) :: (zipA vs xs ++ (R ++ σ.zip env)))).Perm (core (R ++ σ.zip (giveA env os xs)) ++ (some v, some y) :: E)
    rw [core_cons_some]
    exact (p.cons _).trans List.perm_middle.symm
  | v :: vs, .ls i :: os, env, y :: xs, hl, .cons a1 a2, h => by
    obtain ⟨E, p⟩ := give_core (R := R) (env := env.set i (some y)) (by rw [List.length_set]; exact hl) a2 (by simpa using h)
    obtain ⟨E2, p2⟩ := core_slotIn (x := y) hl a1
    refine ⟨E ++ E2, ?_⟩
    show (core ((some v, some y) :: (zipA vs xs ++ (R ++ σ.zip env)))).Perm (core (R ++ σ.zip (giveA (env.set i (some y)) os xs)) ++ (E ++ E2))
    rw [core_cons_some, core_append, core_append]
    refine List.Perm.trans ?_ ((p.append_right E2).trans (by rw [List.append_assoc]))
    rw [core_append, core_append]
    refine List.Perm.trans (l₂ := core (zipA vs xs) ++ (core R ++ ((some v, some y) :: core (σ.zip env)))) ?_ ?_
    · exact (List.perm_middle.symm).trans (List.Perm.append_left _ List.perm_middle.symm)
    · rw [List.append_assoc, List.append_assoc]
      exact List.Perm.append_left _ (List.Perm.append_left _ p2)

/-- f(..) -/
def wCallF (n : Nat) (t : DSpec) (ts : WAs) : WE := fun env P => ts env fun os env1 => ∃ r, lendA env1 os = some r ∧ os.length = n ∧ t r.1 fun val xs => P val (giveA r.2 os xs)
section
variable {K : PySem.W.Frag} {mg : Str → Option Value}
theorem callF_lift {n : Nat} {t : DSpec} {ts : WAs} {σ : L2.St} {H : Hp} {Q : VK} (h : liftE K mg (wCallF n t ts) σ H Q) : liftAs K mg ts σ H fun vs H1 => spT K mg n t vs H1 Q E0 := by
  obtain ⟨oh, τ, env, P, e0, S, t1, k⟩ := h
  refine ⟨oh, τ, env, _, e0, S, t1, fun vs os env1 H1 e1 a1 S1 s1 ⟨r, hr, hn, p⟩ => ?_⟩
  obtain ⟨l1, l2⟩ := lendA_len hr
  have cp := lend_core (R := τ) e1 a1 hr
  have S2 : StR K mg oh H1 (zipA vs r.1 ++ (τ ++ σ.zip r.2)) := S1.core (E := []) (by rw [List.append_nil]; exact cp)
  have s2 : Step (τ ++ σ.zip env) H (zipA vs r.1 ++ (τ ++ σ.zip r.2)) H1 := s1.coreR (E := []) (by rw [List.append_nil]; exact cp)
  refine ⟨hotL oh (τ ++ σ.zip r.2), r.1, _, by rw [cellsA_len a1]; exact hn, by rw [l1]; exact hn, S2.split, p, fun v val xs H2 hx S3 s3 q => ?_⟩
  have S4 : StR K mg oh H2 (((some v, some val) :: zipA vs xs) ++ (τ ++ σ.zip r.2)) := StR.frame S2 S3 s3
  have s4 : Step (τ ++ σ.zip env) H (((some v, some val) :: zipA vs xs) ++ (τ ++ σ.zip r.2)) H2 := s2.trans s3.frame
  obtain ⟨E, cq⟩ := give_core (R := τ) (σ := σ) (env := r.2) (by rw [l2]; exact e1) a1 (show xs.length = os.length by rw [hx, hn])
  have cr : (core (((some v, some val) :: zipA vs xs) ++ (τ ++ σ.zip r.2))).Perm (core ((some v, some val) :: (τ ++ σ.zip (giveA r.2 os xs))) ++ E) := by
    show (core ((some v, some val) :: (zipA vs xs ++ (τ ++ σ.zip r.2)))).Perm _
    rw [core_cons_some, core_cons_some]
    exact cq.cons _
  exact k v val _ H2 (by rw [giveA_len, l2]; exact e1) (S4.core cr) (s4.coreR cr) q
end
end TL

/-! T8: targets, statements, loops -/
namespace TL
open PySem PySem.Spec PyProof.Rows L2

/-! ### targets -/
abbrev WG := Val → EnvD → (EnvD → Prop) → Prop
abbrev WGs := List D → EnvD → (EnvD → Prop) → Prop
def LentEq (lent : List Nat) (σ σ' : L2.St) : Prop := ∀ i ∈ lent, σ'[i]? = σ[i]?
theorem LentEq.refl {l : List Nat} {σ : L2.St} : LentEq l σ σ := fun _ _ => rfl
theorem LentEq.trans {l : List Nat} {σ σ' σ'' : L2.St} (a : LentEq l σ σ') (b : LentEq l σ' σ'') : LentEq l σ σ'' := fun i h => (b i h).trans (a i h)
section
variable (K : PySem.W.Frag) (mg : Str → Option Value) (lent : List Nat)
def liftG (g : WG) : TG := fun v σ H Q => ∃ (oh : Pr) (τ : Lay) (env : EnvD) (val : Val) (P : EnvD → Prop), σ.length = env.length ∧ StR K mg oh H ((some v, some val) :: (τ ++ σ.zip env)) ∧ g val env P ∧
  ∀ σ' env' H', σ'.length = env'.length → σ'.length = σ.length → LentEq lent σ σ' → StR K mg oh H' (τ ++ σ'.zip env') → Step ((some v, some val) :: (τ ++ σ.zip env)) H (τ ++ σ'.zip env') H' → P env' → Q σ' H'
def liftGs (g : WGs) : TGs := fun vs σ H Q => ∃ (oh : Pr) (τ : Lay) (env : EnvD) (ds : List D) (P : EnvD → Prop), σ.length = env.length ∧ StR K mg oh H (τ ++ σ.zip env) ∧ Reps K mg (hotL oh (τ ++ σ.zip env)) H vs ds ∧ g ds env P ∧
  ∀ σ' env' H', σ'.length = env'.length → σ'.length = σ.length → LentEq lent σ σ' → StR K mg oh H' (τ ++ σ'.zip env') → Step (τ ++ σ.zip env) H (τ ++ σ'.zip env') H' → P env' → Q σ' H'
end
theorem PGimp {X : Cx} {e : Expr} {t t' : TG} (h : PG X e t) (q : ∀ v σ H Q, t' v σ H Q → t v σ H Q) : PG X e t' := ⟨fun pins s σ H v u Q I r w => h.run pins s σ H v u Q I r (q v σ H Q w)⟩
theorem PGsimp {X : Cx} {e : List Expr} {t t' : TGs} (h : PGs X e t) (q : ∀ v σ H Q, t' v σ H Q → t v σ H Q) : PGs X e t' := ⟨fun pins s σ H v u Q I r w => h.run pins s σ H v u Q I r (q v σ H Q w)⟩
theorem PG.or {X : Cx} {e : Expr} {t t' : TG} (h : PG X e t) (h' : PG X e t') : PG X e (fun v σ H Q => t v σ H Q ∨ t' v σ H Q) :=
  ⟨fun pins s σ H v u Q I r w => w.elim (h.run pins s σ H v u Q I r) (h'.run pins s σ H v u Q I r)⟩
def gwName (i : Nat) : WG := fun val env P => i < env.length ∧ P (env.set i (some val))
def gwTup (n : Nat) (g : WGs) : WG := fun val env P => ∃ ds, (val.d = .tup ds ∨ val.d = .lst ds ∨ val.d = .lse ds) ∧ ds.length = n ∧ g ds env P
def gwNil : WGs := fun ds env P => ds = [] ∧ P env
def gwCons (g : WG) (gs : WGs) : WGs := fun ds env P => ∃ d r, ds = d :: r ∧ g (fz d) env fun env1 => gs r env1 P
theorem Step.coreL' {L L' L2 : Lay} {H H' : Hp} (s : Step L H L' H') (h : roots L = roots L2) : Step L2 H L' H' :=
  ⟨fun a o e n => s.keep a o e fun z => n (h ▸ z), fun a ha => (s.sub a ha).imp (fun z => h ▸ z) id, s.dom⟩
theorem hot_fro {oh : Pr} {so : Option V} {d : D} {L : Lay} : hotL oh ((so, some (fz d)) :: L) = hotL oh L := by unfold hotL; rw [roots_fro]
section
variable {K : PySem.W.Frag} {mg : Str → Option Value} {lent : List Nat} {X : Cx}
theorem gname_lift {i : Nat} (hi : i ∉ lent) {v : V} {σ : L2.St} {H : Hp} {Q : L2.St → Hp → Prop} (h : liftG K mg lent (gwName i) v σ H Q) : gName i v σ H Q := by
  obtain ⟨oh, τ, env, val, P, e0, S, ⟨hl, p⟩, k⟩ := h
  have h1 : σ[i]? = some σ[i] := List.getElem?_eq_getElem (by omega)
  have h2 : env[i]? = some env[i] := List.getElem?_eq_getElem hl
  obtain ⟨A, B, e1, e2⟩ := zip_split e0 h1 h2
  have e3 := e2 (some v) (some val)
  have hp : (τ ++ (σ.set i (some v)).zip (env.set i (some val))).Perm ((some v, some val) :: (τ ++ (A ++ B))) := by rw [e3]; exact perm_mid
  have S1 : StR K mg oh H ((some v, some val) :: (τ ++ (A ++ B))) := by
    refine S.less (fun c hc => .inr ?_) ?_
    · rcases List.mem_cons.mp hc with rfl | hc
      · exact List.mem_cons_self
      · refine List.mem_cons_of_mem _ ?_
        rw [e1]
        rcases List.mem_append.mp hc with z | z
        · exact List.mem_append_left _ z
        · exact List.mem_append_right _ ((List.mem_append.mp z).elim (List.mem_append_left _) fun z => List.mem_append_right _ (List.mem_cons_of_mem _ z))
    · have nd := S.nd
      rw [e1] at nd
      refine nd.sublist ?_
      exact roots_sublist (List.Sublist.cons_cons _ (List.Sublist.append_left (List.Sublist.append_left (List.sublist_cons_self _ _) _) _))
  refine k _ _ H (by rw [List.length_set, List.length_set]; exact e0) (List.length_set ..) (fun j hj => ?_) (S1.perm hp.symm) ?_ p
  · exact List.getElem?_set_ne (fun z => hi (by rw [z]; exact hj))
  · refine Step.refl.lessR fun a ha => ?_
    have h3 := (roots_perm hp).mp ha
    rw [e1]
    obtain ⟨c, hc, hr⟩ := mem_roots.mp h3
    refine mem_roots.mpr ⟨c, ?_, hr⟩
    rcases List.mem_cons.mp hc with rfl | hc
    · exact List.mem_cons_self
    · refine List.mem_cons_of_mem _ ?_
      rcases List.mem_append.mp hc with z | z
      · exact List.mem_append_left _ z
      · exact List.mem_append_right _ ((List.mem_append.mp z).elim (List.mem_append_left _) fun z => List.mem_append_right _ (List.mem_cons_of_mem _ z))
theorem pgs_nilD : PGs X [] (liftGs K mg lent gwNil) := PGsimp pgs_nil fun vs σ H Q h => by
  obtain ⟨oh, τ, env, ds, P, e0, S, r, ⟨hd, p⟩, k⟩ := h
  subst hd
  cases r
  exact ⟨rfl, k σ env H e0 rfl .refl S Step.refl p⟩
def noStarT : Expr → Bool
  | .Starred _ _ => false
  | _ => true
theorem assign_of {e : Expr} {es : List Expr} {env : Env} (h : noStar e = true) : (assignEach (e :: es) env) = (false, assign e env) :: assignEach es env := by
  cases e <;> first | rfl | cases h
theorem pgs_consD {e : Expr} {es : List Expr} {g : WG} {gs : WGs} (h1 : PG X e (liftG K mg lent g)) (h2 : PGs X es (liftGs K mg lent gs)) (hn : noStar e = true) : PGs X (e :: es) (liftGs K mg lent (gwCons g gs)) := by
  refine PGsimp (pgs_cons h1 h2 (by rw [assign_of hn]; rfl)) fun vs σ H Q h => ?_
  obtain ⟨oh, τ, env, ds, P, e0, S, r, ⟨d, dr, hd, p⟩, k⟩ := h
  subst hd
  cases r with
  | cons r1 r2 =>
    rename_i v vr
    refine ⟨v, vr, rfl, oh, τ, env, fz d, _, e0, S.push (StR.one_fro (fun a ha => S.hot_there ha) r1) Step.one_fro, p, fun σ1 env1 H1 e1 l1 t1 S1 s1 q => ?_⟩
    have s1' : Step (τ ++ σ.zip env) H (τ ++ σ1.zip env1) H1 := s1.coreL' (by rw [roots_fro])
    have kp : Keeps (hotL oh (τ ++ σ.zip env)) (hotL oh (τ ++ σ1.zip env1)) H H1 := by
      have := s1'.keeps (oh := oh) (B := [])
      rw [List.append_nil, List.append_nil] at this
      exact this
    exact ⟨oh, τ, env1, dr, P, e1, S1, r2.mono kp, q, fun σ2 env2 H2 e2 l2 t2 S2 s2 q2 => k σ2 env2 H2 e2 (l2.trans l1) (t1.trans t2) S2 (s1'.trans s2) q2⟩
theorem noStars_find {es : List Expr} {env : Env} (h : es.all noStar = true) : (assignEach es env).findIdx? (·.1) = none ∧ (assignEach es env).length = es.length := by
  induction es with
  | nil => exact ⟨rfl, rfl⟩
  | cons e es ih =>
    rw [List.all_cons, Bool.and_eq_true] at h
    obtain ⟨a, b⟩ := ih h.2
    rw [assign_of h.1]
    exact ⟨by rw [List.findIdx?_cons]; simp [a], by rw [List.length_cons, List.length_cons, b]⟩
theorem pg_tupD {es : List Expr} {k : Nat} {pos : Pos} {gs : WGs} (hc : X.calm = true) (h : PGs X es (liftGs X.K mg lent gs)) (hn : es.all noStar = true) : PG X (.Tuple es k pos) (liftG X.K mg lent (gwTup es.length gs)) := by
  obtain ⟨f1, f2⟩ := noStars_find (env := X.env) hn
  refine PGimp (PG.or (pg_tup hc h f2 f1) (pg_unl hc h f2 f1)) fun v σ H Q w => ?_
  obtain ⟨oh, τ, env, val, P, e0, S, ⟨ds, hd, hl, p⟩, k⟩ := w
  have S0 := S.freeze
  have fin : ∀ {vs : List V}, Reps X.K mg (hotL oh (τ ++ σ.zip env)) H vs ds → liftGs X.K mg lent gs vs σ H Q := fun r =>
    ⟨oh, τ, env, ds, P, e0, S.tail, r, p, fun σ1 env1 H1 e1 l1 t1 S1 s1 q => k σ1 env1 H1 e1 l1 t1 S1 (Step.trans (Step.refl.lessR fun a ha => roots_cons_sub a ha) s1) q⟩
  have r0 := S0.head_fro
  rcases hd with hd | hd | hd
  · rw [hd] at r0
    cases r0 with
    | tup ht rs => exact .inl ⟨_, _, rfl, ht.sq, by rw [rs.length]; exact hl, fin rs⟩
  · rw [hd] at r0
    cases r0 with
    | lst ht rs => exact .inr ⟨_, _, rfl, ht.sq, by rw [rs.length]; exact hl, fin rs⟩
  · rw [hd] at r0
    cases r0 with
    | lse hn ht rs => exact .inl ⟨_, _, rfl, .inl ht, by rw [rs.length]; exact hl, fin rs⟩
end

/-! ### statements -/
inductive Out where
  | nx | bk | ct | rt (v : Val)
abbrev WS := EnvD → (Out → EnvD → Prop) → Prop
section
variable (K : PySem.W.Frag) (mg : Str → Option Value) (lent : List Nat)
structure SEnd (oh : Pr) (σ : L2.St) (env : EnvD) (H : Hp) (P : Out → EnvD → Prop) (Y : Ends) : Prop where
  nx : ∀ σ' env' H', σ'.length = env'.length → σ'.length = σ.length → LentEq lent σ σ' → StR K mg oh H' (σ'.zip env') → Step (σ.zip env) H (σ'.zip env') H' → P .nx env' → Y.nx σ' H'
  bk : ∀ σ' env' H', σ'.length = env'.length → σ'.length = σ.length → LentEq lent σ σ' → StR K mg oh H' (σ'.zip env') → Step (σ.zip env) H (σ'.zip env') H' → P .bk env' → Y.bk σ' H'
  ct : ∀ σ' env' H', σ'.length = env'.length → σ'.length = σ.length → LentEq lent σ σ' → StR K mg oh H' (σ'.zip env') → Step (σ.zip env) H (σ'.zip env') H' → P .ct env' → Y.ct σ' H'
  rt : ∀ v val σ' env' H', σ'.length = env'.length → σ'.length = σ.length → LentEq lent σ σ' → StR K mg oh H' ((some v, some val) :: σ'.zip env') → Step (σ.zip env) H ((some v, some val) :: σ'.zip env') H' → P (.rt val) env' → Y.rt v H'
def liftS (t : WS) : TS := fun Y σ H => ∃ (oh : Pr) (env : EnvD) (P : Out → EnvD → Prop), σ.length = env.length ∧ StR K mg oh H (σ.zip env) ∧ t env P ∧ SEnd K mg lent oh σ env H P Y
end
section
variable {K : PySem.W.Frag} {mg : Str → Option Value} {lent : List Nat} {X : Cx} {oh : Pr} {σ σ1 : L2.St} {env env1 : EnvD} {H H1 : Hp} {P : Out → EnvD → Prop} {Y : Ends}
theorem SEnd.after (k : SEnd K mg lent oh σ env H P Y) (l : σ1.length = σ.length) (t : LentEq lent σ σ1) (s : Step (σ.zip env) H (σ1.zip env1) H1) : SEnd K mg lent oh σ1 env1 H1 P Y :=
  ⟨fun σ' env' H' e1 e2 e3 S e4 p => k.nx σ' env' H' e1 (e2.trans l) (t.trans e3) S (s.trans e4) p, fun σ' env' H' e1 e2 e3 S e4 p => k.bk σ' env' H' e1 (e2.trans l) (t.trans e3) S (s.trans e4) p,
    fun σ' env' H' e1 e2 e3 S e4 p => k.ct σ' env' H' e1 (e2.trans l) (t.trans e3) S (s.trans e4) p, fun v val σ' env' H' e1 e2 e3 S e4 p => k.rt v val σ' env' H' e1 (e2.trans l) (t.trans e3) S (s.trans e4) p⟩
def wsNil : WS := fun env P => P .nx env
def wsSeq (t u : WS) : WS := fun env P => t env fun o env1 => match o with
  | .nx => u env1 P
  | o => P o env1
theorem seq_lift {t u : WS} (h : liftS K mg lent (wsSeq t u) Y σ H) : tSeq (liftS K mg lent t) (liftS K mg lent u) Y σ H := by
  obtain ⟨oh, env, P, e0, S, t1, k⟩ := h
  exact ⟨oh, env, _, e0, S, t1, fun σ' env' H' e1 e2 e3 S' s' p => ⟨oh, env', P, e1, S', p, k.after e2 e3 s'⟩, fun σ' env' H' e1 e2 e3 S' s' p => k.bk σ' env' H' e1 e2 e3 S' s' p,
    fun σ' env' H' e1 e2 e3 S' s' p => k.ct σ' env' H' e1 e2 e3 S' s' p, fun v val σ' env' H' e1 e2 e3 S' s' p => k.rt v val σ' env' H' e1 e2 e3 S' s' p⟩
theorem nil_lift (h : liftS K mg lent wsNil Y σ H) : tNext Y σ H := by
  obtain ⟨oh, env, P, e0, S, t1, k⟩ := h
  exact k.nx σ env H e0 rfl .refl S Step.refl t1
def wsBk : WS := fun env P => P .bk env
def wsCt : WS := fun env P => P .ct env
theorem bk_lift (h : liftS K mg lent wsBk Y σ H) : tBreak Y σ H := by
  obtain ⟨oh, env, P, e0, S, t1, k⟩ := h
  exact k.bk σ env H e0 rfl .refl S Step.refl t1
theorem ct_lift (h : liftS K mg lent wsCt Y σ H) : tCont Y σ H := by
  obtain ⟨oh, env, P, e0, S, t1, k⟩ := h
  exact k.ct σ env H e0 rfl .refl S Step.refl t1
def wsIf (c : WT) (t u : WS) : WS := fun env P => c env fun b env1 => if b then t env1 P else u env1 P
theorem ifS_lift {c : WT} {t u : WS} (h : liftS K mg lent (wsIf c t u) Y σ H) : tIfS (liftT K mg c) (liftS K mg lent t) (liftS K mg lent u) Y σ H := by
  obtain ⟨oh, env, P, e0, S, t1, k⟩ := h
  refine ⟨oh, [], env, _, e0, S, t1, fun b env1 H1 e1 S1 s1 p => ?_⟩
  have k' : SEnd K mg lent oh σ env1 H1 P Y := k.after rfl .refl s1
  cases b with
  | true => exact iteT ⟨oh, env1, P, e1, S1, p, k'⟩
  | false => exact iteF ⟨oh, env1, P, e1, S1, p, k'⟩
def wsAsg (t : WE) (g : WG) : WS := fun env P => t env fun val env1 => g val env1 fun env2 => P .nx env2
theorem asg_lift {t : WE} {g : WG} (h : liftS K mg lent (wsAsg t g) Y σ H) : tAsg (liftE K mg t) (liftG K mg lent g) Y σ H := by
  obtain ⟨oh, env, P, e0, S, t1, k⟩ := h
  refine ⟨oh, [], env, _, e0, S, t1, fun v val env1 H1 e1 S1 s1 p => ⟨oh, [], env1, val, _, e1, S1, p, fun σ2 env2 H2 e2 l2 q2 S2 s2 p2 => ?_⟩⟩
  exact k.nx σ2 env2 H2 e2 l2 q2 S2 (s1.trans s2) p2
def wsExp (t : WE) : WS := fun env P => t env fun _ env1 => P .nx env1
theorem exp_lift {t : WE} (h : liftS K mg lent (wsExp t) Y σ H) : tDrop (liftE K mg t) Y σ H := by
  obtain ⟨oh, env, P, e0, S, t1, k⟩ := h
  refine ⟨oh, [], env, _, e0, S, t1, fun v val env1 H1 e1 S1 s1 p => k.nx σ env1 H1 e1 rfl .refl S1.tail (s1.lessR fun a ha => roots_cons_sub a ha) p⟩
def wsRet (t : WE) : WS := fun env P => t env fun val env1 => P (.rt val) env1
theorem ret_lift {t : WE} (h : liftS K mg lent (wsRet t) Y σ H) : tRet (liftE K mg t) Y σ H := by
  obtain ⟨oh, env, P, e0, S, t1, k⟩ := h
  exact ⟨oh, [], env, _, e0, S, t1, fun v val env1 H1 e1 S1 s1 p => k.rt v val σ env1 H1 e1 rfl .refl S1 s1 p⟩
/-- return x: what x owns goes along -/
def wsRetV (i : Nat) : WS := fun env P => ∃ x, env[i]? = some (some x) ∧ P (.rt x) (env.set i none)
theorem retV_lift {i : Nat} (h : liftS K mg lent (wsRetV i) Y σ H) : tRet (tVar i) Y σ H := by
  obtain ⟨oh, env, P, e0, S, ⟨x, hx, p⟩, k⟩ := h
  obtain ⟨v, hv, _⟩ := get_slot (τ := []) e0 S hx
  have cp := core_slot e0 hv hx
  have c2 : (core (σ.zip env)).Perm (core ((some v, some x) :: σ.zip (env.set i none)) ++ []) := by rw [List.append_nil, core_cons_some]; exact cp
  exact ⟨v, hv, k.rt v x σ _ H (by rw [List.length_set]; exact e0) rfl .refl (S.core c2) (Step.refl.coreR c2) p⟩
def wsRetN : WS := fun env P => P (.rt (fz .non)) env
theorem retN_lift (h : liftS K mg lent wsRetN Y σ H) : tRetN Y σ H := by
  obtain ⟨oh, env, P, e0, S, t1, k⟩ := h
  exact k.rt .non (fz .non) σ env H e0 rfl .refl (S.push (StR.one_fro (fun a ha => S.hot_there ha) .non) Step.one_fro) Step.one_fro.push t1
/-- x[i] = e of an own list -/
def wsSetI (i : Nat) (tv ti : WE) : WS := fun env P => tv env fun val env1 => (∃ x, env1[i]? = some (some x)) ∧ ti env1 fun iv env2 => ∃ ds j k, env2[i]? = some (some ⟨true, .lst ds⟩) ∧ iv.d = .int j ∧ ixN ds.length j = some k ∧ P .nx (env2.set i (some ⟨true, .lst (ds.set k val.d)⟩))
theorem VR.to_int {hot : Pr} {v : V} {val : Val} {i : Int} (r : VR K mg hot H v val) (e : val.d = .int i) : v = .int i := by
  cases r with
  | fro r => subst e; cases r; rfl
  | lst _ _ _ => cases e
  | dicK _ _ _ _ => cases e
  | boxT _ _ _ => cases e
  | boxL _ _ _ => cases e
  | boxD _ _ _ _ => cases e
theorem own_lst {hot : Pr} {v : V} {ds : List D} (r : VR K mg hot H v ⟨true, .lst ds⟩) : ∃ a vs, v = .ref a ∧ hot a ∧ H a = some (.lst vs) ∧ Reps K mg hot H vs ds := by
  cases r with
  | lst h1 h2 h3 => exact ⟨_, _, rfl, h1, h2, h3⟩
/-- an own slot's list is changed in place -/
theorem slot_put {τ : Lay} {i : Nat} {ds es : List D} (e0 : σ.length = env.length) (S : StR K mg oh H (τ ++ σ.zip env)) (hx : env[i]? = some (some ⟨true, .lst ds⟩)) :
    ∃ a vs, σ[i]? = some (some (.ref a)) ∧ H a = some (.lst vs) ∧ Reps K mg (hotL oh (τ ++ σ.zip env)) H vs ds ∧ ∀ ws, Reps K mg (hotL oh (τ ++ σ.zip env)) H ws es →
      StR K mg oh (upd H a (.lst ws)) (τ ++ σ.zip (env.set i (some ⟨true, .lst es⟩))) ∧ Step (τ ++ σ.zip env) H (τ ++ σ.zip (env.set i (some ⟨true, .lst es⟩))) (upd H a (.lst ws)) := by
  obtain ⟨v, hv, r⟩ := get_slot e0 S hx
  obtain ⟨a, vs, rfl, _, h2, h3⟩ := own_lst r
  refine ⟨a, vs, hv, h2, h3, fun ws rw' => ?_⟩
  obtain ⟨A, B, e1, e2⟩ := zip_split e0 hv hx
  have hset : σ.set i (some (.ref a)) = σ := by
    obtain ⟨hi, he⟩ := List.getElem?_eq_some_iff.mp hv
    rw [← he]; exact List.set_getElem_self hi
  have e3 := e2 (some (.ref a)) (some ⟨true, .lst es⟩)
  rw [hset] at e3
  have p1 : (τ ++ σ.zip env).Perm ((some (.ref a), some ⟨true, .lst ds⟩) :: (τ ++ (A ++ B))) := by rw [e1]; exact perm_mid
  have p2 : (τ ++ σ.zip (env.set i (some ⟨true, .lst es⟩))).Perm ((some (.ref a), some ⟨true, .lst es⟩) :: (τ ++ (A ++ B))) := by rw [e3]; exact perm_mid
  have eh : hotL oh (τ ++ σ.zip env) = hotL oh ((some (.ref a), some ⟨true, .lst ds⟩) :: (τ ++ (A ++ B))) := by
    funext b
    apply propext
    unfold hotL
    rw [roots_perm p1]
  rw [eh] at rw'
  obtain ⟨S2, s2⟩ := (S.perm p1).put_lst rw'
  exact ⟨S2.perm p2.symm, (s2.permL p1.symm).permR p2.symm⟩
theorem setI_lift {i : Nat} {tv ti : WE} (h : liftS K mg lent (wsSetI i tv ti) Y σ H) : tAsg (liftE K mg tv) (gSub (tVar i) (liftE K mg ti) rSetL) Y σ H := by
  obtain ⟨oh, env, P, e0, S, t1, k⟩ := h
  refine ⟨oh, [], env, _, e0, S, t1, fun v val env1 H1 e1 S1 s1 ⟨⟨x0, hx0⟩, t2⟩ => ?_⟩
  have S1f := S1.freeze
  have s1f := s1.freeze
  obtain ⟨w, hw, _⟩ := get_slot (τ := []) e1 S1.tail hx0
  refine ⟨w, hw, oh, [(some v, some (fz val.d))], env1, _, e1, S1f, t2, fun vi iv env2 H2 e2 S2 s2 ⟨ds, j, kk, hx, hj, hk, p⟩ => ?_⟩
  obtain ⟨a, vs, ha, h2, h3, put⟩ := slot_put (es := ds.set kk val.d) e2 S2.tail hx
  rw [hw] at ha
  cases ha
  have rv : Rep K mg (hotL oh ([(some v, some (fz val.d))] ++ σ.zip env2)) H2 v val.d := by
    have := S2.tail.head_fro
    rw [show ([(some v, some (fz val.d))] ++ σ.zip env2 : Lay) = (some v, some (fz val.d)) :: σ.zip env2 from rfl, hot_fro]
    exact this
  obtain ⟨S3, s3⟩ := put _ (h3.set rv kk)
  refine ⟨a, vs, j, kk, rfl, S2.head.to_int hj, h2, by rw [h3.length]; exact hk, ?_⟩
  refine k.nx σ _ _ (by rw [List.length_set]; exact e2) rfl .refl S3.tail ?_ p
  have s12 : Step (σ.zip env) H ([(some v, some (fz val.d))] ++ σ.zip env2) H2 := (s1f.trans s2).lessR fun a ha => roots_cons_sub a ha
  exact (s12.trans s3).lessR fun a ha => roots_cons_sub a ha
end
end TL

/-! T9: loops, comprehensions, append -/
namespace TL
open PySem PySem.Spec PyProof.Rows L2

/-! ### what is walked -/
abbrev WI := EnvD → (List D → EnvD → Prop) → Prop
structure ItemsOk (K : PySem.W.Frag) (mg : Str → Option Value) (hot0 : Pr) (H0 : Hp) (J : It) (ds : List D) : Prop where
  turn : ∀ (hot : Pr) (H : Hp) (i : Nat) (d : D), Keeps hot0 hot H0 H → (∀ a, hot a → H a ≠ none) → ds[i]? = some d →
    J.go i H ∧ ∀ x H', J.yld i H x H' → StR K mg hot H' [(some x, some (fz d))] ∧ Step [] H [(some x, some (fz d))] H'
  stop : ∀ (hot : Pr) (H : Hp) (i : Nat), Keeps hot0 hot H0 H → ds.length ≤ i → J.stop i H
def liftI (K : PySem.W.Frag) (mg : Str → Option Value) (t : WI) : TI := fun σ H R => ∃ (oh : Pr) (τ : Lay) (env : EnvD) (P : List D → EnvD → Prop), σ.length = env.length ∧ StR K mg oh H (τ ++ σ.zip env) ∧ t env P ∧
  ∀ ds env' H' J, σ.length = env'.length → StR K mg oh H' (τ ++ σ.zip env') → Step (τ ++ σ.zip env) H (τ ++ σ.zip env') H' → ItemsOk K mg (hotL oh (τ ++ σ.zip env')) H' J ds → P ds env' → R J H'
theorem PIimp {X : Cx} {tg e : Expr} {t t' : TI} (h : PI X tg e t) (q : ∀ σ H R, t' σ H R → t σ H R) : PI X tg e t' := ⟨fun pins s σ H R I w => h.run pins s σ H R I (q σ H R w)⟩
/-- a list or a tuple walked -/
def iSeq (K : PySem.W.Frag) (tl : TE) : TI := fun σ H R => tl σ H fun x H1 => (∃ a, x = .ref a ∧ (∃ xs, SqL K H1 a xs) ∧ R (Itl K a) H1) ∨ ∃ a, x = .ref a ∧ (∃ xs, SqT K H1 a xs) ∧ R (Itt K a) H1
theorem pi_seq {X : Cx} {tg l : Expr} {tl : TE} (hl : PE X l tl) : PI X tg l (iSeq X.K tl) := by
  refine ⟨fun pins s σ H R I h => thn (hl.run pins s σ H _ I h) fun v s1 ⟨x, H1, I1, r1, q1⟩ => ?_⟩
  have fresh : ∀ b ∈ [s1.heap.objs.size], FpOk X pins H1 b := fun b hb => by
    obtain rfl := List.mem_singleton.mp hb
    exact I1.fpOk (Nat.le_refl _) (I1.hok.fresh (Nat.le_refl _))
  rcases q1 with ⟨a, rfl, ⟨xs, hq⟩, q⟩ | ⟨a, rfl, ⟨xs, hq⟩, q⟩
  · cases r1
    obtain ⟨its, rv, p, hz⟩ := I1.list hq
    exact wpAny_pyIter_list p.isList ⟨s1.heap.objs.size, [s1.heap.objs.size], _, _, H1, rfl, I1.kept (t' := s1.toks) fun b o e => Heap.get?_push_of_some _ e, turn_list a _, ⟨_, Heap.get?_push_size _ rfl, rfl, rfl⟩, fresh, q⟩
  · cases r1
    obtain ⟨its, rv, p, hz⟩ := I1.tuple hq
    exact wpAny_pyIter_tuple (show s1.heap.IsTuple a its.toArray from p) ⟨s1.heap.objs.size, [s1.heap.objs.size], _, _, H1, rfl, I1.kept (t' := s1.toks) fun b o e => Heap.get?_push_of_some _ e, turn_tuple a _, ⟨_, Heap.get?_push_size _ rfl, rfl, rfl⟩, fresh, q⟩
section
variable {K : PySem.W.Frag} {mg : Str → Option Value} {hot : Pr} {H : Hp} {X : Cx}

theorem items_lst {a : Addr} {vs : List V} {ds : List D} (h : LsF K hot H a vs) (r : Reps K mg hot H vs ds) : ItemsOk K mg hot H (Itl K a) ds where
  turn := fun hot' H' i d kp hh hd => by
    have h' := (kp.ls h).sq
    obtain ⟨v, hv, rv⟩ := r.get hd
    refine ⟨⟨vs, v, h', hv⟩, fun x H2 y => ?_⟩
    obtain ⟨rfl, y⟩ := y
    have e := y vs h'
    rw [hv] at e
    cases e
    exact ⟨StR.one_fro hh (rv.mono kp), Step.one_fro⟩
  stop := fun hot' H' i kp hi => ⟨vs, (kp.ls h).sq, by rw [r.length]; exact hi⟩
theorem items_tup {a : Addr} {vs : List V} {ds : List D} (h : TpF K hot H a vs) (r : Reps K mg hot H vs ds) : ItemsOk K mg hot H (Itt K a) ds where
  turn := fun hot' H' i d kp hh hd => by
    have h' := (kp.tp h).sq
    obtain ⟨v, hv, rv⟩ := r.get hd
    refine ⟨⟨vs, v, h', hv⟩, fun x H2 y => ?_⟩
    obtain ⟨rfl, y⟩ := y
    have e := y vs h'
    rw [hv] at e
    cases e
    exact ⟨StR.one_fro hh (rv.mono kp), Step.one_fro⟩
  stop := fun hot' H' i kp hi => ⟨vs, (kp.tp h).sq, by rw [r.length]; exact hi⟩
def rngD (lo : Int) (n : Nat) : List D := (List.range n).map fun (i : Nat) => D.int (lo + i)
theorem items_rng {lo : Int} {n : Nat} : ItemsOk K mg hot H (Itr lo n) (rngD lo n) where
  turn := fun hot' H' i d kp hh hd => by
    unfold rngD at hd
    rw [List.getElem?_map] at hd
    obtain ⟨j, hj, rfl⟩ := Option.map_eq_some_iff.mp hd
    obtain ⟨h1, h2⟩ := List.getElem?_eq_some_iff.mp hj
    rw [List.getElem_range] at h2
    subst h2
    refine ⟨(by show i < n; simpa using h1), fun x H2 y => ?_⟩
    obtain ⟨rfl, rfl⟩ := y
    exact ⟨StR.one_fro hh (.int _), Step.one_fro⟩
  stop := fun hot' H' i kp hi => by
    unfold rngD at hi
    rw [List.length_map, List.length_range] at hi
    exact hi
def enumD (xs : List D) : List D := (List.range xs.length).map fun (i : Nat) => D.lse [.int i, xs.getD i .non]
theorem enumD_get {xs : List D} {i : Nat} {d : D} (h : (enumD xs)[i]? = some d) : ∃ x, xs[i]? = some x ∧ d = .lse [.int i, x] := by
  unfold enumD at h
  rw [List.getElem?_map] at h
  obtain ⟨j, hj, rfl⟩ := Option.map_eq_some_iff.mp h
  obtain ⟨h1, h2⟩ := List.getElem?_eq_some_iff.mp hj
  rw [List.getElem_range] at h2
  subst h2
  have h3 : i < xs.length := by simpa using h1
  exact ⟨xs[i], List.getElem?_eq_getElem h3, by rw [List.getD_eq_getElem?_getD, List.getElem?_eq_getElem h3]; rfl⟩
theorem items_enum {a : Addr} {vs : List V} {ds : List D} (h : LsF K hot H a vs) (r : Reps K mg hot H vs ds) : ItemsOk K mg hot H (Ite K a) (enumD ds) where
  turn := fun hot' H' i d kp hh hd => by
    obtain ⟨y, hy, rfl⟩ := enumD_get hd
    have h' := (kp.ls h).sq
    obtain ⟨v, hv, rv⟩ := r.get hy
    refine ⟨⟨vs, v, h', hv⟩, fun x H2 q => ?_⟩
    obtain ⟨T, z, rfl, n, rfl, q⟩ := q
    have e := q vs h'
    rw [hv] at e
    cases e
    exact ⟨StR.new_lse hh n (.cons (.int _) (.cons (rv.mono kp) .nil)), Step.new_fro n⟩
  stop := fun hot' H' i kp hi => ⟨vs, (kp.ls h).sq, by rw [r.length]; unfold enumD at hi; simpa using hi⟩
def zipD : List D → List D → List D
  | x :: xs, y :: ys => D.lse [x, y] :: zipD xs ys
  | _, _ => []
theorem zipD_get : ∀ {xs ys : List D} {i : Nat} {d : D}, (zipD xs ys)[i]? = some d → ∃ x y, xs[i]? = some x ∧ ys[i]? = some y ∧ d = .lse [x, y]
  | [], _, _, _, h => by simp [zipD] at h
  | _ :: _, [], _, _, h => by simp [zipD] at h
  | x :: xs, y :: ys, 0, _, h => by simp [zipD] at h; exact ⟨x, y, rfl, rfl, h.symm⟩
  | x :: xs, y :: ys, i + 1, d, h => by
    obtain ⟨a, b, h1, h2, h3⟩ := zipD_get (xs := xs) (ys := ys) (i := i) (by simpa [zipD] using h)
    exact ⟨a, b, by simpa using h1, by simpa using h2, h3⟩
theorem zipD_len : ∀ {xs ys : List D}, (zipD xs ys).length = min xs.length ys.length
  | [], _ => by simp [zipD]
  | _ :: _, [] => by simp [zipD]
  | x :: xs, y :: ys => by simp only [zipD, List.length_cons, zipD_len (xs := xs) (ys := ys)]; omega
theorem items_zip {a b : Addr} {vs ws : List V} {ds es : List D} (h : LsF K hot H a vs) (r : Reps K mg hot H vs ds) (h2 : LsF K hot H b ws) (r2 : Reps K mg hot H ws es) : ItemsOk K mg hot H (Itz K a b) (zipD ds es) where
  turn := fun hot' H' i d kp hh hd => by
    obtain ⟨y, z, hy, hz, rfl⟩ := zipD_get hd
    have h' := (kp.ls h).sq
    have h2' := (kp.ls h2).sq
    obtain ⟨v, hv, rv⟩ := r.get hy
    obtain ⟨w, hw, rw'⟩ := r2.get hz
    refine ⟨⟨vs, ws, v, w, h', h2', hv, hw⟩, fun x H2 q => ?_⟩
    obtain ⟨T, p, p2, rfl, n, rfl, q1, q2⟩ := q
    have e1 := q1 vs h'
    rw [hv] at e1
    cases e1
    have e2 := q2 ws h2'
    rw [hw] at e2
    cases e2
    exact ⟨StR.new_lse hh n (.cons (rv.mono kp) (.cons (rw'.mono kp) .nil)), Step.new_fro n⟩
  stop := fun hot' H' i kp hi => ⟨vs, ws, (kp.ls h).sq, (kp.ls h2).sq, by rw [r.length, r2.length]; rw [zipD_len] at hi; omega⟩
/-- for .. in e -/
def wiSeq (t : WE) : WI := fun env P => t env fun val env1 => ∃ ds, (val.d = .lst ds ∨ val.d = .tup ds) ∧ P ds env1
theorem seq_items {t : WE} {σ : L2.St} {R : It → Hp → Prop} (h : liftI K mg (wiSeq t) σ H R) : iSeq K (liftE K mg t) σ H R := by
  obtain ⟨oh, τ, env, P, e0, S, t1, k⟩ := h
  refine ⟨oh, τ, env, _, e0, S, t1, fun v val env1 H1 e1 S1 s1 ⟨ds, hd, p⟩ => ?_⟩
  have S1f := S1.freeze
  have r := S1f.head_fro
  have s1' : Step (τ ++ σ.zip env) H (τ ++ σ.zip env1) H1 := s1.lessR fun a ha => roots_cons_sub a ha
  rcases hd with hd | hd
  · rw [hd] at r
    cases r with
    | lst hl rs => exact .inl ⟨_, rfl, ⟨_, hl.sq⟩, k ds env1 H1 _ e1 S1.tail s1' (items_lst hl rs) p⟩
  · rw [hd] at r
    cases r with
    | tup hl rs => exact .inr ⟨_, rfl, ⟨_, hl.sq⟩, k ds env1 H1 _ e1 S1.tail s1' (items_tup hl rs) p⟩
def wiRng1 (t : WXs) : WI := fun env P => t env fun os env1 => ∃ j : Int, resAll env1 os = some [.int j] ∧ -(2 ^ 62) ≤ j ∧ j < 2 ^ 62 ∧ P (rngD 0 j.toNat) env1
def wiRng2 (t : WXs) : WI := fun env P => t env fun os env1 => ∃ i j : Int, resAll env1 os = some [.int i, .int j] ∧ (-(2 ^ 62) ≤ i ∧ i < 2 ^ 62 ∧ -(2 ^ 62) ≤ j ∧ j < 2 ^ 62) ∧ P (rngD i (j - i).toNat) env1
theorem rng1_items {t : WXs} {σ : L2.St} {R : It → Hp → Prop} (h : liftI K mg (wiRng1 t) σ H R) : iRng1 (liftXs K mg t) σ H R := by
  obtain ⟨oh, τ, env, P, e0, S, t1, k⟩ := h
  refine ⟨oh, τ, env, _, e0, S, t1, fun vs os env1 H1 e1 a1 S1 s1 ⟨j, hr, h1, h2, p⟩ => ?_⟩
  obtain ⟨x, rfl, rx⟩ := (opds_read e1 hot_cells S1 a1 (fun _ h => h) hr).one
  exact ⟨j, by rw [rx.int], h1, h2, k _ env1 H1 _ e1 S1.right (s1.lessR fun a ha => roots_app_sub a ha) items_rng p⟩
theorem rng2_items {t : WXs} {σ : L2.St} {R : It → Hp → Prop} (h : liftI K mg (wiRng2 t) σ H R) : iRng2 (liftXs K mg t) σ H R := by
  obtain ⟨oh, τ, env, P, e0, S, t1, k⟩ := h
  refine ⟨oh, τ, env, _, e0, S, t1, fun vs os env1 H1 e1 a1 S1 s1 ⟨i, j, hr, h1, p⟩ => ?_⟩
  obtain ⟨x, y, rfl, rx, ry⟩ := (opds_read e1 hot_cells S1 a1 (fun _ h => h) hr).two
  exact ⟨i, j, by rw [rx.int, ry.int], h1, k _ env1 H1 _ e1 S1.right (s1.lessR fun a ha => roots_app_sub a ha) items_rng p⟩
/-- enumerate(e), zip(e, f): of lists that are everybody's -/
def wiEnum (t : WXs) : WI := fun env P => t env fun os env1 => ∃ ds, tms os = some [.lst ds] ∧ P (enumD ds) env1
def wiZip (t : WXs) : WI := fun env P => t env fun os env1 => ∃ ds es, tms os = some [.lst ds, .lst es] ∧ P (zipD ds es) env1
theorem enum_items {t : WXs} {σ : L2.St} {R : It → Hp → Prop} (h : liftI K mg (wiEnum t) σ H R) : iEnum K (liftXs K mg t) σ H R := by
  obtain ⟨oh, τ, env, P, e0, S, t1, k⟩ := h
  refine ⟨oh, τ, env, _, e0, S, t1, fun vs os env1 H1 e1 a1 S1 s1 ⟨ds, hr, p⟩ => ?_⟩
  have r := tms_reps S1 a1 hr fun c hc => List.mem_append_left _ hc
  rw [hot_cells] at r
  cases r with
  | cons r1 r2 =>
    cases r2
    cases r1 with
    | lst hl rs => exact ⟨_, _, rfl, hl.sq, k _ env1 H1 _ e1 S1.right (s1.lessR fun a ha => roots_app_sub a ha) (items_enum hl rs) p⟩
theorem zip_items {t : WXs} {σ : L2.St} {R : It → Hp → Prop} (h : liftI K mg (wiZip t) σ H R) : iZip K (liftXs K mg t) σ H R := by
  obtain ⟨oh, τ, env, P, e0, S, t1, k⟩ := h
  refine ⟨oh, τ, env, _, e0, S, t1, fun vs os env1 H1 e1 a1 S1 s1 ⟨ds, es, hr, p⟩ => ?_⟩
  have r := tms_reps S1 a1 hr fun c hc => List.mem_append_left _ hc
  rw [hot_cells] at r
  cases r with
  | cons r1 r2 =>
    cases r2 with
    | cons r2 r3 =>
      cases r3
      cases r1 with
      | lst hl rs =>
        cases r2 with
        | lst hl2 rs2 => exact ⟨_, _, _, _, rfl, hl.sq, hl2.sq, k _ env1 H1 _ e1 S1.right (s1.lessR fun a ha => roots_app_sub a ha) (items_zip hl rs hl2 rs2) p⟩
end

/-! ### for -/
def forD (g : WG) (body : WS) : List D → EnvD → (Out → EnvD → Prop) → Prop
  | [], env, P => P .nx env
  | d :: ds, env, P => g (fz d) env fun env1 => body env1 fun o env2 => match o with
    | .nx => forD g body ds env2 P
    | .ct => forD g body ds env2 P
    | .bk => P .nx env2
    | .rt v => P (.rt v) env2
def wsFor (it : WI) (g : WG) (body : WS) : WS := fun env P => it env fun ds env1 => forD g body ds env1 P
theorem drop_cons_get {α : Type} {xs : List α} {i : Nat} (h : i < xs.length) : xs.drop i = xs[i] :: xs.drop (i + 1) := List.drop_eq_getElem_cons h
section
variable {K : PySem.W.Frag} {mg : Str → Option Value} {lent : List Nat} {X : Cx}
theorem for_lift {it : WI} {g : WG} {body : WS} {Y : Ends} {σ : L2.St} {H : Hp} (h : liftS K mg lent (wsFor it g body) Y σ H) : tFor (liftI K mg it) (liftG K mg lent g) (liftS K mg lent body) Y σ H := by
  obtain ⟨oh, env, P, e0, S, t1, k⟩ := h
  refine ⟨oh, [], env, _, e0, S, t1, fun ds env1 H1 J e1 S1 s1 I p => ?_⟩
  have S1 : StR K mg oh H1 (σ.zip env1) := S1
  have s1 : Step (σ.zip env) H (σ.zip env1) H1 := s1
  refine ⟨fun i m σ' H' => m = ds.length - i ∧ i ≤ ds.length ∧ ∃ env', σ'.length = env'.length ∧ σ'.length = σ.length ∧ LentEq lent σ σ' ∧ StR K mg oh H' (σ'.zip env') ∧ Step (σ.zip env1) H1 (σ'.zip env') H' ∧ forD g body (ds.drop i) env' P,
    ⟨ds.length, by simp, Nat.zero_le _, env1, e1, rfl, .refl, S1, Step.refl, p⟩, ?_⟩
  rintro i m σ' H' ⟨rfl, hi, env', f1, f2, f3, S', s', q⟩
  have kp : Keeps (hotL oh ([] ++ σ.zip env1)) (hotL oh (σ'.zip env')) H1 H' := by
    have := s'.keeps (oh := oh) (B := [])
    rw [List.append_nil, List.append_nil] at this
    exact this
  have hh : ∀ a, hotL oh (σ'.zip env') a → H' a ≠ none := fun a ha => S'.hot_there ha
  have k' : SEnd K mg lent oh σ' env' H' P Y := k.after f2 f3 (s1.trans s')
  by_cases hlt : i < ds.length
  · rw [drop_cons_get hlt] at q
    obtain ⟨go, yl⟩ := I.turn _ H' i ds[i] kp hh (List.getElem?_eq_getElem hlt)
    refine .inr ⟨go, fun σ2 H2 => ∃ env2, σ2.length = env2.length ∧ σ2.length = σ.length ∧ LentEq lent σ σ2 ∧ StR K mg oh H2 (σ2.zip env2) ∧ Step (σ.zip env1) H1 (σ2.zip env2) H2 ∧ forD g body (ds.drop (i + 1)) env2 P,
      fun σ2 H2 n => ⟨ds.length - (i + 1), by omega, rfl, hlt, n⟩, fun x H2 y => ?_⟩
    obtain ⟨T, st⟩ := yl x H2 y
    refine ⟨oh, [], env', fz ds[i], _, f1, S'.push T st, q, fun σ3 env3 H3 g1 g2 g3 S3 s3 q3 => ?_⟩
    have s3' : Step (σ'.zip env') H' (σ3.zip env3) H3 := st.push.trans s3
    refine ⟨oh, env3, _, g1, S3, q3, ?_⟩
    have tot : Step (σ.zip env1) H1 (σ3.zip env3) H3 := s'.trans s3'
    have k3 : SEnd K mg lent oh σ3 env3 H3 P Y := k'.after g2 g3 s3'
    exact ⟨fun σ4 env4 H4 a1 a2 a3 S4 s4 p4 => ⟨env4, a1, a2.trans (g2.trans f2), f3.trans (g3.trans a3), S4, tot.trans s4, p4⟩,
      fun σ4 env4 H4 a1 a2 a3 S4 s4 p4 => k3.nx σ4 env4 H4 a1 a2 a3 S4 s4 p4,
      fun σ4 env4 H4 a1 a2 a3 S4 s4 p4 => ⟨env4, a1, a2.trans (g2.trans f2), f3.trans (g3.trans a3), S4, tot.trans s4, p4⟩,
      fun v val σ4 env4 H4 a1 a2 a3 S4 s4 p4 => k3.rt v val σ4 env4 H4 a1 a2 a3 S4 s4 p4⟩
  · have e : i = ds.length := by omega
    subst e
    rw [List.drop_length] at q
    exact .inl ⟨I.stop _ H' _ kp (Nat.le_refl _), k'.nx σ' env' H' f1 rfl .refl S' Step.refl q⟩

/-! ### comprehensions -/
def wipeD (env : EnvD) : List Nat → EnvD
  | [] => env
  | v :: vs => (wipeD env vs).set v none
def backD (env0 : EnvD) : EnvD → List Nat → EnvD
  | env, [] => env
  | env, v :: vs => backD env0 (env.set v (((wipeD env0 vs)[v]?).getD none)) vs
theorem wipeD_len {env : EnvD} : ∀ {vs : List Nat}, (wipeD env vs).length = env.length
  | [] => rfl
  | v :: vs => by unfold wipeD; rw [List.length_set, wipeD_len]
theorem backD_len {env0 : EnvD} : ∀ {vs : List Nat} {env : EnvD}, (backD env0 env vs).length = env.length
  | [], _ => rfl
  | v :: vs, env => by unfold backD; rw [backD_len, List.length_set]
theorem wipe_get {σ : L2.St} {i : Nat} : ∀ {vs : List Nat}, (wipe σ vs)[i]? = if i ∈ vs then (if i < σ.length then some none else none) else σ[i]?
  | [] => by simp [wipe]
  | v :: vs => by
    unfold wipe
    by_cases h : v = i
    · subst h
      rw [if_pos List.mem_cons_self]
      by_cases hv : v < σ.length
      · rw [if_pos hv, List.getElem?_set_self (by rw [wipe_length]; exact hv)]
      · rw [if_neg hv, List.getElem?_eq_none (by rw [List.length_set, wipe_length]; omega)]
    · rw [List.getElem?_set_ne h, wipe_get (vs := vs)]
      have : i ∈ v :: vs ↔ i ∈ vs := by
        rw [List.mem_cons]
        exact ⟨fun z => z.resolve_left fun e => h e.symm, .inr⟩
      by_cases hm : i ∈ vs
      · rw [if_pos hm, if_pos (this.mpr hm)]
      · rw [if_neg hm, if_neg fun z => hm (this.mp z)]
def lentC (n : Nat) (vs : List Nat) : List Nat := (List.range n).filter fun i => decide (i ∉ vs)
theorem not_lentC {n i : Nat} {vs : List Nat} (h : i ∈ vs) : i ∉ lentC n vs := fun z => by
  have := (List.mem_filter.mp z).2
  simp at this
  exact this h
theorem wipe_eq {σ σ2 : L2.St} {vs : List Nat} (hl : σ2.length = (wipe σ vs).length) (h : LentEq (lentC σ.length vs) (wipe σ vs) σ2) : wipe σ2 vs = wipe σ vs := by
  rw [wipe_length] at hl
  refine List.ext_getElem? fun i => ?_
  rw [wipe_get, wipe_get]
  by_cases hm : i ∈ vs
  · rw [if_pos hm, if_pos hm, hl]
  · rw [if_neg hm, if_neg hm]
    by_cases hi : i < σ.length
    · have := h i (List.mem_filter.mpr ⟨List.mem_range.mpr hi, by simpa using hm⟩)
      rw [this, wipe_get, if_neg hm]
    · rw [List.getElem?_eq_none (by omega), List.getElem?_eq_none (by omega)]
theorem zip_out {σ : L2.St} {env : EnvD} (hl : σ.length = env.length) (i : Nat) : ∃ c : Lay, (core (σ.zip env)).Perm (core (c ++ (σ.set i none).zip (env.set i none))) ∧
    ∀ env2 : EnvD, env2.length = env.length → ∃ E, (core (c ++ (σ.set i none).zip env2)).Perm (core (σ.zip (env2.set i ((env[i]?).getD none))) ++ E) := by
  by_cases hi : i < σ.length
  · have h1 : σ[i]? = some σ[i] := List.getElem?_eq_getElem hi
    have h2 : env[i]? = some env[i] := List.getElem?_eq_getElem (by omega)
    obtain ⟨A, B, e1, e2⟩ := zip_split hl h1 h2
    have e3 := e2 none none
    refine ⟨[(σ[i], env[i])], ?_, fun env2 hz => ?_⟩
    · rw [e1, e3]
      show (core (A ++ (σ[i], env[i]) :: B)).Perm (core ((σ[i], env[i]) :: (A ++ (none, none) :: B)))
      refine List.Perm.trans (List.Perm.filter _ List.perm_middle) ?_
      show (core ((σ[i], env[i]) :: (A ++ B))).Perm _
      have e4 : core (A ++ (none, none) :: B) = core (A ++ B) := by rw [core_append, core_append, core_cons_none]
      cases env[i] with
      | none => rw [core_cons_none, core_cons_none, e4]
      | some x => rw [core_cons_some, core_cons_some, e4]
    · have g1 : (σ.set i none)[i]? = some none := List.getElem?_set_self hi
      have g2 : env2[i]? = some env2[i] := List.getElem?_eq_getElem (by omega)
      obtain ⟨A2, B2, f1, f2⟩ := zip_split (σ := σ.set i none) (env := env2) (by rw [List.length_set]; omega) g1 g2
      have f3 := f2 σ[i] env[i]
      rw [List.set_set, List.set_getElem_self hi] at f3
      rw [h2]
      show ∃ E, (core ((σ[i], env[i]) :: (σ.set i none).zip env2)).Perm (core (σ.zip (env2.set i env[i])) ++ E)
      rw [f1, f3]
      refine ⟨core [(none, env2[i])], ?_⟩
      refine List.Perm.trans (l₂ := core ((σ[i], env[i]) :: (none, env2[i]) :: (A2 ++ B2))) (List.Perm.filter _ (List.Perm.cons _ List.perm_middle)) ?_
      have p1 : (core (A2 ++ (σ[i], env[i]) :: B2)).Perm (core ((σ[i], env[i]) :: (A2 ++ B2))) := List.Perm.filter _ List.perm_middle
      refine List.Perm.trans ?_ (p1.symm.append_right _)
      have e5 : core ((σ[i], env[i]) :: (none, env2[i]) :: (A2 ++ B2)) = core [(σ[i], env[i])] ++ (core [(none, env2[i])] ++ core (A2 ++ B2)) := by
        rw [← core_append, ← core_append]; rfl
      have e6 : core ((σ[i], env[i]) :: (A2 ++ B2)) = core [(σ[i], env[i])] ++ core (A2 ++ B2) := by rw [← core_append]; rfl
      rw [e5, e6, List.append_assoc]
      exact List.Perm.append_left _ List.perm_append_comm
  · have s1 : ∀ x : Option V, σ.set i x = σ := fun x => List.set_eq_of_length_le (by omega)
    refine ⟨[], ?_, fun env2 hz => ⟨[], ?_⟩⟩
    · rw [s1, List.set_eq_of_length_le (by omega)]; exact List.Perm.refl _
    · rw [s1, List.set_eq_of_length_le (by omega), List.append_nil]; exact List.Perm.refl _
theorem wipe_out' {σ : L2.St} {env : EnvD} (hl : σ.length = env.length) : ∀ vs : List Nat, ∃ c : Lay, (core (σ.zip env)).Perm (core (c ++ (wipe σ vs).zip (wipeD env vs))) ∧
    ∀ env2 : EnvD, env2.length = env.length → ∃ E, (core (c ++ (wipe σ vs).zip env2)).Perm (core (σ.zip (backD env env2 vs)) ++ E)
  | [] => ⟨[], List.Perm.refl _, fun env2 _ => ⟨[], by rw [List.append_nil]; exact List.Perm.refl _⟩⟩
  | v :: vs => by
    obtain ⟨c, p, b⟩ := wipe_out' hl vs
    obtain ⟨c1, p1, b1⟩ := zip_out (σ := wipe σ vs) (env := wipeD env vs) (by rw [wipe_length, wipeD_len]; exact hl) v
    refine ⟨c ++ c1, ?_, fun env2 hz => ?_⟩
    · refine p.trans ?_
      show (core (c ++ (wipe σ vs).zip (wipeD env vs))).Perm (core ((c ++ c1) ++ ((wipe σ vs).set v none).zip ((wipeD env vs).set v none)))
      rw [List.append_assoc, core_append, core_append (A := c)]
      exact p1.append_left _
    · obtain ⟨E1, q1⟩ := b1 env2 (by rw [wipeD_len]; exact hz)
      obtain ⟨E2, q2⟩ := b (env2.set v (((wipeD env vs)[v]?).getD none)) (by rw [List.length_set]; exact hz)
      refine ⟨E2 ++ E1, ?_⟩
      show (core ((c ++ c1) ++ ((wipe σ vs).set v none).zip env2)).Perm (core (σ.zip (backD env (env2.set v (((wipeD env vs)[v]?).getD none)) vs)) ++ (E2 ++ E1))
      rw [List.append_assoc, core_append]
      refine (q1.append_left _).trans ?_
      rw [← List.append_assoc, ← core_append, ← List.append_assoc]
      exact q2.append_right _
def lcD (vs : List Nat) (g : WG) (tt : WT) (te : WE) : List D → List D → EnvD → (List D → EnvD → Prop) → Prop
  | [], acc, env, K => K acc env
  | d :: ds, acc, env, K => g (fz d) env fun e1 => tt e1 fun b e2 => if b then te e2 fun val e3 => acc.length < 16777216 ∧ lcD vs g tt te ds (acc ++ [val.d]) (wipeD e3 vs) K else lcD vs g tt te ds acc (wipeD e2 vs) K
def wLc (it : WI) (vs : List Nat) (g : WG) (tt : WT) (te : WE) : WE := fun env P => it env fun ds env1 => lcD vs g tt te ds [] (wipeD env1 vs) fun acc env2 => P ⟨true, .lst acc⟩ (backD env1 env2 vs)
def wYes : WT := fun env P => P true env
theorem yes_lift {σ : L2.St} {H : Hp} {Q : Bool → Hp → Prop} (h : liftT K mg wYes σ H Q) : tYes σ H Q := by
  obtain ⟨oh, τ, env, P, e0, S, t, k⟩ := h
  exact k true env H e0 S Step.refl t
theorem lc_lift {it : WI} {vs : List Nat} {g : WG} {tt : WT} {te : WE} {σ : L2.St} {H : Hp} {Q : VK} (h : liftE K mg (wLc it vs g tt te) σ H Q) :
    tLc (liftI K mg it) (liftG K mg (lentC σ.length vs) g) (liftT K mg tt) (liftE K mg te) vs σ H Q := by
  obtain ⟨oh, τ, env, P, e0, S, t1, k⟩ := h
  refine ⟨oh, τ, env, _, e0, S, t1, fun ds env1 H1 J e1 S1 s1 I p => ?_⟩
  intro L hL
  obtain ⟨c, pc, bc⟩ := wipe_out' e1 vs
  have cp : (core (τ ++ σ.zip env1)).Perm (core ((τ ++ c) ++ (wipe σ vs).zip (wipeD env1 vs)) ++ []) := by
    rw [List.append_nil, List.append_assoc, core_append, core_append (A := τ)]
    exact pc.append_left _
  have S1' : StR K mg oh H1 ((τ ++ c) ++ (wipe σ vs).zip (wipeD env1 vs)) := S1.core cp
  have s1' : Step (τ ++ σ.zip env) H ((τ ++ c) ++ (wipe σ vs).zip (wipeD env1 vs)) H1 := s1.coreR cp
  have hh1 : ∀ a, hotL oh ((τ ++ c) ++ (wipe σ vs).zip (wipeD env1 vs)) a → H1 a ≠ none := fun a ha => S1'.hot_there ha
  have S2 : StR K mg oh (upd H1 L (.lst [])) ((some (.ref L), some ⟨true, .lst []⟩) :: ((τ ++ c) ++ (wipe σ vs).zip (wipeD env1 vs))) :=
    S1'.push (StR.new_lst (vs := []) (ds := []) hh1 hL .nil) (Step.new_lst hL)
  have s2 : Step ((τ ++ c) ++ (wipe σ vs).zip (wipeD env1 vs)) H1 ((some (.ref L), some ⟨true, .lst []⟩) :: ((τ ++ c) ++ (wipe σ vs).zip (wipeD env1 vs))) (upd H1 L (.lst [])) := (Step.new_lst hL).push
  have s02 := s1'.trans s2
  refine ⟨fun i m H' => m = ds.length - i ∧ i ≤ ds.length ∧ ∃ envB acc, envB.length = env1.length ∧ StR K mg oh H' ((some (.ref L), some ⟨true, .lst acc⟩) :: ((τ ++ c) ++ (wipe σ vs).zip envB)) ∧
      Step (τ ++ σ.zip env1) H1 ((some (.ref L), some ⟨true, .lst acc⟩) :: ((τ ++ c) ++ (wipe σ vs).zip envB)) H' ∧ lcD vs g tt te (ds.drop i) acc envB (fun acc env2 => P ⟨true, .lst acc⟩ (backD env1 env2 vs)),
    ⟨ds.length, by simp, Nat.zero_le _, wipeD env1 vs, [], wipeD_len, S2, ?_, p⟩, ?_⟩
  · exact s2.coreL (L' := τ ++ σ.zip env1) (by have := cp.symm; rw [List.append_nil] at this; exact this)
  rintro i m H' ⟨rfl, hi, envB, acc, hb, S', s', q⟩
  have kp : Keeps (hotL oh (τ ++ σ.zip env1)) (hotL oh ((some (.ref L), some ⟨true, .lst acc⟩) :: ((τ ++ c) ++ (wipe σ vs).zip envB))) H1 H' := by
    have := s'.keeps (oh := oh) (B := [])
    rw [List.append_nil, List.append_nil] at this
    exact this
  by_cases hlt : i < ds.length
  · rw [drop_cons_get hlt] at q
    obtain ⟨go, yl⟩ := I.turn _ H' i ds[i] kp (fun a ha => S'.hot_there ha) (List.getElem?_eq_getElem hlt)
    refine .inr ⟨go, fun H2 => ∃ envB acc, envB.length = env1.length ∧ StR K mg oh H2 ((some (.ref L), some ⟨true, .lst acc⟩) :: ((τ ++ c) ++ (wipe σ vs).zip envB)) ∧
      Step (τ ++ σ.zip env1) H1 ((some (.ref L), some ⟨true, .lst acc⟩) :: ((τ ++ c) ++ (wipe σ vs).zip envB)) H2 ∧ lcD vs g tt te (ds.drop (i + 1)) acc envB (fun acc env2 => P ⟨true, .lst acc⟩ (backD env1 env2 vs)),
      fun H2 n => ⟨ds.length - (i + 1), by omega, rfl, hlt, n⟩, fun x H2 y => ?_⟩
    obtain ⟨T, st⟩ := yl x H2 y
    have S3 := S'.push T st
    refine ⟨oh, (some (.ref L), some ⟨true, .lst acc⟩) :: (τ ++ c), envB, fz ds[i], _, by rw [wipe_length, hb]; exact e1, S3, q, fun σ2 env2 H3 a1 a2 a3 S4 s4 q4 => ?_⟩
    have s4' : Step ((some (.ref L), some ⟨true, .lst acc⟩) :: ((τ ++ c) ++ (wipe σ vs).zip envB)) H' ((some (.ref L), some ⟨true, .lst acc⟩) :: ((τ ++ c) ++ σ2.zip env2)) H3 := st.push.trans s4
    have hw : wipe σ2 vs = wipe σ vs := wipe_eq a2 a3
    have l2 : env2.length = env1.length := by rw [← a1, a2, wipe_length]; exact e1
    -- a turn's end: the block's slots are forgotten
    have fin : ∀ {acc' : List D} {env3 : EnvD} {H5 : Hp}, σ2.length = env3.length → StR K mg oh H5 ((some (.ref L), some ⟨true, .lst acc'⟩) :: ((τ ++ c) ++ σ2.zip env3)) →
        Step ((some (.ref L), some ⟨true, .lst acc⟩) :: ((τ ++ c) ++ (wipe σ vs).zip envB)) H' ((some (.ref L), some ⟨true, .lst acc'⟩) :: ((τ ++ c) ++ σ2.zip env3)) H5 →
        lcD vs g tt te (ds.drop (i + 1)) acc' (wipeD env3 vs) (fun acc env2 => P ⟨true, .lst acc⟩ (backD env1 env2 vs)) →
        ∃ envB acc, envB.length = env1.length ∧ StR K mg oh H5 ((some (.ref L), some ⟨true, .lst acc⟩) :: ((τ ++ c) ++ (wipe σ vs).zip envB)) ∧
          Step (τ ++ σ.zip env1) H1 ((some (.ref L), some ⟨true, .lst acc⟩) :: ((τ ++ c) ++ (wipe σ vs).zip envB)) H5 ∧ lcD vs g tt te (ds.drop (i + 1)) acc envB (fun acc env2 => P ⟨true, .lst acc⟩ (backD env1 env2 vs)) := by
      intro acc' env3 H5 b1 S5 s5 q5
      obtain ⟨c2, p2, _⟩ := wipe_out' b1 vs
      rw [hw] at p2
      have cp2 : (core ((some (V.ref L), some (⟨true, .lst acc'⟩ : Val)) :: ((τ ++ c) ++ σ2.zip env3))).Perm (core ((some (V.ref L), some (⟨true, .lst acc'⟩ : Val)) :: ((τ ++ c) ++ (wipe σ vs).zip (wipeD env3 vs))) ++ core c2) := by
        rw [core_cons_some, core_cons_some, List.cons_append]
        refine List.Perm.cons _ ?_
        rw [core_append, core_append (B := (wipe σ vs).zip (wipeD env3 vs)), List.append_assoc]
        refine (p2.append_left _).trans ?_
        rw [core_append (A := c2)]
        exact List.Perm.append_left _ List.perm_append_comm
      exact ⟨wipeD env3 vs, acc', by rw [wipeD_len, ← b1, a1, l2], S5.core cp2, (s'.trans s5).coreR cp2, q5⟩
    refine ⟨hw, oh, (some (.ref L), some ⟨true, .lst acc⟩) :: (τ ++ c), env2, _, a1, S4, q4, fun b env3 H4 b1 S5 s5 q5 => ?_⟩
    have s45 := s4'.trans s5
    cases b with
    | false => exact iteF (fin b1 S5 s45 (by simpa using q5))
    | true =>
      have q5 : te env3 fun val e3 => acc.length < 16777216 ∧ lcD vs g tt te (ds.drop (i + 1)) (acc ++ [val.d]) (wipeD e3 vs) (fun acc env2 => P ⟨true, .lst acc⟩ (backD env1 env2 vs)) := by simpa using q5
      refine iteT ⟨oh, (some (.ref L), some ⟨true, .lst acc⟩) :: (τ ++ c), env3, _, b1, S5, q5, fun v val env4 H5 c1 S6 s6 ⟨hz, q6⟩ => ?_⟩
      have S6f : StR K mg oh H5 ((some v, some (fz val.d)) :: (some (.ref L), some ⟨true, .lst acc⟩) :: ((τ ++ c) ++ σ2.zip env4)) := S6.freeze
      have S7 : StR K mg oh H5 ((some (.ref L), some ⟨true, .lst acc⟩) :: ((τ ++ c) ++ σ2.zip env4)) := S6f.tail
      obtain ⟨w, ws, ew, _, hw2, rs⟩ := own_lst S7.head
      cases ew
      refine ⟨ws, hw2, by rw [slen, rs.length]; exact hz, ?_⟩
      have rv : Rep K mg (hotL oh ((some (.ref L), some ⟨true, .lst acc⟩) :: ((τ ++ c) ++ σ2.zip env4))) H5 v val.d := S6f.head_fro
      obtain ⟨S8, s8⟩ := S7.put_lst (rs.append (.cons rv .nil))
      have s67 : Step ((some (.ref L), some ⟨true, .lst acc⟩) :: ((τ ++ c) ++ (wipe σ vs).zip envB)) H' ((some (.ref L), some ⟨true, .lst acc⟩) :: ((τ ++ c) ++ σ2.zip env4)) H5 :=
        s45.trans (s6.lessR fun a ha => roots_cons_sub a ha)
      exact fin c1 S8 (s67.trans s8) q6
  · have e : i = ds.length := by omega
    subst e
    rw [List.drop_length] at q
    refine .inl ⟨I.stop _ H' _ kp (Nat.le_refl _), ?_⟩
    obtain ⟨E, pb⟩ := bc envB hb
    have cpb : (core ((some (V.ref L), some (⟨true, .lst acc⟩ : Val)) :: ((τ ++ c) ++ (wipe σ vs).zip envB))).Perm (core ((some (V.ref L), some (⟨true, .lst acc⟩ : Val)) :: (τ ++ σ.zip (backD env1 envB vs))) ++ E) := by
      rw [core_cons_some, core_cons_some, List.cons_append]
      refine List.Perm.cons _ ?_
      rw [List.append_assoc, core_append, core_append (A := τ), List.append_assoc]
      exact pb.append_left _
    exact k _ _ (backD env1 envB vs) H' (by rw [backD_len, hb]; exact e1) (S'.core cpb) ((s1.trans s').coreR cpb) q
end

/-! ### append -/
section
variable {K : PySem.W.Frag} {mg : Str → Option Value} {lent : List Nat}
def wsApp (i : Nat) (te : WE) : WS := fun env P => (∃ ds, env[i]? = some (some ⟨true, .lst ds⟩)) ∧ te env fun val env1 => ∃ ds, env1[i]? = some (some ⟨true, .lst ds⟩) ∧ ds.length < 16777216 ∧ P .nx (env1.set i (some ⟨true, .lst (ds ++ [val.d])⟩))
theorem app_lift {i : Nat} {te : WE} {Y : Ends} {σ : L2.St} {H : Hp} (h : liftS K mg lent (wsApp i te) Y σ H) : tDrop (tBM K "list" rAppend (tVar i) (tCons (liftE K mg te) tNil)) Y σ H := by
  obtain ⟨oh, env, P, e0, S, ⟨⟨ds0, hx0⟩, t1⟩, k⟩ := h
  obtain ⟨w, hw, r⟩ := get_slot (τ := []) e0 S hx0
  obtain ⟨a, vs, rfl, _, h2, _⟩ := own_lst r
  refine ⟨_, hw, .inl ⟨rfl, vs, .inl (.inl h2)⟩, oh, [], env, _, e0, S, t1, fun v val env1 H1 e1 S1 s1 ⟨ds, hx, hz, p⟩ => ?_⟩
  have S1f : StR K mg oh H1 ((some v, some (fz val.d)) :: σ.zip env1) := S1.freeze
  obtain ⟨b, ws, hb, g2, g3, put⟩ := slot_put (τ := []) (es := ds ++ [val.d]) e1 S1f.tail hx
  rw [hw] at hb
  cases hb
  refine ⟨a, ws, v, rfl, rfl, g2, by rw [slen, g3.length]; exact hz, ?_⟩
  obtain ⟨S3, s3⟩ := put _ (g3.append (.cons S1f.head_fro .nil))
  exact k.nx σ _ _ (by rw [List.length_set]; exact e1) rfl .refl S3 ((s1.lessR fun a ha => roots_cons_sub a ha).trans s3) p
end
end TL

/-! T10: several names at once, x += e, calls with keywords -/
namespace TL
open PySem PySem.Spec PyProof.Rows L2

section
variable {K : PySem.W.Frag} {mg : Str → Option Value} {oh : Pr} {H : Hp} {τ : Lay}
theorem slot_set {σ : L2.St} {env : EnvD} (e0 : σ.length = env.length) {i : Nat} (hl : i < env.length) {v : V} {val : Val} (S : StR K mg oh H ((some v, some val) :: (τ ++ σ.zip env))) :
    StR K mg oh H (τ ++ (σ.set i (some v)).zip (env.set i (some val))) ∧ ∀ a ∈ roots (τ ++ (σ.set i (some v)).zip (env.set i (some val))), a ∈ roots ((some v, some val) :: (τ ++ σ.zip env)) := by
  have h1 : σ[i]? = some σ[i] := List.getElem?_eq_getElem (by omega)
  have h2 : env[i]? = some env[i] := List.getElem?_eq_getElem hl
  obtain ⟨A, B, e1, e2⟩ := zip_split e0 h1 h2
  have e3 := e2 (some v) (some val)
  have hp : (core ((some v, some val) :: (τ ++ σ.zip env))).Perm (core (τ ++ (σ.set i (some v)).zip (env.set i (some val))) ++ core [(σ[i], env[i])]) := by
    rw [e1, e3, ← core_append]
    refine List.Perm.filter _ ?_
    refine (List.Perm.cons _ perm_mid).trans ((List.Perm.swap _ _ _).trans ?_)
    exact (List.Perm.cons _ perm_mid.symm).trans (List.perm_append_singleton _ _).symm
  exact ⟨S.core hp, fun a ha => (roots_coreP (E := core [(σ[i], env[i])]) hp).mem_iff.mpr (List.mem_append_left _ ha)⟩
end
def setAll {α : Type} : List α → List Nat → List α → List α
  | l, i :: is, x :: xs => setAll (l.set i x) is xs
  | l, _, _ => l
theorem setAll_len {α : Type} : ∀ {is : List Nat} {l xs : List α}, (setAll l is xs).length = l.length
  | [], l, xs => by cases xs <;> rfl
  | i :: is, l, [] => rfl
  | i :: is, l, x :: xs => by show (setAll (l.set i x) is xs).length = _; rw [setAll_len, List.length_set]
def vls : List AO → Option (List Val)
  | [] => some []
  | .vl x :: os => (vls os).map (x :: ·)
  | .ls _ :: _ => none
section
variable {K : PySem.W.Frag} {mg : Str → Option Value} {oh : Pr} {H : Hp} {τ : Lay} {lent : List Nat}
theorem vls_cells : ∀ {vs : List V} {os : List AO} {xs : List Val}, vs.length = os.length → vls os = some xs → cellsA vs os = zipA vs xs ∧ xs.length = os.length
  | [], [], xs, _, h => by cases h; exact ⟨rfl, rfl⟩
  | v :: vs, .vl x :: os, xs, hl, h => by
    simp only [vls, Option.map_eq_some_iff] at h
    obtain ⟨ys, h, rfl⟩ := h
    obtain ⟨a, b⟩ := vls_cells (by simpa using hl) h
    exact ⟨by show AO.cell v (.vl x) :: cellsA vs os = _; rw [a]; rfl, by simp [b]⟩
  | v :: vs, .ls i :: os, xs, hl, h => by cases h
theorem set_all (is : List Nat) : ∀ {vs : List V} {xs : List Val} {σ : L2.St} {env : EnvD}, σ.length = env.length → (∀ i ∈ is, i < env.length ∧ i ∉ lent) → vs.length = is.length → xs.length = is.length →
    StR K mg oh H (zipA vs xs ++ (τ ++ σ.zip env)) → StR K mg oh H (τ ++ (setAll σ is (vs.map some)).zip (setAll env is (xs.map some))) ∧
      (∀ a ∈ roots (τ ++ (setAll σ is (vs.map some)).zip (setAll env is (xs.map some))), a ∈ roots (zipA vs xs ++ (τ ++ σ.zip env))) ∧ LentEq lent σ (setAll σ is (vs.map some)) := by
  induction is with
  | nil =>
    intro vs xs σ env e0 _ h1 h2 S
    obtain rfl := List.length_eq_zero_iff.mp h1
    obtain rfl := List.length_eq_zero_iff.mp h2
    exact ⟨S, fun a ha => ha, .refl⟩
  | cons i is ih =>
    intro vs xs σ env e0 hi h1 h2 S
    obtain ⟨v, vs, rfl⟩ : ∃ v vs', vs = v :: vs' := by cases vs with | nil => cases h1 | cons v vs => exact ⟨v, vs, rfl⟩
    obtain ⟨x, xs, rfl⟩ : ∃ v vs', xs = v :: vs' := by cases xs with | nil => cases h2 | cons v vs => exact ⟨v, vs, rfl⟩
    have S' : StR K mg oh H ((some v, some x) :: ((zipA vs xs ++ τ) ++ σ.zip env)) := by
      have : zipA (v :: vs) (x :: xs) ++ (τ ++ σ.zip env) = (some v, some x) :: ((zipA vs xs ++ τ) ++ σ.zip env) := by
        rw [zipA_cons, List.cons_append, List.append_assoc]
      rw [← this]; exact S
    obtain ⟨S1, r1⟩ := slot_set e0 (hi i List.mem_cons_self).1 S'
    rw [List.append_assoc] at S1 r1
    obtain ⟨S2, r2, l2⟩ := ih (σ := σ.set i (some v)) (env := env.set i (some x)) (by rw [List.length_set, List.length_set]; exact e0)
      (fun j hj => ⟨by rw [List.length_set]; exact (hi j (List.mem_cons_of_mem _ hj)).1, (hi j (List.mem_cons_of_mem _ hj)).2⟩) (Nat.succ.inj h1) (Nat.succ.inj h2) S1
    refine ⟨S2, fun a ha => ?_, LentEq.trans (fun j hj => ?_) l2⟩
    · have := r1 a (r2 a ha)
      rw [zipA_cons, List.cons_append, ← List.append_assoc]
      exact this
    · exact List.getElem?_set_ne (fun z => (hi i List.mem_cons_self).2 (by rw [z]; exact hj))
def wsPar (is : List Nat) (ts : WAs) : WS := fun env P => ts env fun os env1 => ∃ xs, vls os = some xs ∧ xs.length = is.length ∧ (∀ i ∈ is, i < env1.length) ∧ P .nx (setAll env1 is (xs.map some))
def tParN (is : List Nat) (ta : TA) : TS := fun Y σ H => ta σ H fun vs H1 => vs.length = is.length ∧ Y.nx (setAll σ is (vs.map some)) H1
theorem par_lift {is : List Nat} (hi : ∀ i ∈ is, i ∉ lent) {ts : WAs} {Y : Ends} {σ : L2.St} (h : liftS K mg lent (wsPar is ts) Y σ H) : tParN is (liftAs K mg ts) Y σ H := by
  obtain ⟨oh, env, P, e0, S, t1, k⟩ := h
  refine ⟨oh, [], env, _, e0, S, t1, fun vs os env1 H1 e1 a1 S1 s1 ⟨xs, hx, hn, hb, p⟩ => ?_⟩
  obtain ⟨c1, c2⟩ := vls_cells (cellsA_len a1) hx
  rw [c1] at S1 s1
  obtain ⟨S2, r2, l2⟩ := set_all (lent := lent) (τ := []) is e1 (fun i h => ⟨hb i h, hi i h⟩) (by rw [cellsA_len a1, ← c2, hn]) hn S1
  refine ⟨by rw [cellsA_len a1, ← c2, hn], k.nx _ _ H1 (by rw [setAll_len, setAll_len]; exact e1) setAll_len l2 S2 (s1.lessR r2) p⟩
end
section
variable {X : Cx}
/-- several plain names stored one behind the other -/
theorem store_all {pins : List (Addr × Obj)} {H : Hp} {E : Value → Shared → Prop} (hN : X.N.Nodup) (ns : List Str) : ∀ {is : List Nat} {vs : List V} {us : List Value} {σ : L2.St} {s : Shared} {Q : Unit → Shared → Prop}, ns.length = is.length → vs.length = is.length →
    (∀ j (h : j < is.length) (h' : j < ns.length), X.N[is[j]]? = some ns[j] ∧ X.env.scope.names.lookup ns[j] = some .local) → Vals vs us → L2.Inv X pins σ H s → (∀ s', L2.Inv X pins (setAll σ is (vs.map some)) H s' → Q () s') →
    wpAny (model X.prog X.w) X.A (assignInOrder (ns.map fun n => fun v => bindName X.env n v) us) Q E s := by
  induction ns with
  | nil =>
    intro is vs us σ s Q h1 h2 _ r I k
    obtain rfl := List.length_eq_zero_iff.mp h1.symm
    obtain rfl := List.length_eq_zero_iff.mp h2
    cases r
    exact assignInOrder_nil (k s I)
  | cons n ns ih =>
    intro is vs us σ s Q h1 h2 hx r I k
    obtain ⟨i, is, rfl⟩ : ∃ v vs', is = v :: vs' := by cases is with | nil => cases h1 | cons v vs => exact ⟨v, vs, rfl⟩
    obtain ⟨v, vs, rfl⟩ : ∃ v vs', vs = v :: vs' := by cases vs with | nil => cases h2 | cons v vs => exact ⟨v, vs, rfl⟩
    cases r with
    | cons r rr =>
      obtain ⟨a, b⟩ := hx 0 (Nat.succ_pos _) (Nat.succ_pos _)
      refine assignInOrder_cons (wpAny_bindName (store_ok I hN a (.inl b) r (fun s2 I2 => ?_) (.inr b)))
      exact ih (Nat.succ.inj h1) (Nat.succ.inj h2) (fun j h h' => hx (j + 1) (Nat.succ_lt_succ h) (Nat.succ_lt_succ h')) rr I2 k
/-- a, b = x, y and a, b, c = x, y, z with plain local names: stored from the right -/
theorem ps_parR {ts es : List Expr} {is : List Nat} {ns : List Str} {ta : TA} {kt k2 : Nat} {pt pt2 pos : Pos} (hc : X.calm = true) (hN : X.N.Nodup) (hn : ns.length = is.length)
    (hx : ∀ j (h : j < is.length) (h' : j < ns.length), X.N[is[j]]? = some ns[j] ∧ X.env.scope.names.lookup ns[j] = some .local) (ha : PA X es ta)
    (hw : swappedStores [.Tuple ts kt pt] (.Tuple es k2 pt2) X.env = pure (some ns)) (hz : is.length ≤ 16777216) :
    PS X (.Assign [.Tuple ts kt pt] (.Tuple es k2 pt2) pos) (fun Y σ H => ta σ H fun vs H1 => vs.length = is.length ∧ Y.nx (setAll σ is.reverse (vs.reverse.map some)) H1) := by
  refine ⟨fun pins s σ H D I h => ?_⟩
  rw [exec_Assign_arm]
  refine wpAny_bind (wpAny_standAt ?_)
  have hs : swapsWithSole [.Tuple ts kt pt] (.Tuple es k2 pt2) pos.line X.env = pure false := rfl
  rw [hs]
  refine wpAny_bind (wpAny_pure ?_)
  rw [if_neg (by decide)]
  refine wpAny_bind (Tuple_ (thn (ha.run _ pins s σ H _ I h) fun us s1 ⟨vs, H1, I1, r1, hl, q1⟩ => ?_))
  have hlu : us.length = is.length := by rw [← r1.length]; exact hl
  refine wpAny_newObj_type ?_ (by show us.toArray.size ≤ sizeLine; rw [slen, List.size_toArray, hlu]; exact hz)
  have I2 : L2.Inv X pins σ H1 { s1 with heap := s1.heap.push { cls := .type "tuple", data := .seq us.toArray } } := I1.kept (t' := s1.toks) fun b o e => Heap.get?_push_of_some _ e
  rw [hw]
  refine wpAny_bind (wpAny_pure ?_)
  show wpAny (model X.prog X.w) X.A (do rule "assign.swapped-stores"; let items ← unpackItems (.ref s1.heap.objs.size) ns.length none; assignInOrder (ns.reverse.map fun n => bindName X.env n) items.reverse; pure Flow.next) _ _ _
  have hnu : ns.length = us.toArray.size := by rw [List.size_toArray, hlu]; exact hn
  rw [hnu]
  refine wpAny_bind (wpAny_rule (wpAny_bind (unpackItems_tuple (items := us.toArray) (I.ok.hd hc) (IsTup.new s1.heap _) fun h' hx' => ?_)))
  have I3 := I2.kept (h' := h') (t' := s1.toks) fun b o e => hx' b o (Nat.ne_of_lt (Heap.lt_size e)) e
  refine wpAny_bind (store_all hN ns.reverse (is := is.reverse) (vs := vs.reverse) (by simp [hn]) (by simp [hl]) (fun j h h' => ?_) ?_ I3 fun s' I4 => wpAny_pure ⟨_, H1, I4, q1⟩)
  · rw [List.getElem_reverse, List.getElem_reverse]
    have e : ns.length - 1 - j = is.length - 1 - j := by rw [hn]
    simp only [e]
    exact hx _ (by simp at h; omega) (by simp at h; omega)
  · have : Vals vs us := r1
    have rv := L2.Vals.reverse this
    simpa using rv
end
end TL

/-! T11: x += e, calls with keywords and defaults -/
namespace TL
open PySem PySem.Spec PyProof.Rows L2
section
variable {K : PySem.W.Frag} {mg : Str → Option Value} {lent : List Nat}
def wsAug (i : Nat) (s : S2) (te : WE) : WS := fun env P => (∃ x, env[i]? = some (some x)) ∧ te env fun val env1 => ∃ x, env1[i]? = some (some x) ∧ s x.d val.d fun z => P .nx (env1.set i (some z))
theorem aug_lift {i : Nat} (hi : i ∉ lent) {s : S2} {r : R2} (hl : BinL K mg r s) {te : WE} {Y : Ends} {σ : L2.St} {H : Hp} (h : liftS K mg lent (wsAug i s te) Y σ H) : tAug i (liftE K mg te) r Y σ H := by
  obtain ⟨oh, env, P, e0, S, ⟨⟨x0, hx0⟩, t1⟩, k⟩ := h
  obtain ⟨w, hw, _⟩ := get_slot (τ := []) e0 S hx0
  refine ⟨w, hw, oh, [], env, _, e0, S, t1, fun v val env1 H1 e1 S1 s1 ⟨x, hx, q⟩ => ?_⟩
  obtain ⟨w2, hw2, r1⟩ := get_slot (τ := []) e1 S1.tail hx
  rw [hw] at hw2
  cases hw2
  have S1f : StR K mg oh H1 ((some v, some (fz val.d)) :: σ.zip env1) := S1.freeze
  have e' : hotL oh ((some v, some (fz val.d)) :: σ.zip env1) = hotL oh (σ.zip env1) := hot_fro
  have rv : VRo K mg (hotL oh (σ.zip env1)) H1 v val.d := .of S1f.head_fro
  refine hl _ H1 w v x.d val.d _ _ (fun a ha => S1f.tail.hot_there ha) ⟨x.own, r1⟩ rv q fun z zval H2 T st p => ?_
  have S2 := S1f.tail.push T st
  have hb : i < env1.length := (List.getElem?_eq_some_iff.mp hx).1
  obtain ⟨S3, r3⟩ := slot_set (τ := []) e1 hb S2
  have s12 : Step (σ.zip env) H ((some z, some zval) :: σ.zip env1) H2 := (s1.lessR fun a ha => roots_cons_sub a ha).trans st.push
  exact k.nx _ _ H2 (by rw [List.length_set, List.length_set]; exact e1) (List.length_set ..) (fun j hj => List.getElem?_set_ne (fun z => hi (by rw [z]; exact hj))) S3 (s12.lessR r3) p
end
/-! ### keywords -/
def pick {α : Type} (d : α) (perm : List Nat) (l : List α) : List α := perm.map fun i => l.getD i d
structure KB (K : PySem.W.Frag) (fd : FuncData) (ps : List Str) (npos : Nat) (ks : List Str) (perm : List Nat) (dU : List Value) : Prop where
  to : ∀ (s : Shared) (us ws : List Value), K.In s.heap → us.length = npos → ws.length = ks.length → BindsTo s fd ⟨us, ks.zip ws⟩ (ps.zip (pick .none perm (us ++ (ws ++ dU))))
theorem Vals.pick {perm : List Nat} {vs : List V} {us : List Value} (r : Vals vs us) : Vals (TL.pick .non perm vs) (TL.pick .none perm us) := by
  induction perm with
  | nil => exact .nil
  | cons i p ih =>
    refine .cons ?_ ih
    show RelV (vs.getD i .non) (us.getD i .none)
    rw [List.getD_eq_getElem?_getD, List.getD_eq_getElem?_getD]
    cases e : vs[i]? with
    | some v =>
      obtain ⟨u, hu, ru⟩ := r.get e
      rw [hu]
      exact ru
    | none =>
      rw [r.none_of e]
      rfl
theorem Reps.pick {K mg hot H} {perm : List Nat} {vs : List V} {ds : List D} (r : Reps K mg hot H vs ds) : Reps K mg hot H (TL.pick .non perm vs) (TL.pick .non perm ds) := by
  induction perm with
  | nil => exact .nil
  | cons i p ih =>
    refine .cons ?_ ih
    show Rep K mg hot H (vs.getD i .non) (ds.getD i .non)
    rw [List.getD_eq_getElem?_getD, List.getD_eq_getElem?_getD]
    cases e : vs[i]? with
    | some v =>
      obtain ⟨d, hd, rd⟩ := r.getV e
      rw [hd]
      exact rd
    | none =>
      have h1 := List.getElem?_eq_none_iff.mp e
      rw [List.getElem?_eq_none (by rw [← r.length]; exact h1)]
      exact .non
section
variable {X : Cx} {k : Nat} {f : Addr} {fd : FuncData} {ps : List Str} {sp : Sp}
theorem pk_consD {K mg} {e : Expr} {kws : List Keyword} {nm : Option Str} {kpos : Pos} {t : WX} {ts : WXs} (h : PE X e (liftX K mg t)) (hs : PK X kws (liftXs K mg ts)) : PK X (⟨nm, e, kpos⟩ :: kws) (liftXs K mg (wXcons t ts)) := by
  refine ⟨fun pos pins s σ H Q I w => (pk_cons h hs).run pos pins s σ H Q I ?_⟩
  obtain ⟨oh, τ, env, P, e0, S, t, k⟩ := w
  refine ⟨oh, τ, env, _, e0, S, t, fun v o env1 H1 e1 a1 S1 s1 t1 => ?_⟩
  refine ⟨oh, o.cell v :: τ, env1, _, e1, S1, t1, fun vs os env2 H2 e2 a2 S2 s2 p => ?_⟩
  have hp : (cells vs os ++ (o.cell v :: τ ++ σ.zip env2)).Perm (cells (v :: vs) (o :: os) ++ (τ ++ σ.zip env2)) := by
    show (cells vs os ++ o.cell v :: (τ ++ σ.zip env2)).Perm (o.cell v :: (cells vs os ++ (τ ++ σ.zip env2)))
    exact List.perm_middle
  exact k (v :: vs) (o :: os) env2 H2 e2 (.cons a1 a2) (S2.perm hp) ((s1.trans s2).permR hp) p
theorem pk_nilD {K mg} : PK X [] (liftXs K mg wXnil) := ⟨fun pos pins s σ H Q I w => pk_nil.run pos pins s σ H Q I (by
  obtain ⟨oh, τ, env, P, e0, S, t, k⟩ := w
  exact k [] [] env H e0 .nil S Step.refl t)⟩
def tCallKT (sp : Sp) (npos : Nat) (nk : Nat) (perm : List Nat) (dV : List V) (t tk : TA) : TE := fun σ H Q => t σ H fun vs H1 => tk σ H1 fun zs H2 => vs.length = npos ∧ zs.length = nk ∧ sp (pick .non perm (vs ++ (zs ++ dV))) H2 Q E0
theorem run_kw {pins : List (Addr × Obj)} {σ : L2.St} {H : Hp} {s : Shared} {Q : VK} {us ws dU : List Value} {vs zs dV : List V} {npos : Nat} {ks : List Str} {perm : List Nat} (F : FnT X.prog X.w X.K X.mg X.base k f fd ps sp) (hr : Room k X.A) (hgd : X.A.guards = some [])
    (hb : KB X.K fd ps npos ks perm dU) (hd : Vals dV dU) (I : L2.Inv X pins σ H s) (r : Vals vs us) (rz : Vals zs ws) (h1 : vs.length = npos) (h2 : zs.length = ks.length) (h : sp (pick .non perm (vs ++ (zs ++ dV))) H Q E0) :
    wpAny (model X.prog X.w) X.A (call (.ref f) us (ks.zip ws)) (EP X pins σ Q) X.xe s :=
  run_fnT (vus := pick .none perm (us ++ (ws ++ dU))) F hr hgd (fun _ => hb.to s us ws I.kIn (by rw [← r.length]; exact h1) (by rw [← rz.length]; exact h2)) I (Vals.pick (r.append (rz.append hd))) h
theorem pe_callKT {x : Str} {p pos : Pos} {es : List Expr} {kws : List Keyword} {t tk : TA} {npos : Nat} {ks : List Str} {perm : List Nat} {dU : List Value} {dV : List V} (F : FnT X.prog X.w X.K X.mg X.base k f fd ps sp) (hr : Room k X.A) (hgd : X.A.guards = some [])
    (hg : Gl X x) (hm : X.mg x = some (.ref f)) (hk : PySem.W.keepIn X.K (.ref f) = true) (hb : KB X.K fd ps npos ks perm dU) (hd : Vals dV dU) {e : Expr} (ha : PA X (e :: es) t) (hkw : PK X kws tk) (hns : noStar e = true)
    (hall : (backToKw pos (keywordEach kws X.env)).all (·.1.isSome) = true) (hks : (backToKw pos (keywordEach kws X.env)).filterMap (·.1) = ks)
    (hdb : (x == ("__debug__" : Str)) = false) (hpl : ((backTo pos (starEach (e :: es) X.env)).any (·.1) || (backToKw pos (keywordEach kws X.env)).any (·.1.isNone)) = false) :
    PE X (.Call (.Name x p) (e :: es) kws pos) (tCallKT sp npos ks.length perm dV t tk) := by
  refine ⟨fun pins s σ H Q I h => ?_⟩
  refine wpAny_Call_Name_kw (ld_glob I hg hm ?_ hdb)
  refine PySem.W.callWith_KW (h₀ := X.base) I.ok.mod.kin hk hall (thn (ha.run pos pins s σ H _ I h) fun us s1 ⟨vs, H1, I1, r, q⟩ => ?_) hpl (star_of hns)
  refine thn (hkw.run pos pins s1 σ H1 _ I1 q) fun ws s2 ⟨zs, H2, I2, rz, h1, h2, q2⟩ => ⟨I2.kIn, ?_⟩
  rw [hks]
  exact run_kw F hr hgd hb hd I2 r rz h1 h2 q2
theorem pe_callKT0 {x : Str} {p pos : Pos} {kws : List Keyword} {tk : TA} {ks : List Str} {perm : List Nat} {dU : List Value} {dV : List V} (F : FnT X.prog X.w X.K X.mg X.base k f fd ps sp) (hr : Room k X.A) (hgd : X.A.guards = some [])
    (hg : Gl X x) (hm : X.mg x = some (.ref f)) (hk : PySem.W.keepIn X.K (.ref f) = true) (hb : KB X.K fd ps 0 ks perm dU) (hd : Vals dV dU) (hkw : PK X kws tk)
    (hall : (backToKw pos (keywordEach kws X.env)).all (·.1.isSome) = true) (hks : (backToKw pos (keywordEach kws X.env)).filterMap (·.1) = ks)
    (hdb : (x == ("__debug__" : Str)) = false) (hpl : ((backTo pos (starEach [] X.env)).any (·.1) || (backToKw pos (keywordEach kws X.env)).any (·.1.isNone)) = false) :
    PE X (.Call (.Name x p) [] kws pos) (fun σ H Q => tk σ H fun zs H2 => zs.length = ks.length ∧ sp (pick .non perm ([] ++ (zs ++ dV))) H2 Q E0) := by
  refine ⟨fun pins s σ H Q I h => ?_⟩
  refine wpAny_Call_Name_kw (ld_glob I hg hm ?_ hdb)
  refine PySem.W.callWith_KW0 (h₀ := X.base) I.ok.mod.kin hk hall (thn (hkw.run pos pins s σ H _ I h) fun ws s2 ⟨zs, H2, I2, rz, h2, q2⟩ => ⟨I2.kIn, ?_⟩) hpl
  rw [hks]
  exact run_kw (us := []) (vs := []) F hr hgd hb hd I2 .nil rz rfl h2 q2
end
theorem roots_zipA_fz {vs : List V} : ∀ {ds : List D}, roots (zipA vs (ds.map fz)) = [] := by
  induction vs with
  | nil => intro ds; rfl
  | cons v vs ih =>
    intro ds
    cases ds with
    | nil => rfl
    | cons d ds =>
      show roots ((some v, some (fz d)) :: zipA vs (ds.map fz)) = []
      rw [roots_fro, ih]
theorem push_fros {K mg oh H} {B : Lay} {vs : List V} {ds : List D} (r : Reps K mg (hotL oh B) H vs ds) (S : StR K mg oh H B) : StR K mg oh H (zipA vs (ds.map fz) ++ B) := by
  induction vs generalizing ds with
  | nil => cases r; exact S
  | cons v vs ih =>
    cases r with
    | cons r1 r2 =>
      have S1 := ih r2
      refine StR.push (L := zipA vs _ ++ B) S1 (StR.one_fro (fun a ha => S1.hot_there ha) ?_) Step.one_fro
      have e : ∀ {ds : List D}, hotL oh (zipA vs (ds.map fz) ++ B) = hotL oh B := by
        intro ds; unfold hotL; rw [roots_append, roots_zipA_fz, List.nil_append]
      rw [e]
      exact r1
def wCallK (n npos nk : Nat) (perm : List Nat) (dD : List D) (t : DSpec) (tp tk : WXs) : WE := fun env P => tp env fun os env1 => tk env1 fun os2 env2 => ∃ ds es, tms os = some ds ∧ tms os2 = some es ∧ ds.length = npos ∧ es.length = nk ∧
  perm.length = n ∧ t ((pick .non perm (ds ++ (es ++ dD))).map fz) fun val _ => P val env2
section
variable {K : PySem.W.Frag} {mg : Str → Option Value}
theorem kw_core {n : Nat} {perm : List Nat} {dD : List D} {dV : List V} {t : DSpec} {oh : Pr} {L0 B : Lay} {H0 H2 : Hp} {vs zs : List V} {ds es : List D} {P : Val → Prop} {Q : VK} (hdf : ∀ (hot : Pr) (H : Hp), Reps K mg hot H dV dD) (hn : perm.length = n)
    (S : StR K mg oh H2 B) (s : Step L0 H0 B H2) (r1 : Reps K mg (hotL oh B) H2 vs ds) (r2 : Reps K mg (hotL oh B) H2 zs es) (p : t ((pick .non perm (ds ++ (es ++ dD))).map fz) fun val _ => P val)
    (k : ∀ v val H', StR K mg oh H' ((some v, some val) :: B) → Step L0 H0 ((some v, some val) :: B) H' → P val → Q v H') : spT K mg n t (pick .non perm (vs ++ (zs ++ dV))) H2 Q E0 := by
  have r := (r1.append (r2.append (hdf _ _))).pick (perm := perm)
  have S1 := push_fros r S
  refine ⟨hotL oh B, _, _, by unfold TL.pick; rw [List.length_map]; exact hn, by unfold TL.pick; rw [List.length_map, List.length_map]; exact hn, S1.split, p, fun v val args' H' hl S3 s3 q => ?_⟩
  have S4 : StR K mg oh H' (((some v, some val) :: zipA (pick .non perm (vs ++ (zs ++ dV))) args') ++ B) := StR.frame S1 S3 s3
  have s4 : Step B H2 (((some v, some val) :: zipA (pick .non perm (vs ++ (zs ++ dV))) args') ++ B) H' := (s3.frame (B := B)).coreL' (by rw [roots_append, roots_zipA_fz]; rfl)
  have cp : (core (((some v, some val) :: zipA (pick .non perm (vs ++ (zs ++ dV))) args') ++ B)).Perm (core ((some v, some val) :: B) ++ core (zipA (pick .non perm (vs ++ (zs ++ dV))) args')) := by
    rw [← core_append]
    refine List.Perm.filter _ ?_
    rw [List.cons_append, List.cons_append]
    exact List.Perm.cons _ List.perm_append_comm
  exact k v val H' (S4.core cp) ((s.trans s4).coreR cp) q
theorem callK_lift {n npos nk : Nat} {perm : List Nat} {dD : List D} {dV : List V} {t : DSpec} {tp tk : WXs} (hdf : ∀ (hot : Pr) (H : Hp), Reps K mg hot H dV dD) {σ : L2.St} {H : Hp} {Q : VK} (h : liftE K mg (wCallK n npos nk perm dD t tp tk) σ H Q) :
    tCallKT (spT K mg n t) npos nk perm dV (liftXs K mg tp) (liftXs K mg tk) σ H Q := by
  obtain ⟨oh, τ, env, P, e0, S, t1, k⟩ := h
  refine ⟨oh, τ, env, _, e0, S, t1, fun vs os env1 H1 e1 a1 S1 s1 t2 => ⟨oh, cells vs os ++ τ, env1, _, e1, by rw [List.append_assoc]; exact S1, t2, fun zs os2 env2 H2 e2 a2 S2 s2 q => ?_⟩⟩
  obtain ⟨ds, es, h1, h2, h3, h4, hn, p⟩ := q
  have hA : roots (cells zs os2 ++ (cells vs os ++ τ ++ σ.zip env2)) = roots (τ ++ σ.zip env2) := by rw [roots_cells, List.append_assoc, roots_cells]
  have hh : hotL oh (cells zs os2 ++ (cells vs os ++ τ ++ σ.zip env2)) = hotL oh (τ ++ σ.zip env2) := by unfold hotL; rw [hA]
  have r1 := tms_reps S2 a1 h1 fun c hc => List.mem_append_right _ (List.mem_append_left _ (List.mem_append_left _ hc))
  have r2 := tms_reps S2 a2 h2 fun c hc => List.mem_append_left _ hc
  rw [hh] at r1 r2
  have S3 : StR K mg oh H2 (τ ++ σ.zip env2) := by
    have := S2.right
    rw [List.append_assoc] at this
    exact this.right
  have s3 : Step (τ ++ σ.zip env) H (τ ++ σ.zip env2) H2 := by
    rw [← List.append_assoc] at s1
    exact (s1.trans s2).lessR fun a ha => by rw [hA]; exact ha
  exact ⟨by rw [tms_len a1 h1]; exact h3, by rw [tms_len a2 h2]; exact h4, kw_core hdf hn S3 s3 r1 r2 p fun v val H' S4 s4 q => k v val env2 H' e2 S4 s4 q⟩
theorem callK0_lift {n nk : Nat} {perm : List Nat} {dD : List D} {dV : List V} {t : DSpec} {tk : WXs} (hdf : ∀ (hot : Pr) (H : Hp), Reps K mg hot H dV dD) {σ : L2.St} {H : Hp} {Q : VK} (h : liftE K mg (wCallK n 0 nk perm dD t wXnil tk) σ H Q) :
    liftXs K mg tk σ H fun zs H2 => zs.length = nk ∧ spT K mg n t (pick .non perm ([] ++ (zs ++ dV))) H2 Q E0 := by
  obtain ⟨oh, τ, env, P, e0, S, t1, k⟩ := h
  refine ⟨oh, τ, env, _, e0, S, t1, fun zs os2 env2 H2 e2 a2 S2 s2 q => ?_⟩
  obtain ⟨ds, es, h1, h2, h3, h4, hn, p⟩ := q
  cases h1
  have r2 := tms_reps S2 a2 h2 fun c hc => List.mem_append_left _ hc
  rw [hot_cells] at r2
  exact ⟨by rw [tms_len a2 h2]; exact h4, kw_core (vs := []) (ds := []) hdf hn S2.right (s2.lessR fun a ha => roots_app_sub a ha) .nil r2 p fun v val H' S4 s4 q => k v val env2 H' e2 S4 s4 q⟩
end
end TL

/-! U1: isinstance, a[::-1], chains of two comparisons, divmod, list(range(..)), zip of tuples -/
namespace TL
open PySem PySem.Spec PyProof.Rows L2

/-! ### isinstance -/
inductive TyN where
  | bool | int | str | list | tuple
  deriving DecidableEq
def TyN.nm : TyN → String
  | .bool => "bool" | .int => "int" | .str => "str" | .list => "list" | .tuple => "tuple"
/-- the answer, of what is no dict and no def -/
def isD (t : TyN) : D → Option Bool
  | .non => some false
  | .bl _ => some (decide (t = .bool) || decide (t = .int))
  | .int _ => some (decide (t = .int))
  | .str _ => some (decide (t = .str))
  | .lst _ => some (decide (t = .list))
  | .tup _ => some (decide (t = .tuple))
  | _ => none
def isDs : List TyN → D → Option Bool
  | [], _ => some false
  | t :: ts, d => (isD t d).bind fun a => (isDs ts d).map (a || ·)
def sIsi (t : TyN) : S1 := fun d P => ∃ b, isD t d = some b ∧ P (fz (.bl b))
def sIsiT (ts : List TyN) : S1 := fun d P => ∃ b, isDs ts d = some b ∧ P (fz (.bl b))
section
variable {K : PySem.W.Frag} {mg : Str → Option Value} {X : Cx} {hot : Pr} {H : Hp}
theorem Rd.ty_lst {a : Addr} {xs : List V} (h : Rd H a (.lst xs)) : TyX K H (.ref a) (.type "list") := h.elim (fun e => .base (.lst e)) fun ⟨o, e⟩ => .base (.frz e)
theorem Rd.ty_tup {a : Addr} {xs : List V} (h : Rd H a (.tup xs)) : TyX K H (.ref a) (.type "tuple") := h.elim (fun e => .base (.tup e)) fun ⟨o, e⟩ => .fTuple e
def tyD : D → String
  | .non => "NoneType" | .bl _ => "bool" | .int _ => "int" | .str _ => "str" | .lst _ => "list" | .tup _ => "tuple" | _ => ""
theorem tyX_of {v : V} {d : D} (r : VRo K mg hot H v d) (h : ∃ t b, isD t d = some b) : TyX K H v (.type (tyD d)) := by
  obtain ⟨o, r⟩ := r
  cases r with
  | fro r =>
    cases r with
    | non => exact .base .non
    | bl b => exact .base (.bl b)
    | int i => exact .base (.int i)
    | str x hx => exact .base (.str x)
    | lst hl rs => exact hl.elim (fun q => Rd.ty_lst q.2) fun ⟨o, its, n, lk, hc, _⟩ => .kList lk hc
    | tup hl rs => exact hl.elim (fun q => Rd.ty_tup q.2.rd) fun ⟨o, its, n, lk, hc, _⟩ => .kTuple lk hc
    | dicK _ _ _ _ => obtain ⟨t, b, h⟩ := h; cases h
    | ldc _ _ _ _ => obtain ⟨t, b, h⟩ := h; cases h
    | box => obtain ⟨t, b, h⟩ := h; cases h
    | fn _ => obtain ⟨t, b, h⟩ := h; cases h
    | lse _ _ _ => obtain ⟨t, b, h⟩ := h; cases h
  | lst h1 h2 _ => exact .base (.lst h2)
  | dicK _ _ _ _ => obtain ⟨t, b, h⟩ := h; cases h
  | boxT _ _ _ => obtain ⟨t, b, h⟩ := h; cases h
  | boxL _ _ _ => obtain ⟨t, b, h⟩ := h; cases h
  | boxD _ _ _ _ => obtain ⟨t, b, h⟩ := h; cases h
theorem kit_isD {t : TyN} {d : D} {b : Bool} (h : isD t d = some b) : PySem.W.kitOne K (.type (tyD d)) (.type t.nm) = some b := by
  cases d with
  | non => cases h; cases t <;> exact kit_ty (by decide +kernel)
  | bl c => cases h; cases t <;> exact kit_ty (a := "bool") (by decide +kernel)
  | int c => cases h; cases t <;> exact kit_ty (a := "int") (by decide +kernel)
  | str c => cases h; cases t <;> exact kit_ty (a := "str") (by decide +kernel)
  | lst c => cases h; cases t <;> exact kit_ty (a := "list") (by decide +kernel)
  | tup c => cases h; cases t <;> exact kit_ty (a := "tuple") (by decide +kernel)
  | dic _ _ => cases h
  | fn _ => cases h
  | lse _ => cases h
  | own _ _ => cases h
  | ldc _ _ => cases h
  | box _ => cases h
theorem kit_isDs {d : D} : ∀ {ts : List TyN} {b : Bool}, isDs ts d = some b → PySem.W.kitAny K (.type (tyD d)) (ts.map fun t => Value.type t.nm) = some b
  | [], b, h => by cases h; exact kitAny_nil
  | t :: ts, b, h => by
    unfold isDs at h
    cases h1 : isD t d with
    | none => rw [h1] at h; cases h
    | some a =>
      rw [h1] at h
      simp only [Option.bind_some, Option.map_eq_some_iff] at h
      obtain ⟨c, h2, rfl⟩ := h
      refine kitAny_cons (kit_isD h1) (fun e => ?_) fun e => by rw [e]; rfl
      rw [e]
      exact kit_isDs h2
theorem ul_isi (t : TyN) : UnL K mg (fun x H Q => rIsi K [x, .ty t.nm] H Q) (sIsi t) := by
  intro hot H x dx P Q hh rx q k
  obtain ⟨b, hb, q⟩ := q
  exact ⟨x, _, _, _, b, rfl, .ty _, tyX_of rx ⟨t, b, hb⟩, kit_isD hb, post_fz hh k (.bl b) q⟩
def rIsiN (K : PySem.W.Frag) (ts : List TyN) : V → Hp → VK → Prop := fun x H Q => ∀ p, H p = none → rIsiT K [x, .ref p] (upd H p (.tup (ts.map fun t => V.ty t.nm))) Q
theorem isDs_some {d : D} : ∀ {ts : List TyN} {b : Bool}, isDs ts d = some b → ts = [] ∨ ∃ t b, isD t d = some b
  | [], _, _ => .inl rfl
  | t :: ts, b, h => by
    unfold isDs at h
    cases h1 : isD t d with
    | none => rw [h1] at h; cases h
    | some a => exact .inr ⟨t, a, h1⟩
theorem VRo.upd {v : V} {d : D} {p : Addr} {o : HO} (hh : ∀ a, hot a → H a ≠ none) (n : H p = none) (r : VRo K mg hot H v d) : VRo K mg hot (L2.upd H p o) v d := by
  obtain ⟨w, r⟩ := r
  refine ⟨w, r.mono (keeps_new n) fun b hb => ?_⟩
  obtain ⟨c, d', e⟩ := rootP_some hb
  cases e
  obtain ⟨c2, e2, q⟩ := r.own_all
  cases e2
  obtain ⟨q1, q2⟩ := q b hb
  exact ⟨q1, upd_ne fun e => by rw [e] at q2; exact q2 n⟩
theorem ul_isiT {ts : List TyN} (hne : ts ≠ []) : UnL K mg (rIsiN K ts) (sIsiT ts) := by
  intro hot H x dx P Q hh rx q k p hp
  obtain ⟨b, hb, q⟩ := q
  have hs := (isDs_some hb).resolve_left hne
  have hk : Paired ClsV (ts.map fun t => V.ty t.nm) (ts.map fun t => Value.type t.nm) := by
    clear hb hs hne
    induction ts with
    | nil => exact .nil
    | cons t ts ih => exact .cons (.ty _) ih
  refine ⟨x, p, _, _, _, b, rfl, upd_same, hk, tyX_of (rx.upd hh hp) hs, kit_isDs hb, ?_⟩
  exact k (.bl b) (fz (.bl b)) _ (StR.one_fro (hot_upd hh) (.bl b)) (Step.new_fro hp) q
theorem rel_tys : ∀ ts : List TyN, Vals (ts.map fun t => V.ty t.nm) (ts.map fun t => Value.type t.nm)
  | [] => .nil
  | _ :: ts => .cons rfl (rel_tys ts)

/-! ### a[::-1] -/
def sRev : S1
  | .lst xs, P => P ⟨true, .lst xs.reverse⟩
  | _, _ => False
def rRev (K : PySem.W.Frag) : V → Hp → VK → Prop := fun x H Q => ∃ a xs, x = .ref a ∧ SqL K H a xs ∧ ∀ p, H p = none → Q (.ref p) (upd H p (.lst xs.reverse))
theorem ul_rev : UnL K mg (rRev K) sRev := by
  intro hot H x dx P Q hh rx q k
  cases dx <;> simp only [sRev] at q <;> try exact q.elim
  obtain ⟨a, vs, rfl, h1, r1⟩ := rx.lst
  exact ⟨a, vs, rfl, h1, fun p n => post_lst hh k n (Reps.reverse r1) q⟩

/-! ### divmod -/
def sDivmod : SN
  | [.int i, .int j], P => (0 < j ∧ j < 1073741824) ∧ P (fz (.tup [.int (i / j), .int (i % j)]))
  | _, _ => False
theorem cl_divmod : CallL K mg (fun xs H Q => ∃ i j, xs = [.int i, .int j] ∧ CDiv i j ∧ ∀ p o, H p = none → PTu o → Q (.ref p) (newT H p o [.int (i / j), .int (i % j)])) sDivmod := by
  intro hot H xs ds P Q hh rx q k
  match ds, q with
  | [.int i, .int j], q =>
    obtain ⟨x, y, rfl, r1, r2⟩ := rx.two
    rw [r1.int, r2.int]
    exact ⟨i, j, rfl, q.1, fun p o n po => post_tup hh k n po (.cons (.int _) (.cons (.int _) .nil)) q.2⟩

/-! ### a < b <= c -/
def wChain (s s' : D → D → (Val → Prop) → Prop) (ta tb tc : WX) : WE := fun env P => ta env fun oa env1 => tb env1 fun ob env2 => ∃ x y, oa.res env2 = some x ∧ ob.res env2 = some y ∧ s x y fun val => ∃ b, val.d = .bl b ∧
  if b then tc env2 fun oc env3 => ∃ y z, ob.res env3 = some y ∧ oc.res env3 = some z ∧ s' y z fun val => P val env3 else P (fz (.bl false)) env2
theorem chain_lift {r r' : R2} {s s' : D → D → (Val → Prop) → Prop} (hl : BinL K mg r s) (hl' : BinL K mg r' s') {ta tb tc : WX} {σ : L2.St} {Q : VK} (h : liftE K mg (wChain s s' ta tb tc) σ H Q) :
    tChain r r' (liftX K mg ta) (liftX K mg tb) (liftX K mg tc) σ H Q := by
  obtain ⟨oh, τ, env, P, e0, S, t, k⟩ := h
  refine ⟨oh, τ, env, _, e0, S, t, fun va oa env1 H1 e1 a1 S1 s1 t1 => ?_⟩
  refine ⟨oh, oa.cell va :: τ, env1, _, e1, S1, t1, fun vb ob env2 H2 e2 a2 S2 s2 ⟨x, y, rx, ry, q⟩ => ?_⟩
  have hA : ∀ {L : Lay}, roots ([ob.cell vb, oa.cell va] ++ L) = roots L := by
    intro L
    show roots (ob.cell vb :: oa.cell va :: L) = _
    rw [roots_cell, roots_cell]
  have hA2 : ∀ {L : Lay}, hotL oh ([ob.cell vb, oa.cell va] ++ L) = hotL oh L := by intro L; unfold hotL; rw [hA]
  have S2' : StR K mg oh H2 ([ob.cell vb, oa.cell va] ++ (τ ++ σ.zip env2)) := S2
  have h1 := opd_reads e2 hA2 S2' a1 (by simp) rx
  have h2 := opd_reads e2 hA2 S2' a2 (by simp) ry
  have hO : ∀ {L : Lay}, roots ([oa.cell va] ++ L) = roots L := by intro L; exact roots_cell
  have sw : ([ob.cell vb, oa.cell va] ++ (τ ++ σ.zip env2) : Lay).Perm ([oa.cell va] ++ (ob.cell vb :: (τ ++ σ.zip env2))) := List.Perm.swap _ _ _
  have S2s : StR K mg oh H2 ([oa.cell va] ++ (ob.cell vb :: (τ ++ σ.zip env2))) := S2'.perm sw
  have s12 : Step (τ ++ σ.zip env) H ([oa.cell va] ++ (ob.cell vb :: (τ ++ σ.zip env2))) H2 := (s1.trans s2).permR sw
  have hh2 : hotL oh (ob.cell vb :: (τ ++ σ.zip env2)) = hotL oh (τ ++ σ.zip env2) := by unfold hotL; rw [roots_cell]
  refine hl _ H2 va vb x y _ _ (fun a ha => S2'.right.hot_there ha) h1 h2 q fun v val H3 T st ⟨b, hb, p⟩ => ?_
  have T' : StR K mg (hotL oh (ob.cell vb :: (τ ++ σ.zip env2))) H3 [(some v, some val)] := by rw [hh2]; exact T
  obtain ⟨S3, s3⟩ := over_cells hO S2s s12 T' st
  obtain rfl : v = .bl b := S3.head.to_bl hb
  have S4 : StR K mg oh H3 (ob.cell vb :: (τ ++ σ.zip env2)) := S3.tail
  have s4 : Step (τ ++ σ.zip env) H (ob.cell vb :: (τ ++ σ.zip env2)) H3 := s3.lessR fun a ha => roots_cons_sub a ha
  refine ⟨b, rfl, ?_⟩
  cases b with
  | false =>
    have S5 : StR K mg oh H3 (τ ++ σ.zip env2) := S4.tail
    have s5 : Step (τ ++ σ.zip env) H (τ ++ σ.zip env2) H3 := s4.lessR fun a ha => roots_cons_sub a ha
    exact k (.bl false) (fz (.bl false)) env2 H3 e2 (S5.push (StR.one_fro (fun a ha => S5.hot_there ha) (.bl _)) Step.one_fro) (s5.trans (Step.one_fro.push)) p
  | true =>
    refine ⟨oh, ob.cell vb :: τ, env2, _, e2, S4, p, fun vc oc env3 H4 e3 a3 S5 s5 ⟨y', z, ry', rz, q'⟩ => ?_⟩
    have hB : ∀ {L : Lay}, roots ([oc.cell vc, ob.cell vb] ++ L) = roots L := by
      intro L
      show roots (oc.cell vc :: ob.cell vb :: L) = _
      rw [roots_cell, roots_cell]
    have hB2 : ∀ {L : Lay}, hotL oh ([oc.cell vc, ob.cell vb] ++ L) = hotL oh L := by intro L; unfold hotL; rw [hB]
    have S5' : StR K mg oh H4 ([oc.cell vc, ob.cell vb] ++ (τ ++ σ.zip env3)) := S5
    have g1 := opd_reads e3 hB2 S5' a2 (by simp) ry'
    have g2 := opd_reads e3 hB2 S5' a3 (by simp) rz
    refine hl' _ H4 vb vc y' z _ Q (fun a ha => S5'.right.hot_there ha) g1 g2 q' fun v2 val2 H5 T2 st2 p2 => ?_
    obtain ⟨S6, s6⟩ := over_cells hB S5' (s4.trans s5) T2 st2
    exact k v2 val2 env3 H5 e3 S6 s6 p2

/-! ### list(range(..)) -/
def sLrg : S1
  | .int n, P => (-(2 ^ 62) ≤ n ∧ n ≤ 16777216) ∧ P ⟨true, .lst (rngD 0 n.toNat)⟩
  | _, _ => False
def rLrg : V → Hp → VK → Prop := fun x H Q => ∃ n, x = .int n ∧ RgOk 0 n ∧ ∀ q, H q = none → Q (.ref q) (upd H q (.lst (rgV 0 n)))
theorem reps_rg {n : Int} : Reps K mg hot H (rgV 0 n) (rngD 0 n.toNat) := by
  have : ∀ (l : List Nat), Reps K mg hot H (l.map fun (i : Nat) => V.int (0 + (i : Int))) (l.map fun (i : Nat) => D.int (0 + (i : Int))) := by
    intro l
    induction l with
    | nil => exact .nil
    | cons a l ih => exact .cons (.int _) ih
  have h := this (List.range n.toNat)
  unfold rgV rngD
  simpa using h
theorem ul_lrg : UnL K mg rLrg sLrg := by
  intro hot H x dx P Q hh rx q k
  match dx, q with
  | .int n, q =>
    obtain rfl := rx.int
    obtain ⟨⟨q1, q2⟩, q⟩ := q
    exact ⟨n, rfl, by unfold RgOk; (try simp only [slen]); omega, fun p hp => post_lst hh k hp reps_rg q⟩
end
/-! ### zip of two lists or two tuples -/
def wiZipA (t : WXs) : WI := fun env P => t env fun os env1 => ∃ d e, tms os = some [d, e] ∧ ∃ ds es, ((d = .lst ds ∧ e = .lst es) ∨ (d = .tup ds ∧ e = .tup es)) ∧ P (zipD ds es) env1
section
variable {K : PySem.W.Frag} {mg : Str → Option Value} {hot : Pr} {H : Hp}
theorem items_zipT {a b : Addr} {vs ws : List V} {ds es : List D} (h : TpF K hot H a vs) (r : Reps K mg hot H vs ds) (h2 : TpF K hot H b ws) (r2 : Reps K mg hot H ws es) : ItemsOk K mg hot H (RZ.ItzT K a b) (zipD ds es) where
  turn := fun hot' H' i d kp hh hd => by
    obtain ⟨y, z, hy, hz, rfl⟩ := zipD_get hd
    have h' := (kp.tp h).sq
    have h2' := (kp.tp h2).sq
    obtain ⟨v, hv, rv⟩ := r.get hy
    obtain ⟨w, hw, rw'⟩ := r2.get hz
    refine ⟨⟨vs, ws, v, w, h', h2', hv, hw⟩, fun x H2 q => ?_⟩
    obtain ⟨T, p, p2, rfl, n, rfl, q1, q2⟩ := q
    have e1 := q1 vs h'
    rw [hv] at e1
    cases e1
    have e2 := q2 ws h2'
    rw [hw] at e2
    cases e2
    exact ⟨StR.new_lse hh n (.cons (rv.mono kp) (.cons (rw'.mono kp) .nil)), Step.new_fro n⟩
  stop := fun hot' H' i kp hi => ⟨vs, ws, (kp.tp h).sq, (kp.tp h2).sq, by rw [r.length, r2.length]; rw [zipD_len] at hi; omega⟩
theorem zipA_items {t : WXs} {σ : L2.St} {R : It → Hp → Prop} (h : liftI K mg (wiZipA t) σ H R) : RZ.iZipA K (liftXs K mg t) σ H R := by
  obtain ⟨oh, τ, env, P, e0, S, t1, k⟩ := h
  refine ⟨oh, τ, env, _, e0, S, t1, fun vs os env1 H1 e1 a1 S1 s1 ⟨d, e, hr, ds, es, hd, p⟩ => ?_⟩
  have r := tms_reps S1 a1 hr fun c hc => List.mem_append_left _ hc
  rw [hot_cells] at r
  have fin := fun J I => k (zipD ds es) env1 H1 J e1 S1.right (s1.lessR fun a ha => roots_app_sub a ha) I p
  cases r with
  | cons r1 r2 =>
    cases r2 with
    | cons r2 r3 =>
      cases r3
      rcases hd with ⟨rfl, rfl⟩ | ⟨rfl, rfl⟩
      · cases r1 with
        | lst hl rs =>
          cases r2 with
          | lst hl2 rs2 => exact ⟨_, _, _, _, rfl, .inl ⟨hl.sq, hl2.sq, fin _ (items_zip hl rs hl2 rs2)⟩⟩
      · cases r1 with
        | tup hl rs =>
          cases r2 with
          | tup hl2 rs2 => exact ⟨_, _, _, _, rfl, .inr ⟨hl.sq, hl2.sq, fin _ (items_zipT hl rs hl2 rs2)⟩⟩
end
/-! ### x[j] as a target -/
def gwIx (i j : Nat) : WG := fun val env P => ∃ ds, env[i]? = some (some ⟨true, .lst ds⟩) ∧ j < ds.length ∧ P (env.set i (some ⟨true, .lst (ds.set j val.d)⟩))
section
variable {K : PySem.W.Frag} {mg : Str → Option Value} {lent : List Nat}
theorem gix_lift {i j : Nat} {v : V} {σ : L2.St} {H : Hp} {Q : L2.St → Hp → Prop} (h : liftG K mg lent (gwIx i j) v σ H Q) : gSub (tVar i) (tC (.int j)) rSetL v σ H Q := by
  obtain ⟨oh, τ, env, val, P, e0, S, ⟨ds, hx, hj, p⟩, k⟩ := h
  have Sf : StR K mg oh H (((some v, some (fz val.d)) :: τ) ++ σ.zip env) := S.freeze
  obtain ⟨a, vs, ha, h2, h3, put⟩ := slot_put (es := ds.set j val.d) e0 Sf hx
  have rv : Rep K mg (hotL oh (((some v, some (fz val.d)) :: τ) ++ σ.zip env)) H v val.d := by
    have := (show StR K mg oh H ((some v, some (fz val.d)) :: (τ ++ σ.zip env)) from Sf).head_fro
    rw [show (((some v, some (fz val.d)) :: τ) ++ σ.zip env : Lay) = (some v, some (fz val.d)) :: (τ ++ σ.zip env) from rfl, hot_fro]
    exact this
  obtain ⟨S3, s3⟩ := put _ (h3.set rv j)
  refine ⟨_, ha, ?_⟩
  refine ⟨a, vs, (j : Int), j, rfl, rfl, h2, by rw [h3.length]; unfold ixN; rw [if_pos (by omega), if_pos (by omega)]; rfl, ?_⟩
  have S4 : StR K mg oh (upd H a (.lst (vs.set j v))) ((some v, some (fz val.d)) :: (τ ++ σ.zip (env.set i (some ⟨true, .lst (ds.set j val.d)⟩)))) := S3
  refine k σ _ _ (by rw [List.length_set]; exact e0) rfl .refl S4.tail ?_ p
  have s0 : Step ((some v, some val) :: (τ ++ σ.zip env)) H (((some v, some (fz val.d)) :: τ) ++ σ.zip env) H := Step.refl.lessR fun a ha => by
    have ha : a ∈ roots ((some v, some (fz val.d)) :: (τ ++ σ.zip env)) := ha
    rw [roots_fro] at ha
    exact roots_cons_sub a ha
  exact (s0.trans s3).lessR fun a ha => roots_cons_sub (c := (some v, some (fz val.d))) a ha
end
end TL

/-! U2: max, min, sum, sorted, str -/
namespace TL
open PySem PySem.Spec PyProof.Rows L2
def unInts : List D → Option (List Int)
  | [] => some []
  | .int b :: ds => (unInts ds).map (b :: ·)
  | _ => none
@[simp] theorem unInts_nil : unInts [] = some [] := (rfl)
@[simp] theorem unInts_cons (b ds) : unInts (.int b :: ds) = (unInts ds).map (b :: ·) := (rfl)
@[simp] theorem unInts_w (ns : List Int) : unInts (ns.map D.int) = some ns := by
  induction ns with
  | nil => rfl
  | cons w ws ih => rw [List.map_cons, unInts_cons, ih]; rfl
theorem unInts_eq {ds : List D} {ns : List Int} (h : unInts ds = some ns) : ds = ns.map D.int := by
  induction ds generalizing ns with
  | nil => cases h; rfl
  | cons d ds ih =>
    cases d with
    | int b =>
      rw [unInts_cons, Option.map_eq_some_iff] at h
      obtain ⟨l, h1, rfl⟩ := h
      rw [List.map_cons, ← ih h1]
    | _ => cases h
def unStrs : List D → Option (List Str)
  | [] => some []
  | .str b :: ds => (unStrs ds).map (b :: ·)
  | _ => none
@[simp] theorem unStrs_nil : unStrs [] = some [] := (rfl)
@[simp] theorem unStrs_cons (b ds) : unStrs (.str b :: ds) = (unStrs ds).map (b :: ·) := (rfl)
@[simp] theorem unStrs_w (ns : List Str) : unStrs (ns.map D.str) = some ns := by
  induction ns with
  | nil => rfl
  | cons w ws ih => rw [List.map_cons, unStrs_cons, ih]; rfl
theorem unStrs_eq {ds : List D} {ns : List Str} (h : unStrs ds = some ns) : ds = ns.map D.str := by
  induction ds generalizing ns with
  | nil => cases h; rfl
  | cons d ds ih =>
    cases d with
    | str b =>
      rw [unStrs_cons, Option.map_eq_some_iff] at h
      obtain ⟨l, h1, rfl⟩ := h
      rw [List.map_cons, ← ih h1]
    | _ => cases h

section
variable {K : PySem.W.Frag} {mg : Str → Option Value} {X : Cx} {hot : Pr} {H : Hp}
theorem Reps.ints : ∀ {ns : List Int} {vs : List V}, Reps K mg hot H vs (ns.map D.int) → vs = ns.map V.int
  | [], _, .nil => rfl
  | n :: ns, _, .cons h t => by cases h; rw [Reps.ints t]; rfl
theorem Reps.strs : ∀ {ns : List Str} {vs : List V}, Reps K mg hot H vs (ns.map D.str) → vs = ns.map V.str ∧ ∀ s ∈ ns, PyData.strOk s = true
  | [], _, .nil => ⟨rfl, fun _ h => nomatch h⟩
  | n :: ns, _, .cons h t => by
    cases h with
    | str _ h =>
      obtain ⟨a, b⟩ := Reps.strs t
      refine ⟨by rw [a]; rfl, fun s hs => ?_⟩
      rcases List.mem_cons.mp hs with e | hs
      · rw [e]; exact h
      · exact b s hs
theorem reps_ints0 : ∀ ns : List Int, Reps K mg hot H (ns.map V.int) (ns.map D.int)
  | [] => .nil
  | n :: ns => .cons (.int n) (reps_ints0 ns)
theorem reps_strs0 : ∀ {ns : List Str}, (∀ s ∈ ns, PyData.strOk s = true) → Reps K mg hot H (ns.map V.str) (ns.map D.str)
  | [], _ => .nil
  | n :: ns, h => .cons (.str n (h n List.mem_cons_self)) (reps_strs0 fun s hs => h s (List.mem_cons_of_mem _ hs))
def sMax : SN
  | [.int i, .int j], P => P (fz (.int (if j > i then j else i)))
  | [.lst xs], P => ∃ ns, unInts xs = some ns ∧ 0 < ns.length ∧ ∀ m, m ∈ ns → (∀ y, y ∈ ns → y ≤ m) → P (fz (.int m))
  | _, _ => False
def sMin : SN
  | [.int i, .int j], P => P (fz (.int (if j < i then j else i)))
  | [.lst xs], P => ∃ ns, unInts xs = some ns ∧ 0 < ns.length ∧ ∀ m, m ∈ ns → (∀ y, y ∈ ns → m ≤ y) → P (fz (.int m))
  | _, _ => False
def sSum : SN
  | [.lst xs], P => ∃ ns, unInts xs = some ns ∧ P (fz (.int ns.sum))
  | _, _ => False
def sSorted : SN
  | [.lst xs], P => (∃ ns, unInts xs = some ns ∧ ∀ ns' : List Int, ns'.Perm ns → ns'.Pairwise (· ≤ ·) → P ⟨true, .lst (ns'.map .int)⟩) ∨
      ∃ ss, unStrs xs = some ss ∧ ss.length < 64 ∧ ∀ ys : List Str, ys.Perm ss → sortedS ys = true → P ⟨true, .lst (ys.map .str)⟩
  | _, _ => False
def sStr : SN
  | [.int i], P => (-1000000000000000000000000000000 < i ∧ i < 1000000000000000000000000000000) ∧ P (fz (.str (toString i)))
  | [.str s], P => P (fz (.str s))
  | _, _ => False
theorem VRo.lstI {xs : List D} {ns : List Int} {v : V} (r : VRo K mg hot H v (.lst xs)) (h : unInts xs = some ns) : ∃ a, v = .ref a ∧ SqL K H a (ns.map V.int) := by
  obtain ⟨a, vs, rfl, h1, r1⟩ := r.lst
  rw [unInts_eq h] at r1
  exact ⟨a, rfl, r1.ints ▸ h1⟩
def rMaxA (K : PySem.W.Frag) : List V → Hp → VK → Prop := fun xs H Q => (∃ i j, xs = [.int i, .int j] ∧ Q (.int (if j > i then j else i)) H) ∨ rMax K xs H Q
def rMinA (K : PySem.W.Frag) : List V → Hp → VK → Prop := fun xs H Q => (∃ i j, xs = [.int i, .int j] ∧ Q (.int (if j < i then j else i)) H) ∨ rMin K xs H Q
theorem cr_maxA (hc : X.calm = true) : CallR X (.builtin "max") (rMaxA X.K) := CallR.or (call_max2 hc) (cr_max hc)
theorem cr_minA (hc : X.calm = true) : CallR X (.builtin "min") (rMinA X.K) := CallR.or (call_min2 hc) (cr_min hc)
theorem cl_max : CallL K mg (rMaxA K) sMax := by
  intro hot H xs ds P Q hh rx q k
  unfold sMax at q
  split at q
  · obtain ⟨x, y, rfl, r1, r2⟩ := rx.two
    rw [r1.int, r2.int]
    exact .inl ⟨_, _, rfl, post_fz hh k (.int _) q⟩
  · obtain ⟨ns, h1, h2, q⟩ := q
    obtain ⟨x, rfl, r⟩ := rx.one
    obtain ⟨a, rfl, hs⟩ := r.lstI h1
    exact .inr ⟨a, ns, rfl, hs, h2, fun m m1 m2 => post_fz hh k (.int _) (q m m1 m2)⟩
  · exact q.elim
theorem cl_min : CallL K mg (rMinA K) sMin := by
  intro hot H xs ds P Q hh rx q k
  unfold sMin at q
  split at q
  · obtain ⟨x, y, rfl, r1, r2⟩ := rx.two
    rw [r1.int, r2.int]
    exact .inl ⟨_, _, rfl, post_fz hh k (.int _) q⟩
  · obtain ⟨ns, h1, h2, q⟩ := q
    obtain ⟨x, rfl, r⟩ := rx.one
    obtain ⟨a, rfl, hs⟩ := r.lstI h1
    exact .inr ⟨a, ns, rfl, hs, h2, fun m m1 m2 => post_fz hh k (.int _) (q m m1 m2)⟩
  · exact q.elim
theorem cl_sum : CallL K mg (rSum K) sSum := by
  intro hot H xs ds P Q hh rx q k
  unfold sSum at q
  split at q
  · obtain ⟨ns, h1, q⟩ := q
    obtain ⟨x, rfl, r⟩ := rx.one
    obtain ⟨a, rfl, hs⟩ := r.lstI h1
    exact ⟨a, ns, rfl, hs, post_fz hh k (.int _) q⟩
  · exact q.elim
def rSortA (K : PySem.W.Frag) : List V → Hp → VK → Prop := fun xs H Q => rSortedI K xs H Q ∨ rSortedS K xs H Q
theorem cr_sortA : CallR X (.builtin "sorted") (rSortA X.K) := CallR.or cr_sortedI cr_sortedS
theorem cl_sort : CallL K mg (rSortA K) sSorted := by
  intro hot H xs ds P Q hh rx q k
  unfold sSorted at q
  split at q
  · obtain ⟨x, rfl, r⟩ := rx.one
    rcases q with ⟨ns, h1, q⟩ | ⟨ss, h1, h2, q⟩
    · obtain ⟨a, rfl, hs⟩ := r.lstI h1
      exact .inl ⟨a, ns, rfl, hs, fun ns' p pm pw n => post_lst hh k n (reps_ints0 ns') (q ns' pm pw)⟩
    · obtain ⟨a, vs, rfl, hs, r1⟩ := r.lst
      rw [unStrs_eq h1] at r1
      obtain ⟨e1, e2⟩ := r1.strs
      exact .inr ⟨a, ss, rfl, e1 ▸ hs, h2, fun ys p pm so n => post_lst hh k n (reps_strs0 fun s hs => e2 s (pm.mem_iff.mp hs)) (q ys pm so)⟩
  · exact q.elim
def rStrA : List V → Hp → VK → Prop := fun xs H Q => (∃ i, xs = [.int i] ∧ i.natAbs.log2 < 1920 ∧ Q (.str (toString i)) H) ∨ ∃ a, xs = [.str a] ∧ Q (.str a) H
theorem cr_strA : CallR X (.type "str") rStrA := CallR.or call_str_int SkE.call_str_str
theorem cl_str : CallL K mg rStrA sStr := by
  intro hot H xs ds P Q hh rx q k
  unfold sStr at q
  split at q
  · obtain ⟨x, rfl, r⟩ := rx.one
    rw [r.int]
    exact .inl ⟨_, rfl, log_small (by omega), post_fz hh k (.str _ (ok_ofString _)) q.2⟩
  · obtain ⟨x, rfl, r⟩ := rx.one
    obtain ⟨rfl, h⟩ := r.str
    exact .inr ⟨_, rfl, post_fz hh k (.str _ h) q⟩
  · exact q.elim
end
end TL

/-! U3: dicts with keys of ints and strs: d[k], k in d, {}, d[k] = v, d.get -/
namespace TL
open PySem PySem.Spec PyProof.Rows L2
def keyU : D → Option Key
  | .int i => some (.inl i)
  | .str s => some (.inr s)
  | _ => none
theorem keyU_keyD (k : Key) : keyU (keyD k) = some k := by cases k <;> rfl
theorem keyU_eq {d : D} {k : Key} (h : keyU d = some k) : d = keyD k := by
  cases d <;> cases h <;> rfl
def dget : List D → List D → Key → Option D
  | k :: ks, d :: ds, x => if keyU k = some x then some d else dget ks ds x
  | _, _, _ => none
/-- d[k] = v: in its place, or behind all -/
def dput (ks ds : List D) (x : Key) (v : D) : List D × List D :=
  if (ks.any fun k => decide (keyU k = some x)) = true then (ks, List.zipWith (fun k d => if keyU k = some x then v else d) ks ds) else (ks ++ [keyD x], ds ++ [v])
section
variable {K : PySem.W.Frag} {mg : Str → Option Value} {X : Cx} {hot : Pr} {H : Hp}
theorem dget_val : ∀ {kvs : List (Key × V)} {ds : List D} {x : Key}, Reps K mg hot H (kvs.map (·.2)) ds →
    (∀ d, dget (kvs.map fun p => keyD p.1) ds x = some d → ∃ v, valV kvs x = some v ∧ Rep K mg hot H v d) ∧ (dget (kvs.map fun p => keyD p.1) ds x = none → valV kvs x = none)
  | [], _, x, .nil => ⟨fun d h => (nomatch h), fun _ => rfl⟩
  | p :: kvs, d0 :: ds, x, .cons h t => by
    obtain ⟨a, b⟩ := dget_val (x := x) t
    have e : dget ((p :: kvs).map fun p => keyD p.1) (d0 :: ds) x = if keyU (keyD p.1) = some x then some d0 else dget (kvs.map fun p => keyD p.1) ds x := rfl
    rw [e, keyU_keyD]
    by_cases hk : p.1 = x
    · rw [if_pos (by rw [hk]), valV_pos hk]
      exact ⟨fun d hd => by cases hd; exact ⟨_, rfl, h⟩, fun z => by cases z⟩
    · rw [if_neg (fun z => hk (Option.some.inj z)), valV_neg hk]
      exact ⟨a, b⟩
theorem key_V {d : D} {k : Key} {v : V} (h : keyU d = some k) (r : VRo K mg hot H v d) : v = kV k := by
  obtain rfl := keyU_eq h
  cases k with
  | inl i => exact r.int
  | inr s => exact r.str.1
theorem VRo.dic {ks ds : List D} {v : V} (r : VRo K mg hot H v (.dic ks ds)) : ∃ a kvs, v = .ref a ∧ H a = some (.dK kvs) ∧ ks = (kvs.map fun p => keyD p.1) ∧ Reps K mg hot H (kvs.map (·.2)) ds := by
  obtain ⟨o, r⟩ := r
  cases r with
  | fro r =>
    cases r with
    | dicK n h e rs => exact ⟨_, _, rfl, h, e.eq, rs⟩
  | dicK h1 h2 e rs => exact ⟨_, _, rfl, h2, e.eq, rs⟩
theorem VRo.dicO {ks ds : List D} {v : V} (r : VRo K mg hot H v (.dic ks ds)) : ∃ a kvs, v = .ref a ∧ H a = some (.dK kvs) ∧ KsOf kvs ks ∧ Reps K mg hot H (kvs.map (·.2)) ds := by
  obtain ⟨o, r⟩ := r
  cases r with
  | fro r =>
    cases r with
    | dicK n h e rs => exact ⟨_, _, rfl, h, e, rs⟩
  | dicK h1 h2 e rs => exact ⟨_, _, rfl, h2, e, rs⟩
theorem VRo.ldc {ks ds : List D} {v : V} (r : VRo K mg hot H v (.ldc ks ds)) : ∃ a kvs, v = .ref a ∧ Rd H a (.dK kvs) ∧ ks = (kvs.map fun p => keyD p.1) ∧ Reps K mg hot H (kvs.map (·.2)) ds := by
  obtain ⟨o, r⟩ := r
  cases r with
  | fro r =>
    cases r with
    | ldc n h e rs => exact ⟨_, _, rfl, .inr ⟨_, h⟩, e.eq, rs⟩
/-- d[k] -/
def rIxDic : R2 := fun x y H Q => ∃ a v, x = .ref a ∧ DGet H a y (some v) ∧ Q v H
theorem ix_dic (hu : X.A.units + 1 < cLine) : IxR X rIxDic := by
  intro value slice pins s σ H x y v u Q I rx ry h hs
  obtain ⟨a, w, rfl, g, q⟩ := h
  obtain rfl : v = Value.ref a := rx
  exact tail_any (dict_typeIs I g) PySem.F.slot_dict_getitem.lookup (d_getItem hu I g ry fun w' s3 I3 rw' => ⟨w, H, I3, rw', q⟩) hs
def sIxDic : S2
  | .dic ks ds, x, P => ∃ k d, keyU x = some k ∧ dget ks ds k = some d ∧ P (fz d)
  | .ldc ks ds, x, P => ∃ k d, keyU x = some k ∧ dget ks ds k = some d ∧ P (fz d)
  | _, _, _ => False
theorem bl_ixDic : BinL K mg rIxDic sIxDic := by
  intro hot H x y dx dy P Q hh rx ry q k
  cases dx <;> simp only [sIxDic] at q <;> try exact q.elim
  · obtain ⟨key, d, h1, h2, q⟩ := q
    obtain ⟨a, kvs, rfl, h3, rfl, rs⟩ := rx.dic
    obtain ⟨v, e, r⟩ := (dget_val rs).1 d h2
    exact ⟨a, v, rfl, .inl ⟨kvs, key, .inl h3, key_V h1 ry, e.symm⟩, post_fz hh k r q⟩
  · obtain ⟨key, d, h1, h2, q⟩ := q
    obtain ⟨a, kvs, rfl, h3, rfl, rs⟩ := rx.ldc
    obtain ⟨v, e, r⟩ := (dget_val rs).1 d h2
    exact ⟨a, v, rfl, .inl ⟨kvs, key, h3, key_V h1 ry, e.symm⟩, post_fz hh k r q⟩
/-- k in d -/
def rInDic (neg : Bool) : R2 := fun x y H Q => ∃ a o, y = .ref a ∧ DGet H a x o ∧ Q (.bl (if neg then !o.isSome else o.isSome)) H
theorem op_inDic (hu : X.A.units + 1 < cLine) : OpR X (compareOp .In) (rInDic false) := by
  intro pins s σ H x y v u Q I rx ry h
  obtain ⟨a, o, rfl, g, q⟩ := h
  obtain rfl : u = Value.ref a := ry
  exact d_in hu I g rx fun s3 I3 => ⟨.bl o.isSome, H, I3, rfl, q⟩
theorem op_notinDic (hu : X.A.units + 1 < cLine) : OpR X (compareOp .NotIn) (rInDic true) := by
  intro pins s σ H x y v u Q I rx ry h
  obtain ⟨a, o, rfl, g, q⟩ := h
  obtain rfl : u = Value.ref a := ry
  exact d_notIn hu I g rx fun s3 I3 => ⟨.bl (!o.isSome), H, I3, rfl, q⟩
def sInDic (neg : Bool) : S2
  | x, .dic ks ds, P => ∃ k, keyU x = some k ∧ P (fz (.bl (if neg then !(dget ks ds k).isSome else (dget ks ds k).isSome)))
  | _, _, _ => False
theorem bl_inDic (neg : Bool) : BinL K mg (rInDic neg) (sInDic neg) := by
  intro hot H x y dx dy P Q hh rx ry q k
  cases dy <;> simp only [sInDic] at q <;> try exact q.elim
  obtain ⟨key, h1, q⟩ := q
  obtain ⟨a, kvs, rfl, h3, rfl, rs⟩ := ry.dic
  obtain ⟨g1, g2⟩ := dget_val (x := key) rs
  rename_i ds
  have e : (dget (kvs.map fun p => keyD p.1) ds key).isSome = (valV kvs key).isSome := by
    cases hd : dget (kvs.map fun p => keyD p.1) ds key with
    | none => rw [g2 hd]; rfl
    | some d => obtain ⟨v, ev, _⟩ := g1 d hd; rw [ev]; rfl
  rw [e] at q
  exact ⟨a, _, rfl, .inl ⟨kvs, key, .inl h3, key_V h1 rx, rfl⟩, post_fz hh k (.bl _) q⟩
/-- {} -/
def wDnew : WE := fun env P => P ⟨true, .dic [] []⟩ env
theorem dnew_lift {σ : L2.St} {Q : VK} (h : liftE K mg wDnew σ H Q) : tDNewK σ H Q := by
  obtain ⟨oh, τ, env, P, e0, S, t, k⟩ := h
  intro p hp
  have T : StR K mg (hotL oh (τ ++ σ.zip env)) (upd H p (.dK [])) [(some (.ref p), some ⟨true, .dic [] []⟩)] := by
    refine ⟨fun q hq x hx => ?_, ?_, fun a ha => ?_, hot_upd fun a ha => S.hot_there ha⟩
    · obtain rfl := List.mem_singleton.mp hq
      cases hx
      exact ⟨_, rfl, .dicK (.inr (by rw [roots_ownD]; exact List.mem_cons_self)) upd_same ⟨rfl, fun _ z => nomatch z⟩ .nil⟩
    · rw [roots_ownD]; exact List.nodup_cons.mpr ⟨by simp [roots], List.nodup_nil⟩
    · rw [roots_ownD] at ha
      have e : a = p := by simpa [roots] using ha
      subst e
      exact fun q => S.hot_there q hp
  exact k (.ref p) ⟨true, .dic [] []⟩ env _ e0 (S.push T (Step.new_lst hp)) (Step.new_lst hp).push t
end
end TL

/-! U4: x[k] = v of an own list or an own dict -/
namespace TL
open PySem PySem.Spec PyProof.Rows L2
section
variable {K : PySem.W.Frag} {mg : Str → Option Value} {oh : Pr} {H : Hp} {L : Lay}
theorem StR.put_own {a : Addr} {d d' : D} {o' : HO} (S : StR K mg oh H ((some (.ref a), some ⟨true, d⟩) :: L))
    (mk : ∀ (hot' : Pr) (H' : Hp), Keeps (hotL oh ((some (.ref a), some ⟨true, d⟩) :: L)) hot' H H' → hot' a → H' a = some o' → VR K mg hot' H' (.ref a) ⟨true, d'⟩) (hb1 : bx d = [] := by rfl) (hb2 : bx d' = [] := by rfl) :
    StR K mg oh (upd H a o') ((some (.ref a), some ⟨true, d'⟩) :: L) ∧ Step ((some (.ref a), some ⟨true, d⟩) :: L) H ((some (.ref a), some ⟨true, d'⟩) :: L) (upd H a o') := by
  have T : StR K mg (hotL oh L) H [(some (.ref a), some ⟨true, d⟩)] := StR.split (A := [_]) S
  have ne : ∀ b o, H b = some o → b ∉ roots [((some (.ref a), some ⟨true, d⟩) : Cell)] → b ≠ a := fun b o _ n z => n (by subst z; rw [roots_one hb1]; exact List.mem_cons_self)
  have st : Step [((some (.ref a), some ⟨true, d⟩) : Cell)] H [(some (.ref a), some ⟨true, d'⟩)] (upd H a o') :=
    ⟨fun b o e n => by rw [upd_ne (ne b o e n)]; exact e, fun b hb => .inl (by rw [roots_one hb2] at hb; rw [roots_one hb1]; exact hb), fun b e => by
      by_cases q : b = a
      · subst q; rw [upd_same]; simp
      · rw [upd_ne q]; exact e⟩
  refine ⟨StR.frame (A := [_]) (A' := [_]) S ?_ st, Step.frame (A := [_]) (A' := [_]) st⟩
  refine ⟨fun p hp x hx => ?_, by rw [roots_one hb2]; exact List.nodup_cons.mpr ⟨by simp, List.nodup_nil⟩, fun b hb => T.dj b (by rw [roots_one hb2] at hb; rw [roots_one hb1]; exact hb), fun b hb => hot_upd T.tr b hb⟩
  obtain rfl := List.mem_singleton.mp hp
  cases hx
  refine ⟨_, rfl, mk _ _ ⟨fun b o e n => ?_, fun b o _ n q => n ?_⟩ (.inr (by rw [roots_one hb2]; exact List.mem_cons_self)) upd_same⟩
  · rw [upd_ne fun z => n (.inr (by subst z; rw [roots_ownG, hb1]; exact List.mem_cons_self))]
    exact e
  · rcases q with (q | q) | q
    · exact .inl q
    · exact .inr (by rw [roots_ownG, hb1]; exact List.mem_cons_of_mem _ q)
    · rw [roots_one hb2] at q
      exact .inr (by rw [roots_ownG, hb1]; simp at q; subst q; exact List.mem_cons_self)
theorem slot_own {σ : L2.St} {env : EnvD} {τ : Lay} {i : Nat} {d : D} (e0 : σ.length = env.length) (S : StR K mg oh H (τ ++ σ.zip env)) (hx : env[i]? = some (some ⟨true, d⟩)) (hb1 : bx d = [] := by rfl) :
    ∃ a, σ[i]? = some (some (.ref a)) ∧ VR K mg (hotL oh (τ ++ σ.zip env)) H (.ref a) ⟨true, d⟩ ∧ ∀ (d' : D) (o' : HO), (∀ (hot' : Pr) (H' : Hp), Keeps (hotL oh (τ ++ σ.zip env)) hot' H H' → hot' a → H' a = some o' → VR K mg hot' H' (.ref a) ⟨true, d'⟩) → (hb2 : bx d' = [] := by rfl) →
      StR K mg oh (upd H a o') (τ ++ σ.zip (env.set i (some ⟨true, d'⟩))) ∧ Step (τ ++ σ.zip env) H (τ ++ σ.zip (env.set i (some ⟨true, d'⟩))) (upd H a o') := by
  obtain ⟨v, hv, r⟩ := get_slot e0 S hx
  obtain ⟨a, rfl, _, _⟩ := r.own_root
  refine ⟨a, hv, r, fun d' o' mk hb2 => ?_⟩
  obtain ⟨A, B, e1, e2⟩ := zip_split e0 hv hx
  have hset : σ.set i (some (.ref a)) = σ := by
    obtain ⟨hi, he⟩ := List.getElem?_eq_some_iff.mp hv
    rw [← he]; exact List.set_getElem_self hi
  have e3 := e2 (some (.ref a)) (some ⟨true, d'⟩)
  rw [hset] at e3
  have p1 : (τ ++ σ.zip env).Perm ((some (.ref a), some ⟨true, d⟩) :: (τ ++ (A ++ B))) := by rw [e1]; exact perm_mid
  have p2 : (τ ++ σ.zip (env.set i (some ⟨true, d'⟩))).Perm ((some (.ref a), some ⟨true, d'⟩) :: (τ ++ (A ++ B))) := by rw [e3]; exact perm_mid
  have eh : hotL oh (τ ++ σ.zip env) = hotL oh ((some (.ref a), some ⟨true, d⟩) :: (τ ++ (A ++ B))) := by
    funext b
    apply propext
    unfold hotL
    rw [roots_perm p1]
  rw [eh] at mk
  obtain ⟨S2, s2⟩ := (S.perm p1).put_own mk hb1 hb2
  exact ⟨S2.perm p2.symm, (s2.permL p1.symm).permR p2.symm⟩
theorem putK_ok {kvs : List (Key × V)} {k : Key} {v : V} (h : ∀ p ∈ kvs, keyOk p.1) (hk : keyOk k) : ∀ p ∈ putK kvs k v, keyOk p.1 := by
  unfold putK
  split
  · intro p hp
    obtain ⟨q, hq, rfl⟩ := List.mem_map.mp hp
    have := h q hq
    show keyOk (if q.1 = k then (q.1, v) else q).1
    split <;> exact this
  · intro p hp
    rcases List.mem_append.mp hp with z | z
    · exact h p z
    · rw [List.mem_singleton.mp z]; exact hk
theorem key_ok {hot : Pr} {d : D} {k : Key} {v : V} (h : keyU d = some k) (r : VRo K mg hot H v d) : keyOk k := by
  obtain rfl := keyU_eq h
  cases k with
  | inl i => trivial
  | inr s => exact r.str.2
/-- x[k] = e: of an own dict -/
def wsPutD (i : Nat) (tv ti : WE) : WS := fun env P => tv env fun val env1 => (∃ x, env1[i]? = some (some x)) ∧ ti env1 fun iv env2 => ∃ ks ds k, env2[i]? = some (some ⟨true, .dic ks ds⟩) ∧ keyU iv.d = some k ∧ ks.length < 16777216 ∧
  P .nx (env2.set i (some ⟨true, .dic (dput ks ds k val.d).1 (dput ks ds k val.d).2⟩))
/-- either -/
def wsSetA (i : Nat) (tv ti : WE) : WS := fun env P => tv env fun val env1 => (∃ x, env1[i]? = some (some x)) ∧ ti env1 fun iv env2 =>
  (∃ ds j k, env2[i]? = some (some ⟨true, .lst ds⟩) ∧ iv.d = .int j ∧ ixN ds.length j = some k ∧ P .nx (env2.set i (some ⟨true, .lst (ds.set k val.d)⟩))) ∨
  ∃ ks ds k, env2[i]? = some (some ⟨true, .dic ks ds⟩) ∧ keyU iv.d = some k ∧ ks.length < 16777216 ∧ P .nx (env2.set i (some ⟨true, .dic (dput ks ds k val.d).1 (dput ks ds k val.d).2⟩))
def rSetA : V → V → V → Hp → (Hp → Prop) → Prop := fun o i v H Q => rSetL o i v H Q ∨ ∃ a H', o = .ref a ∧ DPut H a i v H' ∧ Q H'
theorem set_any {X : Cx} (hu : X.A.units + 1 < cLine) : PSet X rSetA := by
  intro pins s σ H o i v ov iv u Q I ro ri rv h
  rcases h with h | ⟨a, H', rfl, g, q⟩
  · exact set_list pins s σ H o i v ov iv u Q I ro ri rv h
  · obtain rfl : ov = Value.ref a := ro
    exact d_setItem hu I g ri rv fun s' I' => ⟨H', I', q⟩
theorem any_key {kvs : List (Key × V)} {x : Key} : ((kvs.map fun p => keyD p.1).any fun k => decide (keyU k = some x)) = kvs.any fun kv => decide (kv.1 = x) := by
  rw [List.any_map]
  congr 1
  funext p
  show decide (keyU (keyD p.1) = some x) = _
  rw [keyU_keyD]
  exact decide_eq_decide.mpr ⟨Option.some.inj, fun h => by rw [h]⟩
theorem dput_rep {hot : Pr} {kvs : List (Key × V)} {ds : List D} {x : Key} {v : V} {d : D} (r : Reps K mg hot H (kvs.map (·.2)) ds) (rv : Rep K mg hot H v d) :
    (dput (kvs.map fun p => keyD p.1) ds x d).1 = ((putK kvs x v).map fun p => keyD p.1) ∧ Reps K mg hot H ((putK kvs x v).map (·.2)) (dput (kvs.map fun p => keyD p.1) ds x d).2 := by
  unfold dput putK
  rw [any_key]
  split
  · refine ⟨?_, ?_⟩
    · rw [List.map_map]
      apply List.map_congr_left
      intro p _
      show keyD p.1 = keyD (if p.1 = x then (p.1, v) else p).1
      split <;> rfl
    · show Reps K mg hot H ((kvs.map fun kv => if kv.1 = x then (kv.1, v) else kv).map (·.2)) (List.zipWith (fun k d' => if keyU k = some x then d else d') (kvs.map fun p => keyD p.1) ds)
      rename_i hany; clear hany
      induction kvs generalizing ds with
      | nil => cases r; exact .nil
      | cons p kvs ih =>
        obtain ⟨d0, ds, rfl⟩ : ∃ d0 ds', ds = d0 :: ds' := by cases r with | cons h t => exact ⟨_, _, rfl⟩
        cases r with
        | cons h t =>
          show Reps K mg hot H ((if p.1 = x then (p.1, v) else p).2 :: _) ((if keyU (keyD p.1) = some x then d else d0) :: _)
          rw [keyU_keyD]
          refine .cons ?_ (ih t)
          by_cases hk : p.1 = x
          · rw [if_pos hk, if_pos (by rw [hk])]; exact rv
          · rw [if_neg hk, if_neg (fun z => hk (Option.some.inj z))]; exact h
  · refine ⟨?_, ?_⟩
    · show _ ++ [keyD x] = (kvs ++ [(x, v)]).map _
      rw [List.map_append]; rfl
    · show Reps K mg hot H ((kvs ++ [(x, v)]).map (·.2)) (ds ++ [d])
      rw [List.map_append]
      exact r.append (.cons rv .nil)
end
section
variable {K : PySem.W.Frag} {mg : Str → Option Value} {lent : List Nat} {Y : Ends} {σ : L2.St} {H : Hp}
theorem setA_lift {i : Nat} {tv ti : WE} (h : liftS K mg lent (wsSetA i tv ti) Y σ H) : tAsg (liftE K mg tv) (gSub (tVar i) (liftE K mg ti) rSetA) Y σ H := by
  obtain ⟨oh, env, P, e0, S, t1, k⟩ := h
  refine ⟨oh, [], env, _, e0, S, t1, fun v val env1 H1 e1 S1 s1 ⟨⟨x0, hx0⟩, t2⟩ => ?_⟩
  have S1f := S1.freeze
  have s1f := s1.freeze
  obtain ⟨w, hw, _⟩ := get_slot (τ := []) e1 S1.tail hx0
  refine ⟨w, hw, oh, [(some v, some (fz val.d))], env1, _, e1, S1f, t2, fun vi iv env2 H2 e2 S2 s2 q => ?_⟩
  have s12 : Step (σ.zip env) H ([(some v, some (fz val.d))] ++ σ.zip env2) H2 := (s1f.trans s2).lessR fun a ha => roots_cons_sub a ha
  have rv : Rep K mg (hotL oh ([(some v, some (fz val.d))] ++ σ.zip env2)) H2 v val.d := by
    have := S2.tail.head_fro
    rw [show ([(some v, some (fz val.d))] ++ σ.zip env2 : Lay) = (some v, some (fz val.d)) :: σ.zip env2 from rfl, hot_fro]
    exact this
  rcases q with ⟨ds, j, kk, hx, hj, hk, p⟩ | ⟨ks, ds, key, hx, hk, hl, p⟩
  · obtain ⟨a, vs, ha, h2, h3, put⟩ := slot_put (es := ds.set kk val.d) e2 S2.tail hx
    rw [hw] at ha
    cases ha
    obtain ⟨S3, s3⟩ := put _ (h3.set rv kk)
    refine .inl ⟨a, vs, j, kk, rfl, S2.head.to_int hj, h2, by rw [h3.length]; exact hk, ?_⟩
    exact k.nx σ _ _ (by rw [List.length_set]; exact e2) rfl .refl S3.tail ((s12.trans s3).lessR fun a ha => roots_cons_sub a ha) p
  · obtain ⟨a, ha, r, put⟩ := slot_own e2 S2.tail hx
    rw [hw] at ha
    cases ha
    cases r with
    | dicK h1 h2 e rs =>
      rename_i kvs
      obtain ⟨e, ok1⟩ := e
      subst e
      have kok : keyOk key := key_ok hk ⟨iv.own, S2.head⟩
      obtain ⟨q1, q2⟩ := dput_rep (x := key) rs rv
      obtain ⟨S3, s3⟩ := put (.dic (dput (kvs.map fun p => keyD p.1) ds key val.d).1 (dput (kvs.map fun p => keyD p.1) ds key val.d).2) (.dK (putK kvs key v)) fun hot' H' kp hh e' => .dicK hh e' ⟨q1, putK_ok ok1 kok⟩ (q2.mono kp)
      have kv : vi = kV key := key_V hk ⟨iv.own, S2.head⟩
      refine .inr ⟨a, _, rfl, .inl ⟨kvs, key, h2, kv, by rw [slen]; rw [List.length_map] at hl; exact hl, rfl⟩, ?_⟩
      exact k.nx σ _ _ (by rw [List.length_set]; exact e2) rfl .refl S3.tail ((s12.trans s3).lessR fun a ha => roots_cons_sub a ha) p
end
end TL

/-! U5: d.get(k), d.get(k, x) -/
namespace TL
open PySem PySem.Spec PyProof.Rows L2
def plainD : D → Bool
  | .lst _ => false
  | .dic _ _ => false
  | .box _ => false
  | _ => true
theorem VRo.rep_plain {K : PySem.W.Frag} {mg : Str → Option Value} {hot : Pr} {H : Hp} {v : V} {d : D} (r : VRo K mg hot H v d) (h : plainD d = true) : Rep K mg hot H v d := by
  obtain ⟨o, r⟩ := r
  cases r with
  | fro r => exact r
  | lst _ _ _ => cases h
  | dicK _ _ _ _ => cases h
  | boxT _ _ _ => cases h
  | boxL _ _ _ => cases h
  | boxD _ _ _ _ => cases h
def wDget1 (ta ty : WX) : WE := fun env P => ta env fun oa env1 => (∃ ks ds, oa.res env1 = some (.dic ks ds)) ∧ ty env1 fun ob env2 => ∃ ks ds y k, oa.res env2 = some (.dic ks ds) ∧ ob.res env2 = some y ∧ keyU y = some k ∧ P (fz ((dget ks ds k).getD .non)) env2
section
variable {K : PySem.W.Frag} {mg : Str → Option Value} {H : Hp}
theorem dget1_lift {ta ty : WX} {σ : L2.St} {Q : VK} (h : liftE K mg (wDget1 ta ty) σ H Q) : tDGet1 (liftX K mg ta) (liftX K mg ty) σ H Q := by
  obtain ⟨oh, τ, env, P, e0, S, t, k⟩ := h
  refine ⟨oh, τ, env, _, e0, S, t, fun va oa env1 H1 e1 a1 S1 s1 ⟨⟨ks0, ds0, r0⟩, t1⟩ => ?_⟩
  have hO : ∀ {L : Lay}, hotL oh ([oa.cell va] ++ L) = hotL oh L := by intro L; exact hot_cell
  obtain ⟨a, kvs0, rfl, rd0, _, _⟩ := (opd_reads e1 hO (A := [oa.cell va]) S1 a1 (by simp) r0).dic
  refine ⟨a, rfl, .inl ⟨kvs0, .inl rd0⟩, oh, oa.cell (.ref a) :: τ, env1, _, e1, S1, t1, fun vb ob env2 H2 e2 a2 S2 s2 ⟨ks, ds, y, key, ra, rb, hk, p⟩ => ?_⟩
  have hA : ∀ {L : Lay}, roots ([ob.cell vb, oa.cell (.ref a)] ++ L) = roots L := by
    intro L
    show roots (ob.cell vb :: oa.cell (.ref a) :: L) = _
    rw [roots_cell, roots_cell]
  have hA2 : ∀ {L : Lay}, hotL oh ([ob.cell vb, oa.cell (.ref a)] ++ L) = hotL oh L := by intro L; unfold hotL; rw [hA]
  have S2' : StR K mg oh H2 ([ob.cell vb, oa.cell (.ref a)] ++ (τ ++ σ.zip env2)) := S2
  obtain ⟨a', kvs, ea, rd, rfl, rs⟩ := (opd_reads e2 hA2 S2' a1 (by simp) ra).dic
  cases ea
  have ry := opd_reads e2 hA2 S2' a2 (by simp) rb
  obtain ⟨g1, g2⟩ := dget_val (x := key) rs
  refine ⟨valV kvs key, .inl ⟨kvs, key, .inl rd, key_V hk ry, rfl⟩, ?_⟩
  have rr : Rep K mg (hotL oh (τ ++ σ.zip env2)) H2 ((valV kvs key).getD .non) ((dget (kvs.map fun p => keyD p.1) ds key).getD .non) := by
    cases hd : dget (kvs.map fun p => keyD p.1) ds key with
    | none => rw [g2 hd]; exact .non
    | some d => obtain ⟨v, ev, r⟩ := g1 d hd; rw [ev]; exact r
  have Sr : StR K mg oh H2 (τ ++ σ.zip env2) := S2'.right
  have sr : Step (τ ++ σ.zip env) H (τ ++ σ.zip env2) H2 := (s1.trans s2).lessR fun b hb => by rw [← hA] at hb; exact hb
  exact k _ _ env2 H2 e2 (Sr.push (StR.one_fro (fun b hb => Sr.hot_there hb) rr) Step.one_fro) (sr.trans Step.one_fro.push) p
end
def wDget2 (ta ty tx : WX) : WE := fun env P => ta env fun oa env1 => (∃ ks ds, oa.res env1 = some (.dic ks ds)) ∧ ty env1 fun ob env2 => tx env2 fun oc env3 => ∃ ks ds y z k, oa.res env3 = some (.dic ks ds) ∧ ob.res env3 = some y ∧ oc.res env3 = some z ∧
  keyU y = some k ∧ plainD z = true ∧ P (fz ((dget ks ds k).getD z)) env3
section
variable {K : PySem.W.Frag} {mg : Str → Option Value} {H : Hp}
theorem dget2_lift {ta ty tx : WX} {σ : L2.St} {Q : VK} (h : liftE K mg (wDget2 ta ty tx) σ H Q) : tDGet2 (liftX K mg ta) (liftX K mg ty) (liftX K mg tx) σ H Q := by
  obtain ⟨oh, τ, env, P, e0, S, t, k⟩ := h
  refine ⟨oh, τ, env, _, e0, S, t, fun va oa env1 H1 e1 a1 S1 s1 ⟨⟨ks0, ds0, r0⟩, t1⟩ => ?_⟩
  have hO : ∀ {L : Lay}, hotL oh ([oa.cell va] ++ L) = hotL oh L := by intro L; exact hot_cell
  obtain ⟨a, kvs0, rfl, rd0, _, _⟩ := (opd_reads e1 hO (A := [oa.cell va]) S1 a1 (by simp) r0).dic
  refine ⟨a, rfl, .inl ⟨kvs0, .inl rd0⟩, oh, oa.cell (.ref a) :: τ, env1, _, e1, S1, t1, fun vb ob env2 H2 e2 a2 S2 s2 t2 => ?_⟩
  refine ⟨oh, ob.cell vb :: oa.cell (.ref a) :: τ, env2, _, e2, S2, t2, fun vc oc env3 H3 e3 a3 S3 s3 ⟨ks, ds, y, z, key, ra, rb, rc, hk, hz, p⟩ => ?_⟩
  have hA : ∀ {L : Lay}, roots ([oc.cell vc, ob.cell vb, oa.cell (.ref a)] ++ L) = roots L := by
    intro L
    show roots (oc.cell vc :: ob.cell vb :: oa.cell (.ref a) :: L) = _
    rw [roots_cell, roots_cell, roots_cell]
  have hA2 : ∀ {L : Lay}, hotL oh ([oc.cell vc, ob.cell vb, oa.cell (.ref a)] ++ L) = hotL oh L := by intro L; unfold hotL; rw [hA]
  have S3' : StR K mg oh H3 ([oc.cell vc, ob.cell vb, oa.cell (.ref a)] ++ (τ ++ σ.zip env3)) := S3
  obtain ⟨a', kvs, ea, rd, rfl, rs⟩ := (opd_reads e3 hA2 S3' a1 (by simp) ra).dic
  cases ea
  have ry := opd_reads e3 hA2 S3' a2 (by simp) rb
  have rz := (opd_reads e3 hA2 S3' a3 (by simp) rc).rep_plain hz
  obtain ⟨g1, g2⟩ := dget_val (x := key) rs
  refine ⟨valV kvs key, .inl ⟨kvs, key, .inl rd, key_V hk ry, rfl⟩, ?_⟩
  have rr : Rep K mg (hotL oh (τ ++ σ.zip env3)) H3 ((valV kvs key).getD vc) ((dget (kvs.map fun p => keyD p.1) ds key).getD z) := by
    cases hd : dget (kvs.map fun p => keyD p.1) ds key with
    | none => rw [g2 hd]; exact rz
    | some d => obtain ⟨v, ev, r⟩ := g1 d hd; rw [ev]; exact r
  have Sr : StR K mg oh H3 (τ ++ σ.zip env3) := S3'.right
  have sr : Step (τ ++ σ.zip env) H (τ ++ σ.zip env3) H3 := (s1.trans (s2.trans s3)).lessR fun b hb => by rw [← hA] at hb; exact hb
  exact k _ _ env3 H3 e3 (Sr.push (StR.one_fro (fun b hb => Sr.hot_there hb) rr) Step.one_fro) (sr.trans Step.one_fro.push) p
end
end TL

/-! U6: sorted of any alike data -/
namespace TL
open PySem PySem.Spec PyProof.Rows L2
def pyT (d : D) : PyData := (toPy d).getD .none
/-- x no greater than y, as the sort asks -/
def leS (x y : D) : Bool := PySem.W.dataLe false pyT x y
def sortD (xs : List D) : List D := xs.mergeSort leS
def alikeD (xs : List D) : Bool := xs.all fun x => xs.all fun y => PySem.W.alike (pyT x) (pyT y)
def isTup1 : D → Bool
  | .tup (_ :: _) => true
  | _ => false
def noTup : D → Bool
  | .tup _ => false
  | .non => false
  | _ => true
def okSort (xs : List D) : Bool := pures xs && alikeD xs && (xs.all isTup1 || xs.all noTup) && xs.all fun x => decide (depthD x ≤ 20)
theorem pures_mem : ∀ {xs : List D}, pures xs = true → ∀ x ∈ xs, pure' x = true
  | [], _, x, h => by cases h
  | y :: ys, hp, x, h => by
    have hp' : (pure' y && pures ys) = true := hp
    rw [Bool.and_eq_true] at hp'
    rcases List.mem_cons.mp h with e | h
    · rw [e]; exact hp'.1
    · exact pures_mem hp'.2 x h
theorem toPy_T {d : D} (h : pure' d = true) : toPy d = some (pyT d) := by
  obtain ⟨p, e⟩ := toPy_pure d h
  unfold pyT
  rw [e]; rfl
/-- a new list: what is sorted, each item of which goes with its datum -/
def rSortedDat (K : PySem.W.Frag) : List V → Hp → VK → Prop := fun vs H Q => ∃ (a : Addr) (bs : List (V × PyData)), vs = [V.ref a] ∧ SqL K H a (bs.map (·.1)) ∧ (∀ b ∈ bs, Dp K H b.1 b.2) ∧ PySem.W.AllAlike (bs.map (·.2)) ∧ PySem.W.Sortable (bs.map (·.2)) ∧ (∀ b ∈ bs, b.2.depth ≤ 20) ∧
  ∀ p, H p = none → Q (.ref p) (upd H p (.lst ((bs.mergeSort (PySem.W.dataLe false (·.2))).map (·.1))))
section
variable {X : Cx}
theorem each_zip {pins : List (Addr × Obj)} {σ : L2.St} {H : Hp} {s : Shared} (I : L2.Inv X pins σ H s) : ∀ {bs : List (V × PyData)} {us : List Value}, Vals (bs.map (·.1)) us → (∀ b ∈ bs, Dp X.K H b.1 b.2) →
    PySem.W.EachIs (fun u (b : V × PyData) => RelV b.1 u) us bs ∧ PySem.W.EachIs (fun u (b : V × PyData) => ∃ as, Reads s.heap u b.2 as) us bs
  | [], _, .nil, _ => ⟨.nil, .nil⟩
  | b :: bs, _, .cons r t, h => by
    obtain ⟨e1, e2⟩ := each_zip I t fun c hc => h c (List.mem_cons_of_mem _ hc)
    exact ⟨.cons r e1, .cons (Dp.reads I b.2 b.1 _ (h b List.mem_cons_self) r) e2⟩
theorem each_vals : ∀ {bs : List (V × PyData)} {us : List Value}, PySem.W.EachIs (fun u (b : V × PyData) => RelV b.1 u) us bs → Vals (bs.map (·.1)) us
  | _, _, .nil => .nil
  | _, _, .cons h t => .cons h (each_vals t)
theorem cr_sortedDat (hu : X.A.units + 64 < cLine) : CallR X (.builtin "sorted") (rSortedDat X.K) := by
  intro pins s σ H vs us Q I r h
  obtain ⟨a, bs, rfl, hs, hd, hal, hso, hdp, q⟩ := h
  obtain ⟨its, rv, hl, hz⟩ := I.list hs
  obtain ⟨u, rfl, ru⟩ := vals1 r
  obtain rfl : u = Value.ref a := ru
  obtain ⟨e1, e2⟩ := each_zip I rv hd
  have hlen : bs.length ≤ sizeLine := by
    have := rv.length
    rw [List.length_map] at this
    rw [List.length_map] at hz
    omega
  refine PySem.W.sorted_data hl.isList e1 e2 hal hso hlen (fun b hb => by have := hdp b hb; omega) fun out ho eo => ?_
  obtain ⟨ep, he'⟩ := PyProof.Rows.sortedAll_at s.heap its out.toArray
  have hv := each_vals eo
  refine ⟨.ref _, upd H (s.heap.objs.size + 1) (.lst ((bs.mergeSort (PySem.W.dataLe false (·.2))).map (·.1))), I.laid (t' := s.toks) (fun _ _ => PyProof.Rows.sortedAll_old) (Nat.le_succ _) ⟨?_, _, ep, hv, he'⟩, rfl, q _ (I.hok.fresh (Nat.le_succ _))⟩
  rw [List.length_map, (List.mergeSort_perm _ _).length_eq]
  exact hlen
end
section
variable {K : PySem.W.Frag} {mg : Str → Option Value} {X : Cx} {hot : Pr} {H : Hp}
/-- items, their values and their data in a row -/
theorem Reps.triples : ∀ {ds : List D} {vs : List V}, Reps K mg hot H vs ds → ∃ ts : List (V × D), vs = ts.map (·.1) ∧ ds = ts.map (·.2) ∧ ∀ t ∈ ts, Rep K mg hot H t.1 t.2
  | _, _, .nil => ⟨[], rfl, rfl, fun _ h => nomatch h⟩
  | _, _, .cons h t => by
    obtain ⟨ts, rfl, rfl, e⟩ := Reps.triples t
    refine ⟨(_, _) :: ts, rfl, rfl, fun t ht => ?_⟩
    rcases List.mem_cons.mp ht with rfl | ht
    · exact h
    · exact e t ht
theorem reps_of : ∀ {ts : List (V × D)}, (∀ t ∈ ts, Rep K mg hot H t.1 t.2) → Reps K mg hot H (ts.map (·.1)) (ts.map (·.2))
  | [], _ => .nil
  | t :: ts, h => .cons (h t List.mem_cons_self) (reps_of fun u hu => h u (List.mem_cons_of_mem _ hu))
theorem okSort_data {xs : List D} (h : okSort xs = true) : pures xs = true ∧ PySem.W.AllAlike (xs.map pyT) ∧ PySem.W.Sortable (xs.map pyT) ∧ ∀ x ∈ xs, (pyT x).depth ≤ 20 := by
  unfold okSort at h
  simp only [Bool.and_eq_true, Bool.or_eq_true, List.all_eq_true, decide_eq_true_eq] at h
  obtain ⟨⟨⟨h1, h2⟩, h3⟩, h4⟩ := h
  refine ⟨h1, fun d hd d' hd' => ?_, ?_, fun x hx => ?_⟩
  · obtain ⟨x, hx, rfl⟩ := List.mem_map.mp hd
    obtain ⟨y, hy, rfl⟩ := List.mem_map.mp hd'
    unfold alikeD at h2
    exact List.all_eq_true.mp (List.all_eq_true.mp h2 x hx) y hy
  · rcases h3 with h3 | h3
    · refine .inl fun d hd => ?_
      obtain ⟨x, hx, rfl⟩ := List.mem_map.mp hd
      have h := h3 x hx
      have hp := pures_mem h1 x hx
      have e := toPy_T hp
      cases x with
      | tup ys =>
        obtain ⟨ps, e1, e2⟩ := toPy_tup e
        cases ys with
        | nil => cases h
        | cons y ys =>
          obtain ⟨q, qs, _, _, rfl⟩ := toPys_cons e1
          exact ⟨q, qs, e2⟩
      | _ => cases h
    · refine .inr fun d hd => ?_
      obtain ⟨x, hx, rfl⟩ := List.mem_map.mp hd
      have h := h3 x hx
      have hp := pures_mem h1 x hx
      have e := toPy_T hp
      cases x with
      | lst ys =>
        obtain ⟨ps, e1, e2⟩ := toPy_lst e
        rw [e2]
        exact ⟨fun z => (nomatch z), fun _ z => (nomatch z)⟩
      | bl b => exact ⟨fun z => (nomatch (show PyData.bool b = .none from z)), fun _ z => (nomatch (show PyData.bool b = .tuple _ from z))⟩
      | int b => exact ⟨fun z => (nomatch (show PyData.int b = .none from z)), fun _ z => (nomatch (show PyData.int b = .tuple _ from z))⟩
      | str b => exact ⟨fun z => (nomatch (show PyData.str b = .none from z)), fun _ z => (nomatch (show PyData.str b = .tuple _ from z))⟩
      | tup _ => cases h
      | non => cases h
      | dic _ _ => cases hp
      | fn _ => cases hp
      | lse _ => cases hp
      | own _ _ => cases hp
      | ldc _ _ => cases hp
      | box _ => cases hp
  · rw [depth_toPy _ _ (toPy_T (pures_mem h1 x hx))]
    exact h4 x hx
theorem sort_trip {ts : List (V × D)} : ((ts.map fun t => (t.1, pyT t.2)).mergeSort (PySem.W.dataLe false (·.2))).map (·.1) = (ts.mergeSort fun a b => leS a.2 b.2).map (·.1) ∧ sortD (ts.map (·.2)) = (ts.mergeSort fun a b => leS a.2 b.2).map (·.2) := by
  constructor
  · rw [← List.map_mergeSort (r := fun a b : V × D => leS a.2 b.2) (s := PySem.W.dataLe false (fun p : V × PyData => p.2)) (f := fun t : V × D => (t.1, pyT t.2)) (fun a _ b _ => rfl), List.map_map]
    rfl
  · unfold sortD
    rw [List.map_mergeSort (r := fun a b : V × D => leS a.2 b.2) (s := leS) (f := fun t : V × D => t.2) (fun a _ b _ => rfl)]
def sSorted1 : SN
  | [.lst xs], P => okSort xs = true ∧ P ⟨true, .lst (sortD xs)⟩
  | _, _ => False
theorem cl_sorted1 : CallL K mg (rSortedDat K) sSorted1 := by
  intro hot H xs ds P Q hh rx q k
  unfold sSorted1 at q
  split at q
  · obtain ⟨x, rfl, r⟩ := rx.one
    obtain ⟨ok, q⟩ := q
    obtain ⟨a, vs, rfl, hs, r1⟩ := r.lst
    obtain ⟨ts, rfl, rfl, rt⟩ := Reps.triples r1
    obtain ⟨o1, o2, o3, o4⟩ := okSort_data ok
    obtain ⟨s1, s2⟩ := sort_trip (ts := ts)
    refine ⟨a, ts.map fun t => (t.1, pyT t.2), rfl, by rw [List.map_map]; exact hs, fun b hb => ?_, by rw [List.map_map]; rw [List.map_map] at o2; exact o2, by rw [List.map_map]; rw [List.map_map] at o3; exact o3, fun b hb => ?_, fun p n => ?_⟩
    · obtain ⟨t, ht, rfl⟩ := List.mem_map.mp hb
      exact (Rep.dp _ _ _ (rt t ht) (toPy_T (pures_mem o1 _ (List.mem_map.mpr ⟨t, ht, rfl⟩)))).1
    · obtain ⟨t, ht, rfl⟩ := List.mem_map.mp hb
      exact o4 _ (List.mem_map.mpr ⟨t, ht, rfl⟩)
    · rw [s1]
      refine post_lst hh k n (reps_of (ts := ts.mergeSort fun a b => leS a.2 b.2) fun t ht => rt t ((List.mergeSort_perm _ _).mem_iff.mp ht)) ?_
      rw [← s2]
      exact q
  · exact q.elim
end
end TL

/-! V1: a, b, *rest = a tuple -/
namespace TL
open PySem PySem.Spec PyProof.Rows L2
section
variable {prog : Program} {w : World} {A : Around} {E : Value → Shared → Prop}
/-- a tuple's iterator from place i on, as a walk -/
theorem walk_tup {s0 : Shared} {it t : Addr} {items : Array Value} (hh : A.handled = none) (hne : t ≠ it) (i : Nat) (hi : i ≤ items.size) :
    WalksS prog w A it [it, t] [it] (fun a b => a = b) (items.size - i) (fun j v => items[i + j]? = some v) (fun j s => IsTupIter s.heap it t (i + j) ∧ IsTup s.heap t items) where
  sub := fun b hb => by rw [List.mem_singleton.mp hb]; exact List.mem_cons_self
  grefl := fun _ => rfl
  gtrans := fun _ _ _ h1 h2 => h1.trans h2
  frame := fun j s h' tk st _ hk => by
    obtain ⟨⟨o, ho, r⟩, ⟨o2, ho2, r2⟩⟩ := st
    exact ⟨⟨o, hk it List.mem_cons_self _ ho, r⟩, ⟨o2, hk t (List.mem_cons_of_mem _ List.mem_cons_self) _ ho2, r2⟩⟩
  item := fun j s Q E hj st hQ => by
    have hlt : i + j < items.size := by omega
    refine next_tuple_item st.1 st.2 (x := items[i + j]) (by simp [hlt]) fun h' hit' hs' => ?_
    exact hQ _ _ (by simp [hlt]) ⟨hit', st.2.extBut hs'.extBut hne⟩ ⟨fun b o hb e => (hs'.2 b (fun z => hb (by rw [z]; exact List.mem_cons_self))).trans e, rfl, rfl, rfl, Nat.le_refl _⟩
  done := fun s Q E st hQ => by
    refine next_tuple_end hh st.1 st.2 (by simp; omega) fun h' he => ?_
    exact hQ _ ⟨fun b o hb e => he b o (fun z => hb (by rw [z]; exact List.mem_cons_self)) e, rfl, rfl, rfl, Nat.le_refl _⟩
  self := fun j s Q E st hQ => wpAny_pyIter_tupleiter st.1 hQ
theorem star_items {s : Shared} {t : Addr} {us : List Value} {n i : Nat} {Q : List Value → Shared → Prop} (hh : A.handled = none) (ht : IsTup s.heap t us.toArray) (hn : n = i + 1) (hi : i ≤ us.length) (hz : us.length ≤ sizeLine)
    (hQ : ∀ (h' : Heap) (tk : Nat), (∀ b o, s.heap.get? b = some o → h'.get? b = some o) → s.toks ≤ tk → Q (us.take i ++ [.ref h'.objs.size]) { s with heap := h'.push { cls := .type "list", data := .seq (us.drop i).toArray }, toks := tk }) :
    wpAny (model prog w) A (unpackItems (.ref t) n (some i)) Q E s := by
  have hlt : t ≠ s.heap.objs.size := by obtain ⟨o, ho, _⟩ := ht; exact Nat.ne_of_lt (Heap.lt_size ho)
  have hus : us.toArray.size = us.length := by simp
  subst hn
  unfold unpackItems
  refine wpAny_bind ?_
  unfold notIterableAtAll
  refine wpAny_bind (wpAny_specialOf ht.typeIs slot_tuple_iter.lookup (wpAny_pure ?_))
  simp only [Bool.false_eq_true, if_false]
  refine wpAny_bind (wpAny_holding (iter_tuple ht ?_))
  refine wpAny_bind (wpAny_holding (draw_tuple hlt i 0 _ _ ⟨_, Heap.get?_push_size _ rfl, rfl, rfl⟩ (ht.push _) (by omega) fun h1 hit1 hs1 => ?_))
  rw [List.drop_zero, Nat.zero_add] at *
  have hl : (us.toArray.toList.take i).length = i := by simp; omega
  rw [if_neg (by rw [hl]; omega)]
  have ht1 : IsTup h1 t us.toArray := (ht.push _).extBut hs1.extBut hlt
  have hk1 : ∀ b o, s.heap.get? b = some o → h1.get? b = some o := fun b o e => (hs1.2 b (Nat.ne_of_lt (Heap.lt_size e))).trans (Heap.get?_push_of_some _ e)
  refine wpAny_bind (wpAny_holding (wpAny_collect_iter (T := "tuple_iterator") (n := us.toArray.size - i) (.inr (.inr (.inr rfl))) (walk_tup (A := A.in1) (s0 := s) hh hlt i (by omega)) (fun j s' st => ⟨_, st.1.choose_spec.1, st.1.choose_spec.2.1⟩) ⟨hit1, ht1⟩ (fun b hb => ?_) List.mem_cons_self (fun s' acc hm hacc => ?_) (by omega)))
  · rcases List.mem_cons.mp hb with rfl | hb
    · obtain ⟨o, ho, _⟩ := hit1; exact Heap.lt_size ho
    · rw [List.mem_singleton.mp hb]; obtain ⟨o, ho, _⟩ := ht1; exact Heap.lt_size ho
  · obtain ⟨h2, g2, d2, tk2, os2⟩ := s'
    obtain ⟨m1, m2, m3, m4, m5⟩ := hm
    simp only at m1 m2 m3 m4 m5
    subst m2 m3 m4
    have e1 : acc.toList = us.drop i := by
      apply List.ext_getElem?
      intro j
      rw [List.getElem?_drop, Array.getElem?_toList]
      by_cases hj : j < acc.size
      · have := hacc.2 j acc[j] (by simp [hj])
        simp only [List.getElem?_toArray] at this
        rw [this]; simp [hj]
      · have h3 := hacc.1
        rw [Array.getElem?_eq_none (by omega), List.getElem?_eq_none (by omega)]
    rw [e1]
    have h4 : ¬ ((us.drop i).length < i + 1 - 1 - i) := by omega
    rw [if_neg h4]
    have e2 : (us.drop i).length - (i + 1 - 1 - i) = (us.drop i).length := by omega
    simp only [e2]
    rw [List.take_length, List.drop_length]
    refine wpAny_bind (wpAny_newList ?_ (by rw [List.length_drop]; omega))
    refine wpAny_pure ?_
    rw [List.append_nil]
    have hkeep : ∀ b o, s.heap.get? b = some o → h2.get? b = some o := fun b o e => m1 b o (fun z => Nat.ne_of_lt (Heap.lt_size e) (List.mem_singleton.mp z)) (hk1 b o e)
    exact hQ h2 tk2 hkeep m5
end

section
variable {X : Cx}
/-- (a, .., *rest) = a tuple of so many or more -/
def gStarT (K : PySem.W.Frag) (n : Nat) (t : TGs) : TG := fun v σ H Q => ∃ a xs, v = .ref a ∧ SqT K H a xs ∧ n ≤ xs.length ∧ ∀ p, H p = none → t (xs.take n ++ [.ref p]) σ (upd H p (.lst (xs.drop n))) Q
theorem pg_star {es : List Expr} {k n : Nat} {pos : Pos} {t : TGs} (hc : X.calm = true) (h : PGs X es t) (hn : (assignEach es X.env).length = n + 1) (hst : (assignEach es X.env).findIdx? (·.1) = some n) : PG X (.Tuple es k pos) (gStarT X.K n t) := by
  refine ⟨fun pins s σ H v u Q I r hw => ?_⟩
  obtain ⟨a, xs, rfl, hq, hl, hw⟩ := hw
  cases r
  obtain ⟨us, rv, ht, hz⟩ := I.tuple hq
  have hlen := rv.length
  rw [assign_Tuple]
  refine wpAny_bind (wpAny_standAt ?_)
  unfold unpack
  rw [hn, hst]
  refine wpAny_bind (wpAny_holding (star_items (I.ok.hd hc) ht rfl (by omega) (by omega) fun h' tk kp _ => ?_))
  have J0 : L2.Inv X pins σ H { s with heap := h', toks := tk } := I.kept (t' := tk) kp
  have hf : H h'.objs.size = none := J0.hok.fresh (Nat.le_refl _)
  have J : L2.Inv X pins σ (upd H h'.objs.size (.lst (xs.drop n))) { s with heap := h'.push { cls := .type "list", data := .seq (us.drop n).toArray }, toks := tk } :=
    J0.laid (t' := tk) (fun b u e => Heap.get?_push_of_some _ e) (Nat.le_refl _) ⟨by rw [List.length_drop]; omega, us.drop n, 0, rv.drop n, Heap.get?_push_size _ rfl⟩
  exact h.run pins _ σ _ _ _ Q J ((rv.take n).append (.cons (show RelV (.ref h'.objs.size) (.ref h'.objs.size) from rfl) .nil)) (hw _ hf)
theorem pgs_star1 {e : Expr} {t : TG} {p : Pos} (h : PG X e t) : PGs X [.Starred e p] (gCons t gNil) := by
  refine ⟨fun pins s σ H vs us Q I r hq => ?_⟩
  obtain ⟨v, vr, rfl, hq⟩ := hq
  cases r with
  | cons r rr =>
    show wpAny _ _ (assignInOrder [assign e X.env] _) _ _ _
    refine assignInOrder_cons (thn (h.run pins s σ H _ _ _ I r hq) fun _ s1 ⟨σ1, H1, I1, q1⟩ => ?_)
    obtain ⟨rfl, q1⟩ := q1
    cases rr
    exact assignInOrder_nil ⟨σ1, H1, I1, q1⟩
end
def gwTupS (n : Nat) (g : WGs) : WG := fun val env P => ∃ ds, (val.d = .tup ds ∨ val.d = .lse ds) ∧ n ≤ ds.length ∧ g ds env P
def gwStL (i : Nat) : WGs := fun ds env P => i < env.length ∧ P (env.set i (some ⟨true, .lst ds⟩))
def liftGsS (K : PySem.W.Frag) (mg : Str → Option Value) (lent : List Nat) (n : Nat) (g : WGs) : TGs := fun vs σ H Q => ∃ (oh : Pr) (τ : Lay) (env : EnvD) (ds rest : List D) (p : Addr) (vs0 : List V) (P : EnvD → Prop), vs = vs0 ++ [.ref p] ∧ vs0.length = n ∧ σ.length = env.length ∧
  StR K mg oh H ((some (.ref p), some ⟨true, .lst rest⟩) :: (τ ++ σ.zip env)) ∧ Reps K mg (hotL oh ((some (.ref p), some ⟨true, .lst rest⟩) :: (τ ++ σ.zip env))) H vs0 ds ∧ g (ds ++ rest) env P ∧
  ∀ σ' env' H', σ'.length = env'.length → σ'.length = σ.length → LentEq lent σ σ' → StR K mg oh H' (τ ++ σ'.zip env') → Step ((some (.ref p), some ⟨true, .lst rest⟩) :: (τ ++ σ.zip env)) H (τ ++ σ'.zip env') H' → P env' → Q σ' H'
section
variable {K : PySem.W.Frag} {mg : Str → Option Value} {lent : List Nat} {X : Cx}
theorem pgs_starLast {i : Nat} {x : Str} {p p2 : Pos} (hi : i ∉ lent) (h : PG X (.Name x p2) (gName i)) : PGs X [.Starred (.Name x p2) p] (liftGsS X.K X.mg lent 0 (gwStL i)) := by
  refine PGsimp (pgs_star1 h) fun vs σ H Q w => ?_
  obtain ⟨oh, τ, env, ds, rest, q, vs0, P, rfl, hl, e0, S, r, g, k⟩ := w
  obtain rfl := List.length_eq_zero_iff.mp hl
  cases r
  refine ⟨.ref q, [], rfl, ?_⟩
  have w2 : liftG X.K X.mg lent (gwName i) (.ref q) σ H (fun σ' H' => gNil [] σ' H' Q) := by
    refine ⟨oh, τ, env, ⟨true, .lst rest⟩, P, e0, S, g, fun σ' env' H' a1 a2 a3 a4 a5 a6 => ⟨rfl, k σ' env' H' a1 a2 a3 a4 a5 a6⟩⟩
  exact gname_lift hi w2
theorem pgs_consS {e : Expr} {es : List Expr} {g : WG} {gs : WGs} {n : Nat} (h1 : PG X e (liftG X.K X.mg lent g)) (h2 : PGs X es (liftGsS X.K X.mg lent n gs)) (hn : noStar e = true) : PGs X (e :: es) (liftGsS X.K X.mg lent (n + 1) (gwCons g gs)) := by
  refine PGsimp (pgs_cons h1 h2 (by rw [assign_of hn]; rfl)) fun vs σ H Q w => ?_
  obtain ⟨oh, τ, env, ds, rest, p, vs0, P, rfl, hl, e0, S, r, gg, k⟩ := w
  cases r with
  | nil => cases hl
  | cons r1 r2 =>
    rename_i v vr d dr
    obtain ⟨d', dr', hd, gg⟩ := gg
    simp only [List.cons_append, List.cons.injEq] at hd
    obtain ⟨rfl, rfl⟩ := hd
    refine ⟨v, vr ++ [.ref p], rfl, oh, (some (.ref p), some ⟨true, .lst rest⟩) :: τ, env, fz d, _, e0, S.push (StR.one_fro (fun a ha => S.hot_there ha) r1) Step.one_fro, gg, fun σ1 env1 H1 e1 l1 t1 S1 s1 q => ?_⟩
    have s1' : Step ((some (.ref p), some ⟨true, .lst rest⟩) :: (τ ++ σ.zip env)) H ((some (.ref p), some ⟨true, .lst rest⟩) :: (τ ++ σ1.zip env1)) H1 := s1.coreL' (by rw [roots_fro]; rfl)
    have kp := s1'.keeps (oh := oh) (B := [])
    rw [List.append_nil, List.append_nil] at kp
    exact ⟨oh, τ, env1, dr, rest, p, vr, P, rfl, Nat.succ.inj hl, e1, S1, r2.mono kp, q, fun σ2 env2 H2 e2 l2 t2 S2 s2 q2 => k σ2 env2 H2 e2 (l2.trans l1) (t1.trans t2) S2 (s1'.trans s2) q2⟩
/-- n plain targets, then a star -/
def starLast : Nat → List Expr → Bool
  | 0, [.Starred _ _] => true
  | n + 1, e :: es => noStar e && starLast n es
  | _, _ => false
theorem starLast_find {env : Env} : ∀ {n : Nat} {es : List Expr}, starLast n es = true → (assignEach es env).findIdx? (·.1) = some n ∧ (assignEach es env).length = n + 1
  | 0, es, h => by
    unfold starLast at h
    split at h
    · exact ⟨rfl, rfl⟩
    · rename_i q; cases q
    · cases h
  | n + 1, [], h => by simp [starLast] at h
  | n + 1, e :: es, h => by
    simp only [starLast, Bool.and_eq_true] at h
    obtain ⟨a, b⟩ := starLast_find (env := env) h.2
    rw [assign_of h.1]
    exact ⟨by rw [List.findIdx?_cons]; simp [a], by rw [List.length_cons, b]⟩
theorem pg_starD {es : List Expr} {k n : Nat} {pos : Pos} {gs : WGs} (hc : X.calm = true) (h : PGs X es (liftGsS X.K X.mg lent n gs)) (hn : starLast n es = true) : PG X (.Tuple es k pos) (liftG X.K X.mg lent (gwTupS n gs)) := by
  obtain ⟨f1, f2⟩ := starLast_find (env := X.env) hn
  refine PGimp (pg_star hc h f2 f1) fun v σ H Q w => ?_
  obtain ⟨oh, τ, env, val, P, e0, S, ⟨ds, hd, hl, p⟩, kk⟩ := w
  have S0 := S.freeze
  have r0 := S0.head_fro
  have fin : ∀ {vs : List V}, Reps X.K X.mg (hotL oh (τ ++ σ.zip env)) H vs ds → ∀ q, H q = none → liftGsS X.K X.mg lent n gs (vs.take n ++ [.ref q]) σ (upd H q (.lst (vs.drop n))) Q := fun {vs} r q nq => by
    have T := StR.new_lst (K := X.K) (mg := X.mg) (hot := hotL oh (τ ++ σ.zip env)) (fun a ha => S.tail.hot_there ha) nq (r.drop n)
    have S1 := S.tail.push T (Step.new_lst nq)
    refine ⟨oh, τ, env, ds.take n, ds.drop n, q, vs.take n, P, rfl, by rw [List.length_take, r.length]; omega, e0, S1, ?_, by rw [List.take_append_drop]; exact p, fun σ' env' H' a1 a2 a3 a4 a5 a6 => kk σ' env' H' a1 a2 a3 a4 ?_ a6⟩
    · refine (r.take n).mono ⟨fun a o e nh => ?_, fun a o e nh z => ?_⟩
      · rw [upd_ne (ne_of_none e nq)]; exact e
      · rcases z with z | z
        · exact nh (.inl z)
        · rw [roots_own] at z
          rcases List.mem_cons.mp z with z | z
          · rw [z, nq] at e; cases e
          · exact nh (.inr z)
    · have s0 : Step ((some v, some val) :: (τ ++ σ.zip env)) H (τ ++ σ.zip env) H := Step.refl.lessR fun a ha => roots_cons_sub a ha
      exact (s0.trans (Step.new_lst nq).push).trans a5
  rcases hd with hd | hd
  · rw [hd] at r0
    cases r0 with
    | tup ht rs => exact ⟨_, _, rfl, ht.sq, by rw [rs.length]; exact hl, fun q nq => fin rs q nq⟩
  · rw [hd] at r0
    cases r0 with
    | lse hn ht rs => exact ⟨_, _, rfl, .inl ht, by rw [rs.length]; exact hl, fun q nq => fin rs q nq⟩
end
end TL

/-! V2: d.items() as a value, sorted of it, dict of a tuple of pairs -/
namespace TL
open PySem PySem.Spec PyProof.Rows L2
section
variable {X : Cx}
def rItemsK : V → List V → Hp → VK → Prop := fun x xs H Q => ∃ (a : Addr) (kvs : List (Key × V)), x = .ref a ∧ xs = [] ∧ Rd H a (.dK kvs) ∧ ∀ p, H p = none → Q (.ref p) (upd H p (DX.itemsO p a))
theorem mt_itemsK : MtR X "dict.items" rItemsK := by
  intro pins s σ H x xs v us Q I rx rxs h
  obtain ⟨a, kvs, rfl, rfl, ha, q⟩ := h
  cases rx
  cases rxs
  obtain ⟨hz, hd, vs, kv, hdo⟩ := dk_rd I.hok ha
  refine call_meetsIn PySem.F.slot_dict_items hdo.typeIs PySem.F.entry_dict_items (PySem.F.args_dict_items_1 _) (meets_dict_items (mixKind X.prog X.w) a hd) ⟨⟨vs, hdo⟩, ?_⟩
  exact ⟨.ref s.heap.objs.size, _, I.laid (t' := s.toks) (fun b u e => Heap.get?_push_of_some _ e) (Nat.le_refl _) (DX.itemsO_ok (Heap.get?_push_size _ rfl)), rfl, q _ (I.hok.fresh (Nat.le_refl _))⟩
/-- new tuples, laid one beside the other, are tracked -/
theorem Inv.takeN {pins : List (Addr × Obj)} {σ : L2.St} {H0 : Hp} {s : Shared} {h' : Heap} {tk : Nat} (I0 : L2.Inv X pins σ H0 s) : ∀ (ts : List (Addr × List V)) (H1 : Hp), L2.Inv X pins σ H1 { s with heap := h', toks := tk } → (ts.map (·.1)).Nodup →
    (∀ t ∈ ts, s.heap.objs.size ≤ t.1 ∧ H1 t.1 = none ∧ ∃ us, Vals t.2 us ∧ t.2.length ≤ sizeLine ∧ h'.get? t.1 = some { cls := .type "tuple", data := .seq us.toArray }) →
    ∃ H2, L2.Inv X pins σ H2 { s with heap := h', toks := tk } ∧ (∀ b o, H1 b = some o → H2 b = some o) ∧ (∀ b, b ∉ ts.map (·.1) → H2 b = H1 b) ∧ ∀ t ∈ ts, ∃ o, PTu o ∧ H2 t.1 = some (.frz o (.tup t.2))
  | [], H1, I1, _, _ => ⟨H1, I1, fun _ _ e => e, fun _ _ => rfl, fun _ h => nomatch h⟩
  | t :: ts, H1, I1, hn, h => by
    obtain ⟨hb, h0, us, r, hz, e⟩ := h t List.mem_cons_self
    rw [List.map_cons, List.nodup_cons] at hn
    have I2 : L2.Inv X pins σ (upd H1 t.1 (.frz { cls := .type "tuple", data := .seq us.toArray } (.tup t.2))) { s with heap := h', toks := tk } :=
      I1.take (h' := h') (t' := tk) (fun b ob _ e => e) (I0.fpOk hb h0) ⟨e, hz, us, r, _, e, rfl, _, rfl⟩
    obtain ⟨H2, I3, g1, g2, g3⟩ := Inv.takeN I0 ts _ I2 hn.2 fun u hu => by
      obtain ⟨a1, a2, a3⟩ := h u (List.mem_cons_of_mem _ hu)
      exact ⟨a1, by rw [upd_ne (fun z => hn.1 (by rw [← z]; exact List.mem_map.mpr ⟨u, hu, rfl⟩))]; exact a2, a3⟩
    refine ⟨H2, I3, fun b o eb => g1 b o (by rw [upd_ne (ne_of_none eb h0)]; exact eb), fun b nb => ?_, fun u hu => ?_⟩
    · rw [List.map_cons, List.mem_cons, not_or] at nb
      rw [g2 b nb.2, upd_ne nb.1]
    · rcases List.mem_cons.mp hu with rfl | hu
      · exact ⟨_, ⟨rfl, rfl⟩, g1 _ _ upd_same⟩
      · exact g3 u hu
/-- a pair (key, value) as a datum -/
def itP (b : Key × V × PyData) : PyData := .tuple [match b.1 with | .inl i => .int i | .inr s => .str s, b.2.2]
/-- sorted(d.items()) -/
def rSortIt (K : PySem.W.Frag) : List V → Hp → VK → Prop := fun vs H Q => ∃ (p a : Addr) (bs : List (Key × V × PyData)), vs = [.ref p] ∧ H p = some (DX.itemsO p a) ∧ Rd H a (.dK (bs.map fun b => (b.1, b.2.1))) ∧ (∀ b ∈ bs, Dp K H b.2.1 b.2.2) ∧ PySem.W.AllAlike (bs.map itP) ∧ (∀ b ∈ bs, b.2.2.depth ≤ 20) ∧
  ∀ (H' : Hp) (l : Addr) (ts : List (Addr × List V)), H l = none → (∀ b o, H b = some o → H' b = some o) → H' l = some (.lst (ts.map fun t => V.ref t.1)) → (∀ t ∈ ts, H t.1 = none ∧ t.1 ≠ l ∧ ∃ o, PTu o ∧ H' t.1 = some (.frz o (.tup t.2))) →
    ts.map (·.2) = (bs.mergeSort (PySem.W.dataLe false itP)).map (fun b => [kV b.1, b.2.1]) → Q (.ref l) H'
mutual
theorem Reads.there {h : Heap} : ∀ {v : Value} {d : PyData} {as : List Addr}, Reads h v d as → ∀ a ∈ as, a < h.objs.size
  | _, _, _, .none, _, z => nomatch z
  | _, _, _, .bool _, _, z => nomatch z
  | _, _, _, .int _ _, _, z => nomatch z
  | _, _, _, .str _ _, _, z => nomatch z
  | _, _, _, .list h1 _ _ h4, a, z => by
    rcases List.mem_cons.mp z with rfl | z
    · exact Heap.lt_size h1
    · exact ReadsAll.there h4 a z
  | _, _, _, .tuple _ _ _ h4, a, z => ReadsAll.there h4 a z
  | _, _, _, .dict h1 _ _ h4 h5, a, z => by
    rcases List.mem_cons.mp z with rfl | z
    · exact Heap.lt_size h1
    · rcases List.mem_append.mp z with z | z
      · exact ReadsAll.there h4 a z
      · exact ReadsAll.there h5 a z
theorem ReadsAll.there {h : Heap} : ∀ {v : List Value} {d : List PyData} {as : List Addr}, ReadsAll h v d as → ∀ a ∈ as, a < h.objs.size
  | _, _, _, .nil, _, z => nomatch z
  | _, _, _, .cons h1 h2, a, z => (List.mem_append.mp z).elim (Reads.there h1 a) (ReadsAll.there h2 a)
end
theorem each_of_get {α β : Type} {R : α → β → Prop} : ∀ {as : List α} {bs : List β}, as.length = bs.length → (∀ (j : Nat) a b, as[j]? = some a → bs[j]? = some b → R a b) → PySem.W.EachIs R as bs
  | [], [], _, _ => .nil
  | [], _ :: _, h, _ => by cases h
  | _ :: _, [], h, _ => by cases h
  | a :: as, b :: bs, h, k => .cons (k 0 a b rfl rfl) (each_of_get (Nat.succ.inj h) fun j x y e1 e2 => k (j + 1) x y (by simpa using e1) (by simpa using e2))
theorem each_eq {α β : Type} {f : β → α} : ∀ {as : List α} {bs : List β}, PySem.W.EachIs (fun a b => a = f b) as bs → as = bs.map f
  | _, _, .nil => rfl
  | _, _, .cons h t => by rw [List.map_cons, ← each_eq t, h]
theorem paired_at {α β : Type} {F : α → β → Prop} : ∀ {l₁ : List α} {l₂ : List β} {j : Nat} {x : α} {y : β}, Paired F l₁ l₂ → l₁[j]? = some x → l₂[j]? = some y → F x y
  | _, _, j, x, _, .nil, h, _ => by simp at h
  | _, _, 0, x, y, .cons f _, h, h' => by simp at h h'; subst h h'; exact f
  | _, _, j + 1, x, y, .cons _ t, h, h' => paired_at t (by simpa using h) (by simpa using h')
theorem zip_get {α β : Type} {l₁ : List α} {l₂ : List β} {j : Nat} {x : α × β} (h : (l₁.zip l₂)[j]? = some x) : l₁[j]? = some x.1 ∧ l₂[j]? = some x.2 := by
  rw [List.getElem?_zip_eq_some] at h
  exact h
section
variable {K : Type} [DecidableEq K] {P : Program} {w : World} {knd : PySem.KeyKind P w K}
theorem pairs_len : ∀ {es : List DictEntry} {kvs : List (K × Value)}, Pairs knd es kvs → es.length = kvs.length
  | _, _, .nil => rfl
  | _, _, .cons _ _ t => by rw [List.length_cons, List.length_cons, pairs_len t]
theorem pairs_at : ∀ {es : List DictEntry} {kvs : List (K × Value)} {j : Nat} {e : DictEntry}, Pairs knd es kvs → es[j]? = some e → ∃ k x, kvs[j]? = some (k, x) ∧ knd.is k e.key = true ∧ e.val = x
  | _, _, j, _, .nil, h => by simp at h
  | _, _, 0, _, .cons h1 h2 t, h => by
    cases h
    exact ⟨_, _, rfl, h1, h2⟩
  | _, _, j + 1, _, .cons _ _ t, h => by
    obtain ⟨k, x, e1, e2, e3⟩ := pairs_at t (j := j) (by simpa using h)
    exact ⟨k, x, by simpa using e1, e2, e3⟩
end
theorem cr_sortIt (hc : X.calm = true) (hu : X.A.units + 64 < cLine) : CallR X (.builtin "sorted") (rSortIt X.K) := by
  intro pins s σ H xs us Q I r h
  obtain ⟨p, a, bs, rfl, hp, ha, hd, hal, hdp, q⟩ := h
  obtain rfl := Vals.ref1 r
  have view : s.heap.IsItemsView p a := (show ObjOk X.prog X.w H s.heap p (DX.itemsO p a) from I.hok p _ hp).1
  obtain ⟨hz, hlow, vs, kv, hdo⟩ := dk_rd I.hok ha
  obtain ⟨ep, hat⟩ := hdo.dictAt
  have hh : X.A.handled = none := I.ok.hd hc
  have lv : bs.length = vs.length := by have := Paired.length kv; rw [List.length_map] at this; exact this
  rw [List.length_map] at hz
  obtain ⟨od, es, hod, hex, hdat, _, hprs, _⟩ := hat
  have le : es.size = vs.length := by have := pairs_len hprs; simpa using this
  refine DT.sortedI (es := es) (ep := ep) hh view ⟨od, hod, hex, hdat⟩ (by omega) fun h' tk as hk hsz0 hl hG => ?_
  have hsz : s.heap.objs.size ≤ h'.objs.size := Nat.le_of_lt hsz0
  have lb : as.length = bs.length := by omega
  have hob : (h'.push { cls := .type "list", data := .seq (as.map Value.ref).toArray }).get? h'.objs.size = some (seqObj "list" (as.map Value.ref).toArray 0) := Heap.get?_push_size _ rfl
  have tup : ∀ (j : Nat) (t : Addr) (b : Key × V × PyData), as[j]? = some t → bs[j]? = some b → ∃ u v, RelV (kV b.1) u ∧ RelV b.2.1 v ∧ h'.get? t = some { cls := .type "tuple", data := .seq #[u, v] } := by
    intro j t b h1 h2
    obtain ⟨en, f1, f3⟩ := hG.pairs j t h1
    obtain ⟨k, x, f4, f2, f5⟩ := pairs_at hprs (j := j) (by rw [Array.getElem?_toList]; exact f1)
    obtain ⟨g1, g2⟩ := paired_at kv (j := j) (x := (b.1, b.2.1)) (y := (k, x)) (by rw [List.getElem?_map, h2]; rfl) f4
    refine ⟨en.key, en.val, ?_, by rw [f5]; exact g2, f3⟩
    have e : b.1 = k := g1
    rw [e]
    exact relV_key (show keyIs k en.key = true from f2)
  have nd : as.Nodup := List.Pairwise.imp (fun {a b} (h : a < b) => Nat.ne_of_lt h) hG.rise
  refine PySem.W.list_sort_data (A := X.A.in1) (s := { s with heap := h'.push { cls := .type "list", data := .seq (as.map Value.ref).toArray }, toks := tk }) (bs := as.zip bs) (enc := fun z => itP z.2) (R := fun v z => v = Value.ref z.1) hob
    (each_of_get (by rw [List.length_map, List.length_zip, lb, Nat.min_self]) fun j v z h1 h2 => ?_) (each_of_get (by rw [List.length_map, List.length_zip, lb, Nat.min_self]) fun j v z h1 h2 => ?_) ?_ (.inl fun d hd => ?_) ?_ (fun z hz2 => ?_) fun out ho eo => ?_
  · obtain ⟨z1, _⟩ := zip_get h2
    rw [List.getElem?_map, z1] at h1
    exact (Option.some.inj h1).symm
  · obtain ⟨z1, z2⟩ := zip_get h2
    rw [List.getElem?_map, z1] at h1
    obtain rfl := (Option.some.inj h1).symm
    obtain ⟨u, w', r1, r2, g⟩ := tup j z.1 z.2 z1 z2
    have hdz := hd z.2 (List.mem_of_getElem? z2)
    obtain ⟨as', rd⟩ := Dp.reads I _ _ _ hdz r2
    have hold : ∀ b o, s.heap.get? b = some o → (h'.push { cls := .type "list", data := .seq (as.map Value.ref).toArray }).get? b = some o := fun b o e => Heap.get?_push_of_some _ (hk b o e)
    have rd2 := PyProof.Rows.Reads.keeps hold rd
    have hkey : ∃ p : PyData, (match z.2.1 with | .inl i => PyData.int i | .inr s => PyData.str s) = p ∧ Reads (h'.push { cls := .type "list", data := .seq (as.map Value.ref).toArray }) u p [] := by
      cases hz1 : z.2.1 with
      | inl i => rw [hz1] at r1; obtain ⟨t, rfl⟩ := r1; exact ⟨_, rfl, .int _ _⟩
      | inr i => rw [hz1] at r1; obtain ⟨t, rfl⟩ := r1; exact ⟨_, rfl, .str _ _⟩
    obtain ⟨kp, e1, rk⟩ := hkey
    refine ⟨_, show Reads _ _ (.tuple [_, _]) _ from .tuple (Heap.get?_push_of_some _ g) rfl rfl (.cons (by rw [e1]; exact rk) (.cons rd2 .nil)), fun hm => ?_⟩
    simp only [List.nil_append, List.append_nil] at hm
    have h1 : h'.objs.size < s.heap.objs.size := Reads.there rd _ hm
    have h2 := hG.there (List.mem_of_getElem? z1)
    exact absurd h1 (Nat.not_lt.mpr hsz)
  · rw [show (as.zip bs).map (fun z => itP z.2) = bs.map itP by
      have e : (as.zip bs).map (fun z => itP z.2) = ((as.zip bs).map Prod.snd).map itP := by rw [List.map_map]; rfl
      rw [e, List.map_snd_zip (by omega)]]
    exact hal
  · obtain ⟨z, _, rfl⟩ := List.mem_map.mp hd
    exact ⟨_, _, rfl⟩
  · rw [List.length_zip, lb, Nat.min_self]; omega
  · have h2 := hdp z.2 (List.of_mem_zip hz2).2
    have h3 : (itP z.2).depth ≤ 21 := by
      unfold itP
      cases z.2.1 <;> simp [PyData.depth, PyData.depthAll] <;> omega
    have h4 : X.A.in1.units ≤ X.A.units + 1 := by exact Nat.le_refl _
    omega
  · have hk2 : ∀ b o, s.heap.get? b = some o → (sortedHeap (h'.push { cls := .type "list", data := .seq (as.map Value.ref).toArray }) h'.objs.size (as.map Value.ref) out.toArray).get? b = some o := fun b o e => by
      have hb := hk b o e
      rw [sortedHeap_old (Nat.ne_of_lt (Heap.lt_size hb)) (by rw [size_push']; exact Nat.lt_succ_of_lt (Heap.lt_size hb))]
      exact Heap.get?_push_of_some _ hb
    have hk3 : ∀ b o, h'.get? b = some o → (sortedHeap (h'.push { cls := .type "list", data := .seq (as.map Value.ref).toArray }) h'.objs.size (as.map Value.ref) out.toArray).get? b = some o := fun b o hb => by
      rw [sortedHeap_old (Nat.ne_of_lt (Heap.lt_size hb)) (by rw [size_push']; exact Nat.lt_succ_of_lt (Heap.lt_size hb))]
      exact Heap.get?_push_of_some _ hb
    obtain ⟨e9, hL⟩ := sortedHeap_at (out := out.toArray) hob
    have eo2 := each_eq eo
    -- the pairs in their new order
    let zs := (as.zip bs).mergeSort (PySem.W.dataLe false fun z => itP z.2)
    have pz : zs.Perm (as.zip bs) := List.mergeSort_perm _ _
    have hmem : ∀ z ∈ zs, ∃ j, as[j]? = some z.1 ∧ bs[j]? = some z.2 := fun z hz => by
      obtain ⟨j, hj⟩ := List.mem_iff_getElem?.mp (pz.mem_iff.mp hz)
      exact ⟨j, zip_get hj⟩
    let ts : List (Addr × List V) := zs.map fun z => (z.1, [kV z.2.1, z.2.2.1])
    have ets : ts.map (·.1) = zs.map (·.1) := by simp only [ts, List.map_map]; rfl
    have I1 : L2.Inv X pins σ (upd H h'.objs.size (.lst (ts.map fun t => V.ref t.1))) { s with heap := sortedHeap (h'.push { cls := .type "list", data := .seq (as.map Value.ref).toArray }) h'.objs.size (as.map Value.ref) out.toArray, toks := tk } := by
      refine I.laid (t' := tk) hk2 hsz ⟨?_, out, e9, ?_, hL⟩
      · rw [List.length_map]
        have := congrArg List.length ets
        simp only [List.length_map] at this
        rw [this, pz.length_eq, List.length_zip]; omega
      · rw [eo2]
        have : ∀ l : List (Addr × (Key × V × PyData)), Vals ((l.map fun z => (z.1, [kV z.2.1, z.2.2.1])).map fun t => V.ref t.1) (l.map fun z => Value.ref z.1) := by
          intro l
          induction l with
          | nil => exact .nil
          | cons z l ih => exact .cons rfl ih
        exact this zs
    have above : ∀ t ∈ ts, t.1 ∈ as := fun t ht => by
      obtain ⟨z, hz, rfl⟩ := List.mem_map.mp ht
      obtain ⟨j, h1, _⟩ := hmem z hz
      exact List.mem_of_getElem? h1
    have nd2 : (ts.map (·.1)).Nodup := by
      rw [ets]
      have hnd : (zs.map (·.1)).Perm as := by
        have := pz.map (·.1)
        rw [show (as.zip bs).map (·.1) = as from List.map_fst_zip (by omega)] at this
        exact this
      exact hnd.nodup_iff.mpr nd
    have lay : ∀ t ∈ ts, s.heap.objs.size ≤ t.1 ∧ upd H h'.objs.size (.lst (ts.map fun t => V.ref t.1)) t.1 = none ∧ ∃ us, Vals t.2 us ∧ t.2.length ≤ sizeLine ∧ (sortedHeap (h'.push { cls := .type "list", data := .seq (as.map Value.ref).toArray }) h'.objs.size (as.map Value.ref) out.toArray).get? t.1 = some { cls := .type "tuple", data := .seq us.toArray } := fun t ht => by
      obtain ⟨z, hz, rfl⟩ := List.mem_map.mp ht
      obtain ⟨j, h1, h2⟩ := hmem z hz
      obtain ⟨u, v, r1, r2, g⟩ := tup j z.1 z.2 h1 h2
      refine ⟨Nat.le_of_lt (hG.above _ (List.mem_of_getElem? h1)), ?_, [u, v], .cons r1 (.cons r2 .nil), by rw [sizeLine_eq]; show 2 ≤ 16777216; decide, hk3 _ _ g⟩
      rw [upd_ne (Nat.ne_of_lt (hG.there (List.mem_of_getElem? h1)))]
      exact I.hok.fresh (Nat.le_of_lt (hG.above _ (List.mem_of_getElem? h1)))
    obtain ⟨H2, I2, g1, g2, g3⟩ := Inv.takeN I ts _ I1 nd2 lay
    · refine ⟨.ref h'.objs.size, H2, I2, rfl, q H2 h'.objs.size ts (I.hok.fresh hsz) (fun b o eb => g1 b o ?_) (g1 _ _ upd_same) (fun t ht => ⟨I.hok.fresh (Nat.le_of_lt (hG.above _ (above t ht))), Nat.ne_of_lt (hG.there (above t ht)), g3 t ht⟩) ?_⟩
      · rw [upd_ne (fun z => by rw [z, I.hok.fresh hsz] at eb; cases eb)]
        exact eb
      · simp only [ts, List.map_map]
        have e1 : bs.mergeSort (PySem.W.dataLe false itP) = zs.map (·.2) := by
          have e0 : bs = (as.zip bs).map Prod.snd := by rw [List.map_snd_zip (by omega)]
          rw [show (bs.mergeSort (PySem.W.dataLe false itP)) = ((as.zip bs).map Prod.snd).mergeSort (PySem.W.dataLe false itP) from by rw [← e0]]
          exact (List.map_mergeSort (r := PySem.W.dataLe false fun z : Addr × (Key × V × PyData) => itP z.2) (s := PySem.W.dataLe false itP) (f := Prod.snd) (fun a _ b _ => rfl)).symm
        rw [e1, List.map_map]
        all_goals rfl
theorem pairs_of2 {pins : List (Addr × Obj)} {σ : L2.St} {H : Hp} {s : Shared} (I : L2.Inv X pins σ H s) : ∀ {ps : List Addr} {kvs : List (Key × V)}, Paired (fun p kv => SqT X.K H p [kV kv.1, kv.2]) ps kvs →
    ∃ uv : List (Value × Value), uv.length = ps.length ∧ kvs.length = ps.length ∧ ∀ (j : Nat) (x : Value × Value), uv[j]? = some x → ∃ (b : Addr) (kv : Key × V), ps[j]? = some b ∧ kvs[j]? = some kv ∧ IsTup s.heap b #[x.1, x.2] ∧ RelV (kV kv.1) x.1 ∧ RelV kv.2 x.2
  | _, _, .nil => ⟨[], rfl, rfl, fun j x e => by simp at e⟩
  | _, _, .cons (a := p) (b := kv) h t => by
    obtain ⟨uv, l1, l2, k⟩ := pairs_of2 I t
    obtain ⟨its, rv, ht, _⟩ := I.tuple h
    obtain ⟨u, y, rfl, ru, ry⟩ := vals2 rv
    refine ⟨(u, y) :: uv, by rw [List.length_cons, List.length_cons, l1], by rw [List.length_cons, List.length_cons, l2], fun j x e => ?_⟩
    cases j with
    | zero =>
      obtain rfl := (Option.some.inj e : (u, y) = x)
      exact ⟨p, kv, rfl, rfl, ht, ru, ry⟩
    | succ j =>
      obtain ⟨b, kv', e1, e2, e3⟩ := k j x (by simpa using e)
      exact ⟨b, kv', by simpa using e1, by simpa using e2, e3⟩
theorem kv_zip : ∀ {kvs : List (Key × V)} {uv : List (Value × Value)}, kvs.length = uv.length → (∀ (j : Nat) kv x, kvs[j]? = some kv → uv[j]? = some x → RelV kv.2 x.2) → KV kvs ((kvs.map (·.1)).zip (uv.map (·.2)))
  | [], [], _, _ => .nil
  | [], _ :: _, h, _ => by cases h
  | _ :: _, [], h, _ => by cases h
  | kv :: kvs, x :: uv, h, k => .cons ⟨rfl, k 0 _ _ rfl rfl⟩ (kv_zip (Nat.succ.inj h) fun j a b e1 e2 => k (j + 1) a b (by simpa using e1) (by simpa using e2))
/-- dict(t) of a tuple of pairs -/
def rDictT (K : PySem.W.Frag) : List V → Hp → VK → Prop := fun xs H Q => ∃ (a : Addr) (ps : List Addr) (kvs : List (Key × V)), xs = [.ref a] ∧ (FzT H a (ps.map V.ref) ∨ KTp K a (ps.map V.ref)) ∧ Paired (fun p kv => SqT K H p [kV kv.1, kv.2]) ps kvs ∧
  ∀ p, H p = none → Q (.ref p) (upd H p (.dK (mergeK [] kvs)))
theorem call_dictT (hcalm : X.calm = true) : CallR X (.type "dict") (rDictT X.K) := by
  intro pins s σ H xs us Q I r q
  obtain ⟨a, ps, kvs, rfl, hq, hp, q⟩ := q
  obtain rfl := Vals.ref1 r
  have hpl : ∃ its : List Value, Vals (ps.map V.ref) its ∧ PySem.PlainSeq "tuple" s.heap a its.toArray ∧ its.length ≤ sizeLine := by
    rcases hq with ⟨o, po, e⟩ | ⟨o, its, n, lk, hc, hd, hdat, hz, hv⟩
    · obtain ⟨g, hz, its, rv, o2, ho2, _, n, hdat⟩ := (show ObjOk X.prog X.w H s.heap a (.frz o (.tup (ps.map V.ref))) from I.hok a _ e)
      rw [g] at ho2
      cases ho2
      exact ⟨its, rv, ⟨o, n, g, po.1, po.2, hdat⟩, by rw [← rv.length]; exact hz⟩
    · refine ⟨its.toList, hv, ⟨o, n, I.kIn _ _ lk, hc, hd, by simpa using hdat⟩, by simpa using hz⟩
  obtain ⟨its, rv, pl, hz⟩ := hpl
  obtain rfl := refs_at rv
  obtain ⟨uv, l1, l2, huv⟩ := pairs_of2 I hp
  rw [List.length_map] at hz
  have hm : (s.heap.objs.size == sysModules) = false := beq_eq_false_iff_ne.mpr (Nat.ne_of_gt I.big)
  have items : PySem.PairItems s.heap (ps.map Value.ref).toArray (fun j => ps.getD j 0) uv := by
    refine ⟨by simp [l1], fun j k v e => ?_⟩
    obtain ⟨b, kv, e1, e2, ht, _, _⟩ := huv j (k, v) e
    have e3 : ps.getD j 0 = b := by rw [List.getD_eq_getElem?_getD, e1]; rfl
    refine ⟨by simp [e1], ?_⟩
    show PairAt s.heap (ps.getD j 0) k v
    rw [e3]
    exact .inl ht
  have kvz : KV kvs ((kvs.map (·.1)).zip (uv.map (·.2))) := kv_zip (by omega) fun j kv x e1 e2 => by
    obtain ⟨b, kv', _, e3, _, _, r2⟩ := huv j x e2
    rw [e1] at e3
    cases e3
    exact r2
  refine PySem.call_dict_pairs (knd := mixKind X.prog X.w) (kvs := (kvs.map (·.1)).zip (uv.map (·.2))) (PySem.PairArg.tuple a (ps.map Value.ref).toArray (fun j => ps.getD j 0) uv) (I.ok.hd hcalm) ⟨pl, items⟩ ⟨by simp; omega, fun i key v e => ?_⟩ (by omega) fun h' tk hd' k => ?_
  · obtain ⟨b, kv, e1, e2, _, r1, r2⟩ := huv i (key, v) e
    refine ⟨kv.1, ?_, kV_is (P := X.prog) (w := X.w) r1⟩
    rw [List.getElem?_zip_eq_some]
    exact ⟨by rw [List.getElem?_map, e2]; rfl, by rw [List.getElem?_map, show uv[i]? = some (key, v) from e]; rfl⟩
  · have hlen : (mergeK [] kvs).length ≤ sizeLine := by
      refine Nat.le_trans (length_mergeK kvs []) ?_
      rw [List.length_nil]; omega
    exact ⟨.ref s.heap.objs.size, _, I.laid (t' := tk) (fun b u e => k b u (fun z => nomatch z) e) (Nat.le_refl _) (show ObjOk X.prog X.w _ _ _ (.dK (mergeK [] kvs)) from ⟨hlen, hm, _, KV.merge kvz .nil, hd'⟩), rfl, q _ (I.hok.fresh (Nat.le_refl _))⟩
end
end TL

/-! V3: methods of values, methods that change an own list or dict, over data -/
namespace TL
open PySem PySem.Spec PyProof.Rows L2
section
variable {K : PySem.W.Frag} {mg : Str → Option Value} {hot : Pr} {H : Hp} {P : Val → Prop} {Q : VK}
theorem StR.new_dic {hot : Pr} (hh : ∀ a, hot a → H a ≠ none) {p : Addr} (n : H p = none) {kvs : List (Key × V)} {ks ds : List D} (e : KsOf kvs ks) (r : Reps K mg hot H (kvs.map (·.2)) ds) :
    StR K mg hot (upd H p (.dK kvs)) [(some (.ref p), some ⟨true, .dic ks ds⟩)] := by
  refine ⟨fun q hq x hx => ?_, ?_, fun a ha => ?_, hot_upd hh⟩
  · obtain rfl := List.mem_singleton.mp hq
    cases hx
    refine ⟨_, rfl, .dicK (.inr (by rw [roots_ownD]; exact List.mem_cons_self)) upd_same e (r.mono (keeps_newH n fun a q => ?_))⟩
    rcases q with q | q
    · exact .inl q
    · rw [roots_ownD] at q; exact .inr (by simpa [roots] using q)
  · rw [roots_ownD]; exact List.nodup_cons.mpr ⟨by simp [roots], List.nodup_nil⟩
  · rw [roots_ownD] at ha
    have e : a = p := by simpa [roots] using ha
    subst e
    exact fun q => hh a q n
theorem post_dic (hh : ∀ a, hot a → H a ≠ none) (k : PostF K mg hot H P Q) {p : Addr} (n : H p = none) {kvs : List (Key × V)} {ks ds : List D} (e : KsOf kvs ks) (r : Reps K mg hot H (kvs.map (·.2)) ds) (q : P ⟨true, .dic ks ds⟩) : Q (.ref p) (upd H p (.dK kvs)) :=
  k _ _ _ (StR.new_dic hh n e r) (Step.new_lst n) q
end
/-! ### dict(pairs) -/
def unPair : D → Option (Key × D)
  | .tup [k, v] => (keyU k).map fun x => (x, v)
  | _ => none
def unPairs : List D → Option (List (Key × D))
  | [] => some []
  | d :: ds => match unPair d, unPairs ds with
    | some x, some xs => some (x :: xs)
    | _, _ => none
def dmerge (acc : List D × List D) (l : List (Key × D)) : List D × List D := l.foldl (fun a kv => dput a.1 a.2 kv.1 kv.2) acc
def sDict : SN
  | [.tup xs], P => ∃ l, unPairs xs = some l ∧ P ⟨true, .dic (dmerge ([], []) l).1 (dmerge ([], []) l).2⟩
  | [.lst xs], P => ∃ l, unPairs xs = some l ∧ P ⟨true, .dic (dmerge ([], []) l).1 (dmerge ([], []) l).2⟩
  | [.dic ks ds], P => P ⟨true, .dic ks ds⟩
  | _, _ => False
def rDictA (K : PySem.W.Frag) : List V → Hp → VK → Prop := fun xs H Q => rDictT K xs H Q ∨ ((∃ (a : Addr) (ps : List Addr) (kvs : List (Key × V)), xs = [.ref a] ∧ SqL K H a (ps.map V.ref) ∧ Paired (fun p kv => SqT K H p [kV kv.1, kv.2]) ps kvs ∧
    ∀ p, H p = none → Q (.ref p) (upd H p (.dK (mergeK [] kvs)))) ∨ (∃ (a : Addr) (kvs : List (Key × V)), xs = [.ref a] ∧ Rd H a (.dK kvs) ∧ ∀ p, H p = none → Q (.ref p) (upd H p (.dK kvs))))
theorem cr_dictA {X : Cx} (hc : X.calm = true) : CallR X (.type "dict") (rDictA X.K) := CallR.or (call_dictT hc) (CallR.or (call_dictP hc) call_dictD)
section
variable {K : PySem.W.Frag} {mg : Str → Option Value} {hot : Pr} {H : Hp}
theorem unPairs_rep : ∀ {xs : List D} {l : List (Key × D)} {vs : List V}, unPairs xs = some l → Reps K mg hot H vs xs → ∃ (ps : List Addr) (kvs : List (Key × V)), vs = ps.map V.ref ∧ Paired (fun p kv => SqT K H p [kV kv.1, kv.2]) ps kvs ∧ kvs.map (·.1) = l.map (·.1) ∧ Reps K mg hot H (kvs.map (·.2)) (l.map (·.2)) ∧ ∀ p ∈ kvs, keyOk p.1
  | [], l, _, h, .nil => by cases h; exact ⟨[], [], rfl, .nil, rfl, .nil, fun _ z => nomatch z⟩
  | d :: ds, l, _, h, .cons r rs => by
    unfold unPairs at h
    split at h
    · rename_i x xs e1 e2
      cases h
      obtain ⟨ps, kvs, rfl, hp, h3, h4, h5⟩ := unPairs_rep e2 rs
      unfold unPair at e1
      split at e1
      · rename_i k v
        rw [Option.map_eq_some_iff] at e1
        obtain ⟨key, hk, rfl⟩ := e1
        cases r with
        | tup ht r2 =>
          rename_i a _
          cases r2 with
          | cons ra rb =>
            cases rb with
            | cons rb rc =>
              cases rc
              have ek := key_V hk (VRo.of ra)
              subst ek
              exact ⟨a :: ps, (key, _) :: kvs, rfl, .cons ht.sq hp, by simp [h3], .cons rb h4, fun p hp => (List.mem_cons.mp hp).elim (fun z => by rw [z]; exact key_ok hk (VRo.of ra)) (h5 p)⟩
      · cases e1
    · cases h
theorem dmerge_rep : ∀ {l : List (Key × D)} {kvs acc : List (Key × V)} {ds : List D}, kvs.map (·.1) = l.map (·.1) → Reps K mg hot H (kvs.map (·.2)) (l.map (·.2)) → Reps K mg hot H (acc.map (·.2)) ds →
    (dmerge (acc.map (fun p => keyD p.1), ds) l).1 = ((mergeK acc kvs).map fun p => keyD p.1) ∧ Reps K mg hot H ((mergeK acc kvs).map (·.2)) (dmerge (acc.map (fun p => keyD p.1), ds) l).2
  | [], [], acc, ds, _, _, r => ⟨rfl, r⟩
  | [], _ :: _, _, _, h, _, _ => by cases h
  | _ :: _, [], _, _, h, _, _ => by cases h
  | (x, d) :: l, (y, v) :: kvs, acc, ds, h, .cons r1 r2, r => by
    simp only [List.map_cons, List.cons.injEq] at h
    obtain ⟨rfl, h⟩ := h
    obtain ⟨q1, q2⟩ := dput_rep (x := y) r r1
    have ih := dmerge_rep (acc := putK acc y v) (ds := (dput (acc.map fun p => keyD p.1) ds y d).2) h r2 q2
    have e : dmerge (acc.map (fun p => keyD p.1), ds) ((y, d) :: l) = dmerge ((putK acc y v).map (fun p => keyD p.1), (dput (acc.map fun p => keyD p.1) ds y d).2) l := by
      show dmerge (dput (acc.map fun p => keyD p.1) ds y d) l = _
      rw [← q1]
    rw [e]
    exact ih
theorem mergeK_ok : ∀ {more acc : List (Key × V)}, (∀ p ∈ more, keyOk p.1) → (∀ p ∈ acc, keyOk p.1) → ∀ p ∈ mergeK acc more, keyOk p.1
  | [], _, _, h => h
  | q :: more, acc, h1, h2 => mergeK_ok (more := more) (acc := putK acc q.1 q.2) (fun p hp => h1 p (List.mem_cons_of_mem _ hp)) (putK_ok h2 (h1 q List.mem_cons_self))
theorem cl_dict : CallL K mg (rDictA K) sDict := by
  intro hot H xs ds P Q hh rx q k
  unfold sDict at q
  split at q
  · obtain ⟨l, hl, q⟩ := q
    obtain ⟨x, rfl, r⟩ := rx.one
    cases r.rep_tup with
    | tup ht rs =>
      obtain ⟨ps, kvs, rfl, hp, h3, h4, h5⟩ := unPairs_rep hl rs
      obtain ⟨m1, m2⟩ := dmerge_rep (acc := []) (ds := []) h3 h4 .nil
      exact .inl ⟨_, ps, kvs, rfl, ht.imp (fun z => z.2) id, hp, fun p n => post_dic hh k n ⟨m1, mergeK_ok h5 fun _ z => nomatch z⟩ m2 q⟩
  · obtain ⟨l, hl, q⟩ := q
    obtain ⟨x, rfl, r⟩ := rx.one
    obtain ⟨a, vs, rfl, hs, rs⟩ := r.lst
    obtain ⟨ps, kvs, rfl, hp, h3, h4, h5⟩ := unPairs_rep hl rs
    obtain ⟨m1, m2⟩ := dmerge_rep (acc := []) (ds := []) h3 h4 .nil
    exact .inr (.inl ⟨_, ps, kvs, rfl, hs, hp, fun p n => post_dic hh k n ⟨m1, mergeK_ok h5 fun _ z => nomatch z⟩ m2 q⟩)
  · obtain ⟨x, rfl, r⟩ := rx.one
    obtain ⟨a, kvs, rfl, hd, e, rs⟩ := r.dicO
    exact .inr (.inr ⟨a, kvs, rfl, .inl hd, fun p n => post_dic hh k n e rs q⟩)
  · exact q.elim
end
/-! ### sorted(d.items()) -/
def itemsL : List D → List D → List D
  | k :: ks, d :: ds => .tup [k, d] :: itemsL ks ds
  | _, _ => []
def sSortIt : S1
  | .dic ks ds, P => okSort (itemsL ks ds) = true ∧ P ⟨true, .lst (sortD (itemsL ks ds))⟩
  | _, _ => False
def rSortItems (K : PySem.W.Frag) : V → Hp → VK → Prop := fun x H Q => tyV K "dict" x H ∧ rItemsK x [] H fun y H1 => rSortIt K [y] H1 Q
theorem reps_kvs {K : PySem.W.Frag} {mg : Str → Option Value} {hot : Pr} {H : Hp} : ∀ {kvs : List (Key × V)} {ds : List D}, Reps K mg hot H (kvs.map (·.2)) ds → ∃ L : List (Key × V × D), kvs = L.map (fun t => (t.1, t.2.1)) ∧ ds = L.map (·.2.2) ∧ ∀ t ∈ L, Rep K mg hot H t.2.1 t.2.2
  | [], _, .nil => ⟨[], rfl, rfl, fun _ h => nomatch h⟩
  | p :: kvs, _, .cons r t => by
    obtain ⟨L, rfl, rfl, e⟩ := reps_kvs t
    refine ⟨(p.1, p.2, _) :: L, rfl, rfl, fun u hu => ?_⟩
    rcases List.mem_cons.mp hu with rfl | hu
    · exact r
    · exact e u hu
theorem itemsL_of : ∀ L : List (Key × V × D), itemsL ((L.map (fun t => (t.1, t.2.1))).map fun p => keyD p.1) (L.map (·.2.2)) = L.map fun t => .tup [keyD t.1, t.2.2]
  | [] => rfl
  | t :: L => by
    show D.tup [keyD t.1, t.2.2] :: itemsL _ _ = _
    rw [itemsL_of L]; rfl
theorem pyT_item {k : Key} {d : D} (h : pure' (.tup [keyD k, d]) = true) {v : V} : pyT (.tup [keyD k, d]) = itP (k, v, pyT d) ∧ pure' d = true := by
  have e := toPy_T h
  have h2 : (pure' (keyD k) && (pure' d && true)) = true := h
  simp only [Bool.and_eq_true] at h2
  have hd : pure' d = true := h2.2.1
  have ed := toPy_T hd
  refine ⟨?_, hd⟩
  have e3 : toPy (.tup [keyD k, d]) = some (itP (k, v, pyT d)) := by
    unfold itP
    cases k with
    | inl i => show (toPys [.int i, d]).map PyData.tuple = _; simp [toPys, toPy, ed]
    | inr i => show (toPys [.str i, d]).map PyData.tuple = _; simp [toPys, toPy, ed]
  rw [e] at e3
  exact Option.some.inj e3
section
variable {K : PySem.W.Frag} {mg : Str → Option Value}
theorem ul_sortIt : UnL K mg (rSortItems K) sSortIt := by
  intro hot H x dx P Q hh rx q k
  cases dx <;> simp only [sSortIt] at q <;> try exact q.elim
  obtain ⟨ok, q⟩ := q
  obtain ⟨a, kvs, rfl, hd, ⟨rfl, hkok⟩, rs⟩ := rx.dicO
  obtain ⟨L, rfl, rfl, rt⟩ := reps_kvs rs
  rw [itemsL_of] at ok q
  obtain ⟨o1, o2, o3, o4⟩ := okSort_data ok
  refine ⟨.inr (.inr (.inl ⟨rfl, .inl ⟨_, hd⟩⟩)), a, _, rfl, rfl, .inl hd, fun p np => ?_⟩
  have pu : ∀ t ∈ L, pyT (.tup [keyD t.1, t.2.2]) = itP (t.1, t.2.1, pyT t.2.2) ∧ pure' t.2.2 = true := fun t ht => pyT_item (pures_mem o1 _ (List.mem_map.mpr ⟨t, ht, rfl⟩))
  have e5 : (L.map fun t => (t.1, t.2.1, pyT t.2.2)).map itP = (L.map fun t => D.tup [keyD t.1, t.2.2]).map pyT := by
    rw [List.map_map, List.map_map]
    exact List.map_congr_left fun t ht => (pu t ht).1.symm
  refine ⟨p, a, L.map fun t => (t.1, t.2.1, pyT t.2.2), rfl, upd_same, ?_, fun b hb => ?_, by rw [e5]; exact o2, fun b hb => ?_, fun H' l ts hl hk hL hts hts2 => ?_⟩
  · have ne : a ≠ p := fun z => by rw [z, np] at hd; cases hd
    refine .inl ?_
    rw [upd_ne ne, hd, List.map_map]
    rfl
  · obtain ⟨t, ht, rfl⟩ := List.mem_map.mp hb
    exact (Rep.dp _ _ _ ((rt t ht).mono (keeps_new np)) (toPy_T (pu t ht).2)).1
  · obtain ⟨t, ht, rfl⟩ := List.mem_map.mp hb
    have := o4 _ (List.mem_map.mpr ⟨t, ht, rfl⟩)
    rw [(pu t ht).1] at this
    have h2 : (pyT t.2.2).depth ≤ (itP (t.1, t.2.1, pyT t.2.2)).depth := by
      unfold itP
      cases t.1 <;> simp [PyData.depth, PyData.depthAll] <;> omega
    show (pyT t.2.2).depth ≤ 20
    omega
  · have hl0 : H l = none := by
      cases e : H l with
      | none => rfl
      | some o =>
        have ne : l ≠ p := fun z => by rw [z, np] at e; cases e
        rw [upd_ne ne, e] at hl; cases hl
    have hk0 : ∀ b o, H b = some o → H' b = some o := fun b o e => hk b o (by rw [upd_ne (fun z => by rw [z, np] at e; cases e)]; exact e)
    -- the sorted triples
    let M := L.mergeSort fun a b => leS (.tup [keyD a.1, a.2.2]) (.tup [keyD b.1, b.2.2])
    have pM : M.Perm L := List.mergeSort_perm _ _
    have eM : sortD (L.map fun t => D.tup [keyD t.1, t.2.2]) = M.map fun t => D.tup [keyD t.1, t.2.2] := by
      unfold sortD
      exact (List.map_mergeSort (r := fun a b : Key × V × D => leS (.tup [keyD a.1, a.2.2]) (.tup [keyD b.1, b.2.2])) (s := leS) (f := fun t : Key × V × D => D.tup [keyD t.1, t.2.2]) (fun a _ b _ => rfl)).symm
    have eB : (L.map fun t => (t.1, t.2.1, pyT t.2.2)).mergeSort (PySem.W.dataLe false itP) = M.map fun t => (t.1, t.2.1, pyT t.2.2) := by
      refine (List.map_mergeSort (r := fun a b : Key × V × D => leS (.tup [keyD a.1, a.2.2]) (.tup [keyD b.1, b.2.2])) (s := PySem.W.dataLe false itP) (f := fun t : Key × V × D => (t.1, t.2.1, pyT t.2.2)) fun a ha b hb => ?_).symm
      show PySem.W.dataLe false pyT _ _ = PySem.W.dataLe false itP _ _
      unfold PySem.W.dataLe PySem.W.sortLe
      simp only [(pu a ha).1, (pu b hb).1]
    rw [eB, List.map_map] at hts2
    have kp : Keeps hot (hotL hot [(some (.ref l), some ⟨true, .lst (sortD (L.map fun t => D.tup [keyD t.1, t.2.2]))⟩)]) H H' := by
      refine ⟨fun b o e _ => hk0 b o e, fun b o e n z => ?_⟩
      rcases z with z | z
      · exact n z
      · rw [roots_own] at z
        have e2 : b = l := by simpa [roots] using z
        rw [e2, hl0] at e; cases e
    have nh : ∀ t ∈ ts, ¬ hotL hot [(some (.ref l), some ⟨true, .lst (sortD (L.map fun t => D.tup [keyD t.1, t.2.2]))⟩)] t.1 := fun t ht z => by
      obtain ⟨h1, h2, _⟩ := hts t ht
      rcases z with z | z
      · have := hh _ z
        have ne : t.1 ≠ p := fun z2 => by rw [z2, upd_same] at h1; cases h1
        rw [upd_ne ne] at h1
        exact this h1
      · rw [roots_own] at z
        exact h2 (by simpa [roots] using z)
    have rr : ∀ (ts : List (Addr × List V)) (M : List (Key × V × D)), (∀ t ∈ ts, ¬ hotL hot [(some (.ref l), some ⟨true, .lst (sortD (L.map fun t => D.tup [keyD t.1, t.2.2]))⟩)] t.1 ∧ ∃ o, PTu o ∧ H' t.1 = some (.frz o (.tup t.2))) → (∀ t ∈ M, Rep K mg hot H t.2.1 t.2.2 ∧ pure' (keyD t.1) = true) →
        ts.map (·.2) = M.map (fun t => [kV t.1, t.2.1]) → (∀ t ∈ M, ∀ s, t.1 = .inr s → PyData.strOk s = true) → Reps K mg (hotL hot [(some (.ref l), some ⟨true, .lst (sortD (L.map fun t => D.tup [keyD t.1, t.2.2]))⟩)]) H' (ts.map fun t => V.ref t.1) (M.map fun t => D.tup [keyD t.1, t.2.2]) := by
      intro ts
      induction ts with
      | nil => intro M _ _ h _; cases M with
        | nil => exact .nil
        | cons _ _ => cases h
      | cons t ts ih =>
        intro M h1 h2 h3 h4
        cases M with
        | nil => cases h3
        | cons m M =>
          simp only [List.map_cons, List.cons.injEq] at h3
          obtain ⟨n1, o, po, e⟩ := h1 t List.mem_cons_self
          rw [h3.1] at e
          refine .cons (.tup (.inl ⟨n1, o, po, e⟩) (.cons ?_ (.cons ((h2 m List.mem_cons_self).1.mono kp) .nil))) (ih M (fun t ht => h1 t (List.mem_cons_of_mem _ ht)) (fun t ht => h2 t (List.mem_cons_of_mem _ ht)) h3.2 fun t ht => h4 t (List.mem_cons_of_mem _ ht))
          cases hk : m.1 with
          | inl i => exact .int i
          | inr s => exact .str s (h4 m List.mem_cons_self s hk)
    have fin := rr ts M (fun t ht => ⟨nh t ht, (hts t ht).2.2⟩) (fun t ht => ⟨rt t (pM.mem_iff.mp ht), by cases t.1 <;> rfl⟩) hts2 fun t ht s es => by
      have := hkok (t.1, t.2.1) (List.mem_map.mpr ⟨t, pM.mem_iff.mp ht, rfl⟩)
      rw [es] at this
      exact this
    rw [← eM] at fin
    refine k (.ref l) ⟨true, .lst (sortD (L.map fun t => D.tup [keyD t.1, t.2.2]))⟩ H' ⟨fun c hc x hx => ?_, ?_, fun b hb => ?_, fun b hb => ?_⟩ ⟨fun b o e _ => hk0 b o e, fun b hb => ?_, fun b hb => ?_⟩ q
    · obtain rfl := List.mem_singleton.mp hc
      cases hx
      exact ⟨_, rfl, .lst (.inr (by rw [roots_own]; exact List.mem_cons_self)) hL fin⟩
    · rw [roots_own]; exact List.nodup_cons.mpr ⟨by simp [roots], List.nodup_nil⟩
    · rw [roots_own] at hb
      have e2 : b = l := by simpa [roots] using hb
      rw [e2]
      exact fun z => hh _ z hl0
    · cases e : H b with
      | none => exact absurd e (hh b hb)
      | some o => rw [hk0 b o e]; simp
    · rw [roots_own] at hb
      have e2 : b = l := by simpa [roots] using hb
      rw [e2]
      exact .inr hl0
    · cases e : H b with
      | none => exact absurd e hb
      | some o => rw [hk0 b o e]; simp
end
end TL

/-! V4: methods: o.m(..) of a value, x.m(..) of an own list or dict -/
namespace TL
open PySem PySem.Spec PyProof.Rows L2
abbrev SM := D → List D → (Val → Prop) → Prop
abbrev SMu := D → List D → (D → Val → Prop) → Prop
def tyM : D → String
  | .str _ => "str" | .lst _ => "list" | .dic _ _ => "dict" | _ => ""
def MethL (K : PySem.W.Frag) (mg : Str → Option Value) (r : V → List V → Hp → VK → Prop) (s : SM) : Prop :=
  ∀ (hot : Pr) (H : Hp) (x : V) (xs : List V) (dx : D) (ds : List D) (P : Val → Prop) (Q : VK), (∀ a, hot a → H a ≠ none) → VRo K mg hot H x dx → VRos K mg hot H xs ds → s dx ds P → PostF K mg hot H P Q → r x xs H Q
def MutL (K : PySem.W.Frag) (mg : Str → Option Value) (r : V → List V → Hp → VK → Prop) (s : SMu) : Prop :=
  (∀ (c : D) (ds : List D) (P : D → Val → Prop), ¬ s (.box c) ds P) ∧ ∀ (hot : Pr) (H : Hp) (a : Addr) (xs : List V) (d : D) (ds : List D) (P : D → Val → Prop) (Q : VK), (∀ a, hot a → H a ≠ none) → VR K mg hot H (.ref a) ⟨true, d⟩ → Reps K mg hot H xs ds → s d ds P →
    (∀ d' o' v dv, bx d' = [] → P d' (fz dv) → (∀ (hot' : Pr) (H' : Hp), Keeps hot hot' H H' → hot' a → H' a = some o' → VR K mg hot' H' (.ref a) ⟨true, d'⟩) → (∀ (hot' : Pr) (H' : Hp), Keeps hot hot' H H' → Rep K mg hot' H' v dv) → Q v (upd H a o')) → r (.ref a) xs H Q
section
variable {K : PySem.W.Frag} {mg : Str → Option Value} {hot : Pr} {H : Hp}
theorem tyV_of {v : V} {d : D} {T : String} (r : VRo K mg hot H v d) (h : tyM d = T) (ht : T = "str" ∨ T = "list" ∨ T = "dict") : tyV K T v H := by
  cases d with
  | str s => obtain ⟨rfl, _⟩ := r.str; exact h.symm
  | lst xs => obtain ⟨a, vs, rfl, hs, _⟩ := r.lst; exact .inl ⟨h.symm, vs, hs⟩
  | dic ks ds => obtain ⟨a, kvs, rfl, hd, _⟩ := r.dic; exact .inr (.inr (.inl ⟨h.symm, .inl ⟨kvs, hd⟩⟩))
  | _ => exfalso; have h2 : "" = T := h; subst h2; rcases ht with h | h | h <;> exact absurd h (by decide)
end
def wMeth (T : String) (s : SM) (to : WX) (ts : WXs) : WE := fun env P => to env fun o env1 => (∃ x, o.res env1 = some x ∧ tyM x = T) ∧ ts env1 fun os env2 => ∃ x ds, o.res env2 = some x ∧ resAll env2 os = some ds ∧ s x ds fun val => P val env2
def wMut (T : String) (s : SMu) (i : Nat) (ts : WXs) : WE := fun env P => (∃ d, env[i]? = some (some ⟨true, d⟩) ∧ tyM d = T) ∧ ts env fun os env1 => ∃ d ds, env1[i]? = some (some ⟨true, d⟩) ∧ tms os = some ds ∧ s d ds fun d' val => P val (env1.set i (some ⟨true, d'⟩))
section
variable {K : PySem.W.Frag} {mg : Str → Option Value} {oh : Pr} {H : Hp} {Q : VK} {r : V → List V → Hp → VK → Prop} {T : String}
theorem meth_lift {s : SM} (ht : T = "str" ∨ T = "list" ∨ T = "dict") (hl : MethL K mg r s) {to : WX} {ts : WXs} {σ : L2.St} (h : liftE K mg (wMeth T s to ts) σ H Q) : tBM K T r (liftX K mg to) (liftXs K mg ts) σ H Q := by
  obtain ⟨oh, τ, env, P, e0, S, t, k⟩ := h
  refine ⟨oh, τ, env, _, e0, S, t, fun v o env1 H1 e1 a1 S1 s1 ⟨⟨x, rx, hx⟩, t1⟩ => ?_⟩
  have hO : ∀ {L : Lay}, hotL oh ([o.cell v] ++ L) = hotL oh L := by intro L; exact hot_cell
  refine ⟨tyV_of (opd_reads e1 hO (A := [o.cell v]) S1 a1 (by simp) rx) hx ht, ?_⟩
  refine ⟨oh, o.cell v :: τ, env1, _, e1, S1, t1, fun vs os env2 H2 e2 a2 S2 s2 ⟨x2, ds, rx2, rs, q⟩ => ?_⟩
  have hA : ∀ {L : Lay}, roots ((cells vs os ++ [o.cell v]) ++ L) = roots L := by
    intro L
    rw [List.append_assoc]
    show roots (cells vs os ++ (o.cell v :: L)) = _
    rw [roots_cells, roots_cell]
  have hA2 : ∀ {L : Lay}, hotL oh ((cells vs os ++ [o.cell v]) ++ L) = hotL oh L := by intro L; unfold hotL; rw [hA]
  have S2' : StR K mg oh H2 ((cells vs os ++ [o.cell v]) ++ (τ ++ σ.zip env2)) := by rw [List.append_assoc]; exact S2
  have s2' : Step ((o.cell v :: τ) ++ σ.zip env1) H1 ((cells vs os ++ [o.cell v]) ++ (τ ++ σ.zip env2)) H2 := by rw [List.append_assoc]; exact s2
  refine hl _ H2 v vs x2 ds _ Q (fun a ha => S2'.right.hot_there ha) (opd_reads e2 hA2 S2' a1 (by simp) rx2) (opds_read e2 hA2 S2' a2 (fun c hc => List.mem_append_left _ hc) rs) q fun w val H3 T3 st p => ?_
  obtain ⟨S3, s3⟩ := over_cells hA S2' (s1.trans s2') T3 st
  exact k w val env2 H3 e2 S3 s3 p
theorem meth0_lift {s : SM} (ht : T = "str" ∨ T = "list" ∨ T = "dict") (hl : MethL K mg r s) {to : WX} {σ : L2.St} (h : liftE K mg (wMeth T s to wXnil) σ H Q) : tBM0 K T r (liftX K mg to) σ H Q := by
  obtain ⟨oh, τ, env, P, e0, S, t, k⟩ := h
  refine ⟨oh, τ, env, _, e0, S, t, fun v o env1 H1 e1 a1 S1 s1 ⟨⟨x, rx, hx⟩, x2, ds, rx2, rs, q⟩ => ?_⟩
  have hO : ∀ {L : Lay}, hotL oh ([o.cell v] ++ L) = hotL oh L := by intro L; exact hot_cell
  have hA : ∀ {L : Lay}, roots ([o.cell v] ++ L) = roots L := by intro L; exact roots_cell
  have S1' : StR K mg oh H1 ([o.cell v] ++ (τ ++ σ.zip env1)) := S1
  refine ⟨tyV_of (opd_reads e1 hO S1' a1 (by simp) rx) hx ht, ?_⟩
  cases rs
  refine hl _ H1 v [] x2 [] _ Q (fun a ha => S1'.right.hot_there ha) (opd_reads e1 hO S1' a1 (by simp) rx2) .nil q fun w val H3 T3 st p => ?_
  obtain ⟨S3, s3⟩ := over_cells hA S1' s1 T3 st
  exact k w val env1 H3 e1 S3 s3 p
theorem mut_fin {s : SMu} (hl : MutL K mg r s) {τ L0 : Lay} {env1 : EnvD} {σ : L2.St} {i : Nat} {d : D} {ds : List D} {vs : List V} {os : List Opd} {H0 H1 : Hp} {P : Val → EnvD → Prop} (e1 : σ.length = env1.length) (a1 : OpdsAt σ vs os)
    (S1 : StR K mg oh H1 (cells vs os ++ (τ ++ σ.zip env1))) (s1 : Step L0 H0 (cells vs os ++ (τ ++ σ.zip env1)) H1) (hx : env1[i]? = some (some ⟨true, d⟩)) (ht : tms os = some ds) (q : s d ds fun d' val => P val (env1.set i (some ⟨true, d'⟩))) {a : Addr} (ha : σ[i]? = some (some (.ref a)))
    (k : ∀ v val env' H', σ.length = env'.length → StR K mg oh H' ((some v, some val) :: (τ ++ σ.zip env')) → Step L0 H0 ((some v, some val) :: (τ ++ σ.zip env')) H' → P val env' → Q v H') : r (.ref a) vs H1 Q := by
  have rs := tms_reps S1 a1 ht fun c hc => List.mem_append_left _ hc
  rw [hot_cells] at rs
  have hb1 : bx d = [] := by cases d <;> first | rfl | exact (hl.1 _ _ _ q).elim
  obtain ⟨b, hb, rb, put⟩ := slot_own (τ := τ) e1 S1.right hx hb1
  rw [ha] at hb
  cases hb
  have s1' : Step L0 H0 (τ ++ σ.zip env1) H1 := s1.lessR fun a ha => by rw [roots_cells]; exact ha
  refine hl.2 _ H1 a vs d ds _ Q (fun a ha => S1.right.hot_there ha) rb rs q fun d' o' v dv hb2 p mk rv => ?_
  obtain ⟨S2, s2⟩ := put d' o' mk hb2
  have kp := s2.keeps (oh := oh) (B := [])
  rw [List.append_nil, List.append_nil] at kp
  exact k v (fz dv) _ _ (by rw [List.length_set]; exact e1) (S2.push (StR.one_fro (fun a ha => S2.hot_there ha) (rv _ _ kp)) Step.one_fro) ((s1'.trans s2).trans Step.one_fro.push) p
theorem mut_lift {s : SMu} (ht : T = "str" ∨ T = "list" ∨ T = "dict") (hl : MutL K mg r s) {i : Nat} {ts : WXs} {σ : L2.St} (h : liftE K mg (wMut T s i ts) σ H Q) : tBM K T r (tVar i) (liftXs K mg ts) σ H Q := by
  obtain ⟨oh, τ, env, P, e0, S, ⟨⟨d0, hx0, ht0⟩, t⟩, k⟩ := h
  obtain ⟨v0, ha, ra⟩ := get_slot e0 S hx0
  obtain ⟨a, rfl, _, _⟩ := ra.own_root
  exact ⟨_, ha, tyV_of ⟨true, ra⟩ ht0 ht, oh, τ, env, _, e0, S, t, fun vs os env1 H1 e1 a1 S1 s1 ⟨d, ds, hx, hr, q⟩ => mut_fin hl e1 a1 S1 s1 hx hr q ha k⟩
theorem mut0_lift {s : SMu} (ht : T = "str" ∨ T = "list" ∨ T = "dict") (hl : MutL K mg r s) {i : Nat} {σ : L2.St} (h : liftE K mg (wMut T s i wXnil) σ H Q) : tBM0 K T r (tVar i) σ H Q := by
  obtain ⟨oh, τ, env, P, e0, S, ⟨⟨d0, hx0, ht0⟩, d, ds, hx, hr, q⟩, k⟩ := h
  obtain ⟨v0, ha, ra⟩ := get_slot e0 S hx0
  obtain ⟨a, rfl, _, _⟩ := ra.own_root
  exact ⟨_, ha, tyV_of ⟨true, ra⟩ ht0 ht, mut_fin (vs := []) (os := []) hl e0 .nil S Step.refl hx hr q ha k⟩
end
end TL

/-! V5: the methods one by one -/
namespace TL
open PySem PySem.Spec PyProof.Rows L2
section
variable {K : PySem.W.Frag} {mg : Str → Option Value} {X : Cx}
/-! #### s.join(texts) -/
def sJoin : SM
  | .str a, [.lst xs], P => ∃ ss, unStrs xs = some ss ∧ (ss.map (·.length)).sum + ss.length * a.length ≤ 16777216 ∧ P (fz (.str (Str.join a ss)))
  | .str a, [.tup xs], P => ∃ ss, unStrs xs = some ss ∧ (ss.map (·.length)).sum + ss.length * a.length ≤ 16777216 ∧ P (fz (.str (Str.join a ss)))
  | _, _, _ => False
def rJoin (K : PySem.W.Frag) : V → List V → Hp → VK → Prop := fun x xs H Q => ∃ a p, ∃ ys : List Str, x = .str a ∧ xs = [.ref p] ∧ (SqL K H p (ys.map V.str) ∨ SqT K H p (ys.map V.str)) ∧ (ys.map (·.length)).sum + ys.length * a.length ≤ 16777216 ∧ Q (.str (Str.join a ys)) H
theorem mt_joinD : MtR X "str.join" (rJoin X.K) := by
  intro pins s σ H x xs v us Q I rx rs h
  obtain ⟨a, p, ys, h1, h2, h3, h4, h5⟩ := h
  exact mt_join pins s σ H x xs v us Q I rx rs ⟨a, p, ys, h1, h2, h3, h4, by rw [join_eq]; exact h5⟩
theorem ml_join : MethL K mg (rJoin K) sJoin := by
  intro hot H x xs dx ds P Q hh rx rs q k
  unfold sJoin at q
  split at q
  · obtain ⟨ss, h1, h2, q⟩ := q
    obtain ⟨rfl, ok⟩ := rx.str
    obtain ⟨y, rfl, ry⟩ := rs.one
    obtain ⟨p, vs, rfl, hs, rv⟩ := ry.lst
    rw [unStrs_eq h1] at rv
    obtain ⟨rfl, oks⟩ := rv.strs
    exact ⟨_, p, ss, rfl, rfl, .inl hs, h2, post_fz hh k (.str _ (ok_join _ ok _ oks)) q⟩
  · obtain ⟨ss, h1, h2, q⟩ := q
    obtain ⟨rfl, ok⟩ := rx.str
    obtain ⟨y, rfl, ry⟩ := rs.one
    obtain ⟨p, vs, rfl, hs, rv⟩ := ry.tup
    rw [unStrs_eq h1] at rv
    obtain ⟨rfl, oks⟩ := rv.strs
    exact ⟨_, p, ss, rfl, rfl, .inr hs, h2, post_fz hh k (.str _ (ok_join _ ok _ oks)) q⟩
  · exact q.elim
/-! #### own lists -/
def suRev : SMu
  | .lst xs, [], P => P (.lst xs.reverse) (fz .non)
  | _, _, _ => False
def suClear : SMu
  | .lst xs, [], P => P (.lst []) (fz .non)
  | _, _, _ => False
def suPop : SMu
  | .lst xs, [], P => ∃ d, xs[xs.length - 1]? = some d ∧ P (.lst xs.dropLast) (fz d)
  | _, _, _ => False
def suPopAt : SMu
  | .lst xs, [.int i], P => ∃ k d, (-(2 ^ 63) ≤ i ∧ i < 2 ^ 63) ∧ seqIndex? i xs.length = some k ∧ xs[k]? = some d ∧ P (.lst (xs.eraseIdx k)) (fz d)
  | _, _, _ => False
def suIns : SMu
  | .lst xs, [.int i, d], P => (xs.length < 16777216 ∧ 0 ≤ i ∧ i < 2 ^ 63) ∧ P (.lst (xs.take i.toNat ++ [d] ++ xs.drop i.toNat)) (fz .non)
  | _, _, _ => False
def suApp : SMu
  | .lst xs, [d], P => xs.length < 16777216 ∧ P (.lst (xs ++ [d])) (fz .non)
  | _, _, _ => False
theorem Reps.dropLast {hot : Pr} {H : Hp} {vs : List V} {ds : List D} (r : Reps K mg hot H vs ds) : Reps K mg hot H vs.dropLast ds.dropLast := by
  rw [List.dropLast_eq_take, List.dropLast_eq_take, r.length]
  exact r.take _
theorem Reps.eraseIdx {hot : Pr} {H : Hp} : ∀ {vs : List V} {ds : List D} (k : Nat), Reps K mg hot H vs ds → Reps K mg hot H (vs.eraseIdx k) (ds.eraseIdx k)
  | _, _, _, .nil => .nil
  | _, _, 0, .cons _ t => t
  | _, _, k + 1, .cons h t => .cons h (Reps.eraseIdx k t)
theorem lst_mk {hot : Pr} {H : Hp} {a : Addr} {vs : List V} {ds : List D} (r : Reps K mg hot H vs ds) : ∀ (hot' : Pr) (H' : Hp), Keeps hot hot' H H' → hot' a → H' a = some (.lst vs) → VR K mg hot' H' (.ref a) ⟨true, .lst ds⟩ := fun _ _ kp hh e => .lst hh e (r.mono kp)
theorem mu_rev : MutL K mg rReverse suRev := by
  refine ⟨fun c ds P h => h, ?_⟩
  intro hot H a xs d ds P Q hh ra rs q k
  unfold suRev at q
  split at q
  · cases rs
    obtain ⟨b, vs, e, _, h2, r⟩ := own_lst ra
    cases e
    exact ⟨a, vs, rfl, rfl, h2, k _ _ _ _ rfl q (lst_mk r.reverse) fun _ _ _ => .non⟩
  · exact q.elim
theorem mu_clear : MutL K mg rClear suClear := by
  refine ⟨fun c ds P h => h, ?_⟩
  intro hot H a xs d ds P Q hh ra rs q k
  unfold suClear at q
  split at q
  · cases rs
    obtain ⟨b, vs, e, _, h2, r⟩ := own_lst ra
    cases e
    exact ⟨a, vs, rfl, rfl, h2, k _ _ _ _ rfl q (lst_mk .nil) fun _ _ _ => .non⟩
  · exact q.elim
theorem mu_pop : MutL K mg rPop suPop := by
  refine ⟨fun c ds P h => h, ?_⟩
  intro hot H a xs d ds P Q hh ra rs q k
  unfold suPop at q
  split at q
  · cases rs
    obtain ⟨b, vs, e, _, h2, r⟩ := own_lst ra
    cases e
    obtain ⟨d, hd, q⟩ := q
    obtain ⟨v, hv, rv⟩ := r.get hd
    exact ⟨a, vs, v, rfl, rfl, h2, by rw [r.length]; exact hv, k _ _ _ _ rfl q (lst_mk r.dropLast) fun _ _ kp => rv.mono kp⟩
  · exact q.elim
theorem mu_popAt : MutL K mg rPopAt suPopAt := by
  refine ⟨fun c ds P h => h, ?_⟩
  intro hot H a xs d ds P Q hh ra rs q k
  unfold suPopAt at q
  split at q
  · cases rs with
    | cons ri rn =>
      cases ri
      cases rn
      obtain ⟨b, vs, e, _, h2, r⟩ := own_lst ra
      cases e
      obtain ⟨j, d, ⟨b1, b2⟩, hk, hd, q⟩ := q
      obtain ⟨v, hv, rv⟩ := r.get hd
      exact ⟨a, vs, _, j, v, rfl, rfl, h2, b1, b2, by rw [r.length]; exact hk, hv, k _ _ _ _ rfl q (lst_mk (r.eraseIdx j)) fun _ _ kp => rv.mono kp⟩
  · exact q.elim
def rIns : V → List V → Hp → VK → Prop := fun x vs H Q => ∃ (l : Addr) (xs : List V) (i : Int) (y : V), x = .ref l ∧ vs = [.int i, y] ∧ H l = some (.lst xs) ∧ xs.length < sizeLine ∧ 0 ≤ i ∧ i < 2 ^ 63 ∧ Q .non (upd H l (.lst (xs.take i.toNat ++ [y] ++ xs.drop i.toNat)))
theorem mt_insD : MtR X "list.insert" rIns := mt_insert
theorem mu_ins : MutL K mg rIns suIns := by
  refine ⟨fun c ds P h => h, ?_⟩
  intro hot H a xs d ds P Q hh ra rs q k
  unfold suIns at q
  split at q
  · cases rs with
    | cons ri rn =>
      cases ri
      cases rn with
      | cons rd rn =>
        cases rn
        obtain ⟨b, vs, e, _, h2, r⟩ := own_lst ra
        cases e
        obtain ⟨⟨b0, b1, b2⟩, q⟩ := q
        exact ⟨a, vs, _, _, rfl, rfl, h2, by rw [slen, r.length]; exact b0, b1, b2, k _ _ _ _ rfl q (lst_mk (((r.take _).append (.cons rd .nil)).append (r.drop _))) fun _ _ _ => .non⟩
  · exact q.elim
theorem mu_app : MutL K mg rAppend suApp := by
  refine ⟨fun c ds P h => h, ?_⟩
  intro hot H a xs d ds P Q hh ra rs q k
  unfold suApp at q
  split at q
  · cases rs with
    | cons rd rn =>
      cases rn
      obtain ⟨b, vs, e, _, h2, r⟩ := own_lst ra
      cases e
      exact ⟨a, vs, _, rfl, rfl, h2, by rw [slen, r.length]; exact q.1, k _ _ _ _ rfl q.2 (lst_mk (r.append (.cons rd .nil))) fun _ _ _ => .non⟩
  · exact q.elim
end
/-! #### own dicts: d.pop(k), d.pop(k, x) -/
/-- without a key -/
def ddrop (ks ds : List D) (x : Key) : List D × List D := (ks.filter fun k => decide (keyU k ≠ some x), ((ks.zip ds).filter fun p => decide (keyU p.1 ≠ some x)).map (·.2))
def wDpop1 (i : Nat) (tk : WX) : WE := fun env P => (∃ ks ds, env[i]? = some (some ⟨true, .dic ks ds⟩)) ∧ tk env fun o env1 => ∃ ks ds y k d, env1[i]? = some (some ⟨true, .dic ks ds⟩) ∧ o.res env1 = some y ∧ keyU y = some k ∧ dget ks ds k = some d ∧
  P (fz d) (env1.set i (some ⟨true, .dic (ddrop ks ds k).1 (ddrop ks ds k).2⟩))
def wDpop2 (i : Nat) (tk tx : WX) : WE := fun env P => (∃ ks ds, env[i]? = some (some ⟨true, .dic ks ds⟩)) ∧ tk env fun o env1 => tx env1 fun o2 env2 => ∃ ks ds y z k, env2[i]? = some (some ⟨true, .dic ks ds⟩) ∧ o.res env2 = some y ∧ o2.res env2 = some z ∧ plainD z = true ∧ keyU y = some k ∧
  (∀ d, dget ks ds k = some d → P (fz d) (env2.set i (some ⟨true, .dic (ddrop ks ds k).1 (ddrop ks ds k).2⟩))) ∧ (dget ks ds k = none → P (fz z) env2)
section
variable {K : PySem.W.Frag} {mg : Str → Option Value} {H : Hp}
theorem ddrop_rep {hot : Pr} : ∀ {kvs : List (Key × V)} {ds : List D} {x : Key}, Reps K mg hot H (kvs.map (·.2)) ds →
    (ddrop (kvs.map fun p => keyD p.1) ds x).1 = ((dropK kvs x).map fun p => keyD p.1) ∧ Reps K mg hot H ((dropK kvs x).map (·.2)) (ddrop (kvs.map fun p => keyD p.1) ds x).2
  | [], _, x, .nil => ⟨rfl, .nil⟩
  | p :: kvs, _, x, .cons (d := d) (ds := ds) h t => by
    obtain ⟨a, b⟩ := ddrop_rep (x := x) t
    unfold ddrop at a b ⊢
    unfold dropK at a b ⊢
    simp only [List.map_cons, List.zip_cons_cons]
    by_cases e : p.1 = x
    · rw [List.filter_cons_of_neg (by simp [keyU_keyD, e]), List.filter_cons_of_neg (by simp [e]), List.filter_cons_of_neg (by simp [keyU_keyD, e])]
      exact ⟨a, b⟩
    · rw [List.filter_cons_of_pos (by simp [keyU_keyD, e]), List.filter_cons_of_pos (by simp [e]), List.filter_cons_of_pos (by simp [keyU_keyD, e])]
      exact ⟨congrArg (keyD p.1 :: ·) a, .cons h b⟩
theorem dropK_ok {kvs : List (Key × V)} {k : Key} (h : ∀ p ∈ kvs, keyOk p.1) : ∀ p ∈ dropK kvs k, keyOk p.1 := fun p hp => h p (List.mem_filter.mp hp).1
theorem own_dic {hot : Pr} {v : V} {ks ds : List D} (r : VR K mg hot H v ⟨true, .dic ks ds⟩) : ∃ a kvs, v = .ref a ∧ hot a ∧ H a = some (.dK kvs) ∧ KsOf kvs ks ∧ Reps K mg hot H (kvs.map (·.2)) ds := by
  cases r with
  | dicK h1 h2 e rs => exact ⟨_, _, rfl, h1, h2, e, rs⟩
theorem dic_mk {hot : Pr} {a : Addr} {kvs : List (Key × V)} {ks ds : List D} (e : KsOf kvs ks) (r : Reps K mg hot H (kvs.map (·.2)) ds) : ∀ (hot' : Pr) (H' : Hp), Keeps hot hot' H H' → hot' a → H' a = some (.dK kvs) → VR K mg hot' H' (.ref a) ⟨true, .dic ks ds⟩ := fun _ _ kp hh e' => .dicK hh e' e (r.mono kp)
theorem dpop1_lift {i : Nat} {tk : WX} {σ : L2.St} {Q : VK} (h : liftE K mg (wDpop1 i tk) σ H Q) : tDPop1 (tVar i) (liftX K mg tk) σ H Q := by
  obtain ⟨oh, τ, env, P, e0, S, ⟨⟨ks0, ds0, hx0⟩, t⟩, k⟩ := h
  obtain ⟨a, ha, ra, _⟩ := slot_own e0 S hx0
  obtain ⟨a2, kvs0, ea, _, hd0, _, _⟩ := own_dic ra
  cases ea
  refine ⟨_, ha, a, rfl, .inl ⟨kvs0, .inl hd0⟩, oh, τ, env, _, e0, S, t, fun v o env1 H1 e1 a1 S1 s1 ⟨ks, ds, y, key, d, hx, ry, hk, hd, p⟩ => ?_⟩
  have hO : ∀ {L : Lay}, hotL oh ([o.cell v] ++ L) = hotL oh L := by intro L; exact hot_cell
  have S1' : StR K mg oh H1 ([o.cell v] ++ (τ ++ σ.zip env1)) := S1
  have s1' : Step (τ ++ σ.zip env) H (τ ++ σ.zip env1) H1 := s1.lessR fun b hb => by rw [roots_cell]; exact hb
  obtain ⟨b, hb, rb, put⟩ := slot_own e1 S1'.right hx
  rw [ha] at hb
  cases hb
  obtain ⟨a3, kvs, ea, _, h2, ⟨rfl, hok⟩, rs⟩ := own_dic rb
  cases ea
  obtain ⟨g1, g2⟩ := ddrop_rep (x := key) rs
  obtain ⟨w, ew, rw'⟩ := (dget_val rs).1 d hd
  obtain ⟨S2, s2⟩ := put _ (.dK (dropK kvs key)) (dic_mk ⟨g1, dropK_ok hok⟩ g2)
  have kp := s2.keeps (oh := oh) (B := [])
  rw [List.append_nil, List.append_nil] at kp
  exact ⟨kvs, key, w, h2, key_V hk (opd_reads e1 hO S1' a1 (by simp) ry), ew, k w (fz d) _ _ (by rw [List.length_set]; exact e1) (S2.push (StR.one_fro (fun a ha => S2.hot_there ha) (rw'.mono kp)) Step.one_fro) ((s1'.trans s2).trans Step.one_fro.push) p⟩
theorem dpop2_lift {i : Nat} {tk tx : WX} {σ : L2.St} {Q : VK} (h : liftE K mg (wDpop2 i tk tx) σ H Q) : tDPop2 (tVar i) (liftX K mg tk) (liftX K mg tx) σ H Q := by
  obtain ⟨oh, τ, env, P, e0, S, ⟨⟨ks0, ds0, hx0⟩, t⟩, k⟩ := h
  obtain ⟨a, ha, ra, _⟩ := slot_own e0 S hx0
  obtain ⟨a2, kvs0, ea, _, hd0, _, _⟩ := own_dic ra
  cases ea
  refine ⟨_, ha, a, rfl, .inl ⟨kvs0, .inl hd0⟩, oh, τ, env, _, e0, S, t, fun v o env1 H1 e1 a1 S1 s1 t1 => ?_⟩
  refine ⟨oh, o.cell v :: τ, env1, _, e1, S1, t1, fun v2 o2 env2 H2 e2 a2 S2 s2 ⟨ks, ds, y, z, key, hx, ry, rz, hz, hk, p1, p2⟩ => ?_⟩
  have hA : ∀ {L : Lay}, roots ([o2.cell v2, o.cell v] ++ L) = roots L := by
    intro L
    show roots (o2.cell v2 :: o.cell v :: L) = _
    rw [roots_cell, roots_cell]
  have hA2 : ∀ {L : Lay}, hotL oh ([o2.cell v2, o.cell v] ++ L) = hotL oh L := by intro L; unfold hotL; rw [hA]
  have S2' : StR K mg oh H2 ([o2.cell v2, o.cell v] ++ (τ ++ σ.zip env2)) := S2
  have s2' : Step (τ ++ σ.zip env) H (τ ++ σ.zip env2) H2 := (s1.trans s2).lessR fun b hb => by rw [← hA] at hb; exact hb
  obtain ⟨b, hb, rb, put⟩ := slot_own e2 S2'.right hx
  rw [ha] at hb
  cases hb
  obtain ⟨a3, kvs, ea, _, h2, ⟨rfl, hok⟩, rs⟩ := own_dic rb
  cases ea
  obtain ⟨g1, g2⟩ := ddrop_rep (x := key) rs
  obtain ⟨d1, d2⟩ := dget_val (x := key) rs
  refine ⟨kvs, key, h2, key_V hk (opd_reads e2 hA2 S2' a1 (by simp) ry), fun w ew => ?_, fun en => ?_⟩
  · cases hd : dget (kvs.map fun p => keyD p.1) ds key with
    | none => rw [d2 hd] at ew; cases ew
    | some d =>
      obtain ⟨w2, ew2, rw'⟩ := d1 d hd
      rw [ew] at ew2
      cases ew2
      obtain ⟨S3, s3⟩ := put _ (.dK (dropK kvs key)) (dic_mk ⟨g1, dropK_ok hok⟩ g2)
      have kp := s3.keeps (oh := oh) (B := [])
      rw [List.append_nil, List.append_nil] at kp
      exact k w (fz d) _ _ (by rw [List.length_set]; exact e2) (S3.push (StR.one_fro (fun a ha => S3.hot_there ha) (rw'.mono kp)) Step.one_fro) ((s2'.trans s3).trans Step.one_fro.push) (p1 d hd)
  · cases hd : dget (kvs.map fun p => keyD p.1) ds key with
    | some d => obtain ⟨w2, ew2, _⟩ := d1 d hd; rw [en] at ew2; cases ew2
    | none =>
      have rz2 := (opd_reads e2 hA2 S2' a2 (by simp) rz).rep_plain hz
      exact k v2 (fz z) env2 H2 e2 (S2'.right.push (StR.one_fro (fun a ha => S2'.right.hot_there ha) rz2) Step.one_fro) (s2'.trans Step.one_fro.push) (p2 hd)
end
end TL

/-! V6: a written dict of the module read; a local name that holds a def, called -/
namespace TL
open PySem PySem.Spec PyProof.Rows L2
def lookS (s : Str) : List (Str × D) → Option D
  | [] => none
  | p :: ps => if s = p.1 then some p.2 else lookS s ps
def wGix (tab : List (Str × D)) (t : WX) : WE := fun env P => t env fun o env1 => ∃ s d, o.res env1 = some (.str s) ∧ lookS s tab = some d ∧ P (fz d) env1
section
variable {K : PySem.W.Frag} {mg : Str → Option Value} {w : World} {H : Hp} {Q : VK}
theorem gdix_lift {a : Addr} {tab : List (Str × D)} (ht : ∀ s d, lookS s tab = some d → ∃ v, KDct K w a s v ∧ ∀ hot H, Rep K mg hot H v d) {t : WX} {σ : L2.St} (h : liftE K mg (wGix tab t) σ H Q) : tC (.ref a) σ H fun x H1 => liftX K mg t σ H1 fun y H2 => rIxD K w x y H2 Q := by
  obtain ⟨oh, τ, env, P, e0, S, t1, k⟩ := h
  refine ⟨oh, τ, env, _, e0, S, t1, fun v o env1 H1 e1 a1 S1 s1 ⟨s, d, rx, hl, p⟩ => ?_⟩
  have hO : ∀ {L : Lay}, hotL oh ([o.cell v] ++ L) = hotL oh L := by intro L; exact hot_cell
  have hA : ∀ {L : Lay}, roots ([o.cell v] ++ L) = roots L := by intro L; exact roots_cell
  have S1' : StR K mg oh H1 ([o.cell v] ++ (τ ++ σ.zip env1)) := S1
  obtain ⟨rfl, _⟩ := (opd_reads e1 hO S1' a1 (by simp) rx).str
  obtain ⟨u, kd, rp⟩ := ht s d hl
  refine ⟨a, s, u, rfl, rfl, kd, ?_⟩
  have S2 := S1'.right
  have s2 : Step (τ ++ σ.zip env) H (τ ++ σ.zip env1) H1 := s1.lessR fun b hb => by rw [roots_cell]; exact hb
  exact k u (fz d) env1 H1 e1 (S2.push (StR.one_fro (fun b hb => S2.hot_there hb) (rp _ _)) Step.one_fro) (s2.trans Step.one_fro.push) p
end
section
variable {X : Cx} {i : Nat}
/-- of the defs that the slot may hold, each with its promise -/
def tCallV (X : Cx) (i : Nat) (t : TA) : TE := fun σ H Q => ∃ (f : Addr) (fd : FuncData) (ps : List Str) (sp : Sp) (kk : Nat), σ[i]? = some (some (.ref f)) ∧ FnT X.prog X.w X.K X.mg X.base kk f fd ps sp ∧ Room kk X.A ∧ PySem.W.keepIn X.K (.ref f) = true ∧ Binds X.K fd ps [] ∧ t σ H fun vs H1 => sp vs H1 Q E0
theorem pe_callV {x : Str} {p pos : Pos} {e : Expr} {es : List Expr} {t : TA} (hgd : X.A.guards = some []) (hN : X.N[i]? = some x) (hv : Vis X.env.scope x) (ha : PA X (e :: es) t)
    (hdb : (x == ("__debug__" : Str)) = false) (hcd : (x == ("__classdict__" : Str)) = false) (he : starEach (e :: es) X.env = (false, eval e X.env) :: starEach es X.env) (hpl : (backTo pos (starEach es X.env)).any (·.1) = false) :
    PE X (.Call (.Name x p) (e :: es) [] pos) (tCallV X i t) := by
  refine ⟨fun pins s σ H Q I h => ?_⟩
  obtain ⟨f, fd, ps, sp, kk, hs, F, hr, hk, hb, ht⟩ := h
  refine wpAny_Call_Name_kw (thn ((pe_var (pos := p) hN hv hdb hcd).run pins s σ H (fun v H1 => v = .ref f ∧ H1 = H) I ⟨.ref f, hs, rfl, rfl⟩) fun u s1 ⟨v, H1, I1, r1, q1⟩ => ?_)
  obtain ⟨rfl, rfl⟩ := q1
  cases r1
  refine PySem.W.callWith_K (h₀ := X.base) I.ok.mod.kin hk (thn (ha.run pos pins s1 σ _ _ I1 ht) fun us s2 ⟨vs, H2, I2, r, q⟩ => ⟨I2.kIn, ?_⟩) he hpl
  exact run_fnT F hr hgd (fun hl => by have := hb s2 us I2.kIn (by rw [List.append_nil]; exact hl); rw [List.append_nil] at this; exact this) I2 r q
end
end TL

/-! V7: text * int, [..] * int, is True -/
namespace TL
open PySem PySem.Spec PyProof.Rows L2
def repS (s : Str) (n : Int) : Str := if n < 1 then Str.empty else if (n == 1 || s.length == 0) = true then s else ⟨(List.replicate n.toNat s.cps).foldl (· ++ ·) #[]⟩
theorem foldl_app {α : Type} (c : Array α) : ∀ (k : Nat) (acc : Array α), ((List.replicate k c).foldl (· ++ ·) acc).toList = acc.toList ++ (List.replicate k c.toList).flatten
  | 0, acc => by simp
  | k + 1, acc => by
    rw [List.replicate_succ, List.foldl_cons, foldl_app c k, Array.toList_append, List.replicate_succ, List.flatten_cons, List.append_assoc]
theorem repS_ok {s : Str} {n : Int} (h : PyData.strOk s = true) : PyData.strOk (repS s n) = true := by
  unfold repS
  split
  · decide +kernel
  · split
    · exact h
    · refine ok_of_mem fun c hc => ?_
      have h2 : c ∈ ((List.replicate n.toNat s.cps).foldl (· ++ ·) #[]).toList := hc
      rw [foldl_app] at h2
      simp only [List.mem_append, List.mem_flatten, List.mem_replicate] at h2
      rcases h2 with h2 | ⟨l, ⟨_, rfl⟩, h2⟩
      · simp at h2
      · have h3 : s.cps.all (· < 0x110000) = true := h
        rw [Array.all_eq_true'] at h3
        simpa using h3 c (by simpa using h2)
def rMulS : R2 := fun x y H Q => ∃ s n, x = .str s ∧ y = .int n ∧ (-(2 ^ 62) ≤ n ∧ n < 2 ^ 62 ∧ s.length * n.toNat ≤ 16777216) ∧ Q (.str (repS s n)) H
theorem op_mulS {X : Cx} : OpR X (binaryOp .Mult) rMulS := by
  intro pins s σ H x y v u Q I rx ry h
  obtain ⟨a, n, rfl, rfl, ⟨h1, h2, h3⟩, q⟩ := h
  obtain ⟨t, rfl⟩ := rx
  obtain ⟨t', rfl⟩ := ry
  have big : n.toNat = n ∨ n < 0 := by omega
  refine PySem.P.mul_str (by rw [decide_eq_false (by omega), decide_eq_false (by omega)]; rfl) (fun c1 c2 => ?_) (fun c1 c2 => ?_) ?_
  · have h4 : ((a.length * n.toNat : Nat) : Int) ≤ 16777216 := Int.ofNat_le.mpr h3
    have h5 : (n.toNat : Int) = n := by omega
    rw [Int.natCast_mul, h5] at h4
    intro c
    have h6 : (2 ^ 63 - 1) / n * n ≥ (2 ^ 63 - 1) - n + 1 := by
      have := Int.emod_add_mul_ediv (2 ^ 63 - 1) n
      have h7 := Int.emod_lt_of_pos (2 ^ 63 - 1) (show 0 < n by omega)
      rw [Int.mul_comm] at this
      omega
    have h8 : ((2 ^ 63 - 1) / n) * n ≤ (a.length : Int) * n := Int.mul_le_mul_of_nonneg_right (by omega) (by omega)
    omega
  · show decide (_ > sizeLine) = false
    rw [slen]
    exact decide_eq_false (by omega)
  · unfold repS at q
    split
    · rename_i c
      rw [if_pos c] at q
      exact ⟨by decide, .str _, H, I.tok _, ⟨_, rfl⟩, q⟩
    · rename_i c
      rw [if_neg c] at q
      split
      · rename_i c2
        rw [if_pos c2] at q
        exact ⟨.str _, H, I, ⟨_, rfl⟩, q⟩
      · rename_i c2
        rw [if_neg c2] at q
        refine ⟨?_, .str _, H, I.tok _, ⟨_, rfl⟩, q⟩
        have e : Str.length ⟨(List.replicate n.toNat a.cps).foldl (· ++ ·) #[]⟩ = n.toNat * a.length := by
          show Array.size _ = _
          rw [← Array.length_toList, foldl_app, List.length_append, PyProof.Rows.lm_len_rep_flat]
          simp; rfl
        rw [e, slen, Nat.mul_comm]; exact h3
def rMulA : R2 := fun x y H Q => rI CMul (fun i j => .int (i * j)) x y H Q ∨ rMulS x y H Q
theorem or_mulA {X : Cx} : OpR X (binaryOp .Mult) rMulA := OpR.or op_mul op_mulS
def sMulA : S2
  | .int i, .int j, P => ((-(2 ^ 64) < i ∧ i < 2 ^ 64) ∨ (-(2 ^ 64) < j ∧ j < 2 ^ 64)) ∧ P (fz (.int (i * j)))
  | .str s, .int n, P => (-(2 ^ 62) ≤ n ∧ n < 2 ^ 62 ∧ s.length * n.toNat ≤ 16777216) ∧ P (fz (.str (repS s n)))
  | _, _, _ => False
section
variable {K : PySem.W.Frag} {mg : Str → Option Value}
theorem bl_mulA : BinL K mg rMulA sMulA := by
  intro hot H x y dx dy P Q hh rx ry q k
  unfold sMulA at q
  split at q
  · exact .inl ⟨_, _, rx.int, ry.int, q.1, post_fz hh k (.int _) q.2⟩
  · obtain ⟨rfl, ok⟩ := rx.str
    exact .inr ⟨_, _, rfl, ry.int, q.1, post_fz hh k (.str _ (repS_ok ok)) q.2⟩
  · exact q.elim
def sDivA : S2
  | .int i, .int j, P => (0 < j ∧ j < 1208925819614629174706176) ∧ P (fz (.int (i / j)))
  | _, _, _ => False
theorem bl_divA : BinL K mg (rI CDivW fun i j => .int (i / j)) sDivA := by
  intro hot H x y dx dy P Q hh rx ry q k
  unfold sDivA at q
  split at q
  · rename_i i j
    obtain ⟨⟨q1, q2⟩, q⟩ := q
    refine ⟨_, _, rx.int, ry.int, ⟨q1, ?_⟩, post_fz hh k (.int _) q⟩
    have h1 : j.natAbs < 2 ^ 80 := by omega
    have h2 : j.natAbs ≠ 0 := by omega
    have := (Nat.log2_lt h2).mpr h1
    omega
  · exact q.elim
/-! #### is of bools -/
def rIsA : R2 := fun x y H Q => (y = .non ∧ Q (.bl (decide (x = .non))) H) ∨ rIsB x y H Q
def rIsNA : R2 := fun x y H Q => (y = .non ∧ Q (.bl (!decide (x = .non))) H) ∨ rNotB x y H Q
theorem or_isA {X : Cx} : OpR X (compareOp .Is) rIsA := OpR.or or_is op_isBl
theorem or_isNA {X : Cx} : OpR X (compareOp .IsNot) rIsNA := OpR.or or_isnot op_notBl
def sIsA (neg : Bool) : S2
  | x, .non, P => P (fz (.bl (if neg then !isNonD x else isNonD x)))
  | .bl a, .bl b, P => P (fz (.bl (if neg then !decide (a = b) else decide (a = b))))
  | _, _, _ => False
theorem bl_isA : BinL K mg rIsA (sIsA false) := by
  intro hot H x y dx dy P Q hh rx ry q k
  unfold sIsA at q
  split at q
  · exact .inl (bl_is hot H x y dx .non P Q hh rx ry q k)
  · cases rx.bl
    cases ry.bl
    exact .inr ⟨_, _, rfl, rfl, post_fz hh k (.bl _) q⟩
  · exact q.elim
theorem bl_isNA : BinL K mg rIsNA (sIsA true) := by
  intro hot H x y dx dy P Q hh rx ry q k
  unfold sIsA at q
  split at q
  · exact .inl (bl_isnot hot H x y dx .non P Q hh rx ry q k)
  · cases rx.bl
    cases ry.bl
    exact .inr ⟨_, _, rfl, rfl, post_fz hh k (.bl _) q⟩
  · exact q.elim
end
/-! #### [..] * int -/
def wLrep (ts : WXs) (tb : WX) : WE := fun env P => wLst ts env fun val env1 => ∃ ds, val = ⟨true, .lst ds⟩ ∧ tb env1 fun o env2 => ∃ k, o.res env2 = some (.int k) ∧ (-(2 ^ 63) ≤ k ∧ k < 2 ^ 63 ∧ ds.length * k.toNat ≤ 16777216) ∧ P ⟨true, .lst (List.replicate k.toNat ds).flatten⟩ env2
section
variable {K : PySem.W.Frag} {mg : Str → Option Value} {H : Hp} {Q : VK}
theorem Reps.rep {hot : Pr} {vs : List V} {ds : List D} (r : Reps K mg hot H vs ds) : ∀ k : Nat, Reps K mg hot H (List.replicate k vs).flatten (List.replicate k ds).flatten
  | 0 => .nil
  | k + 1 => by
    rw [List.replicate_succ, List.replicate_succ, List.flatten_cons, List.flatten_cons]
    exact r.append (Reps.rep r k)
theorem lrep_lift {ts : WXs} {tb : WX} {σ : L2.St} (h : liftE K mg (wLrep ts tb) σ H Q) : liftE K mg (wLst ts) σ H fun x H1 => liftX K mg tb σ H1 fun y H2 => rRep x y H2 Q := by
  obtain ⟨oh, τ, env, P, e0, S, t, k⟩ := h
  refine ⟨oh, τ, env, _, e0, S, t, fun v val env1 H1 e1 S1 s1 ⟨ds, hv, t1⟩ => ?_⟩
  subst hv
  refine ⟨oh, (some v, some ⟨true, .lst ds⟩) :: τ, env1, _, e1, S1, t1, fun vb o env2 H2 e2 a2 S2 s2 ⟨n, rn, ⟨b1, b2, b3⟩, p⟩ => ?_⟩
  have hO : ∀ {L : Lay}, hotL oh ([o.cell vb] ++ L) = hotL oh L := by intro L; exact hot_cell
  have S2' : StR K mg oh H2 ([o.cell vb] ++ (((some v, some ⟨true, .lst ds⟩) :: τ) ++ σ.zip env2)) := S2
  obtain rfl := (opd_reads e2 hO S2' a2 (by simp) rn).int
  have S3 : StR K mg oh H2 ((some v, some ⟨true, .lst ds⟩) :: (τ ++ σ.zip env2)) := S2'.right
  obtain ⟨a, vs, rfl, ha, hl, rs⟩ := own_lst S3.head
  have rs2 : Reps K mg (hotL oh (τ ++ σ.zip env2)) H2 vs ds := rs.mono ⟨fun b o e _ => e, fun b o e nh z => nh (by
    rcases z with z | z
    · exact .inl z
    · exact .inr (by rw [roots_own]; exact List.mem_cons_of_mem _ z))⟩
  refine ⟨a, n, vs, rfl, rfl, hl, b1, b2, by rw [slen, rs2.length]; exact b3, fun q nq => ?_⟩
  have T := StR.new_lst (K := K) (mg := mg) (hot := hotL oh (τ ++ σ.zip env2)) (fun a ha => S3.tail.hot_there ha) nq (rs2.rep n.toNat)
  have S4 := S3.tail.push T (Step.new_lst nq)
  refine k _ _ env2 _ e2 S4 ?_ p
  have s3 : Step (τ ++ σ.zip env) H (τ ++ σ.zip env2) H2 := (s1.trans s2).lessR fun b hb => by
    show b ∈ roots (o.cell (.int n) :: ((some (.ref a), some ⟨true, .lst ds⟩) :: (τ ++ σ.zip env2)))
    rw [roots_cell, roots_own]
    exact List.mem_cons_of_mem _ hb
  exact s3.trans (Step.new_lst nq).push
end
end TL

/-! V8: enumerate of a tuple -/
namespace TL
open PySem PySem.Spec PyProof.Rows L2
set_option maxHeartbeats 4000000 in
/-- enumerate's two cells, of whatever begins a walk -/
theorem enum_new {v : Value} {o : Obj} {B : Heap → Prop} (b : Begins v o B) : Meets (Builtin.«enumerate.__new__» ⟨[.type "enumerate", v], []⟩) (fun _ R s => B s.heap ∧
      R (.ok (.ret (.ref (s.heap.push o).objs.size))) { s with heap := (s.heap.push o).push { cls := .type "enumerate", data := .fields #[.none, .bool false, .ref s.heap.objs.size, rawInt 0, .none, .none] } }) :=
  .of_wp fun prog w A R s h => by
    obtain ⟨hp, gs, dl, tk, os⟩ := s
    obtain ⟨hb, h⟩ := h
    have sub := sub_enumerate
    have go : ∀ {A' : Around} {E : Value → Shared → Prop} {Q : Value → Shared → Prop}, Q (.ref hp.objs.size) ⟨hp.push o, gs, dl, tk, os⟩ → wpAny (model prog w) A' (pyIter v) Q E ⟨hp, gs, dl, tk, os⟩ := fun q => b.iter prog w _ _ ⟨hp, gs, dl, tk, os⟩ _ hb q
    wp_walk using go
    refine wpAny_stack_any fun st => wpAny_pure ?_
    split
    · rename_i c _ _ _ _ _
      cases (c == Value.type "enumerate") <;> (wp_walk using go; exact ⟨_, rfl, h⟩)
    · wp_walk using go
      exact ⟨_, rfl, h⟩
theorem call_enumT {prog : Program} {w : World} {A : Around} {E : Value → Shared → Prop} {s : Shared} {t : Addr} {items : Array Value} {Q : Value → Shared → Prop} (ht : s.heap.IsTuple t items)
    (h : ∀ h', IsEnum h' (s.heap.objs.size + 1) s.heap.objs.size 0 .none → h'.IsTupleIter s.heap.objs.size t 0 → h'.objs.size = s.heap.objs.size + 2 → (∀ b o, s.heap.get? b = some o → h'.get? b = some o) → Q (.ref (s.heap.objs.size + 1)) { s with heap := h' }) :
    wpAny (model prog w) A (call (.type "enumerate") [.ref t]) Q E s := by
  have b := begins_tuple t items
  refine callType_new F.called_enumerate (by decide) (F.typeCall_enumerate_1 _) (F.newCall_enumerate_1 _) (fun obj => F.args_object_init_2 obj _) F.entry_enumerate_new (enum_new b) ⟨ht, ?_⟩
  have sz : (s.heap.push { cls := .type "tuple_iterator", data := .fields #[.ref t, .int 0 0] }).objs.size = s.heap.objs.size + 1 := Heap.size_push ..
  show _ ∧ _
  rw [sz]
  have he : IsEnum ((s.heap.push { cls := .type "tuple_iterator", data := .fields #[.ref t, .int 0 0] }).push { cls := .type "enumerate", data := .fields #[.none, .bool false, .ref s.heap.objs.size, rawInt 0, .none, .none] }) (s.heap.objs.size + 1) s.heap.objs.size 0 .none := by
    have e := Heap.get?_push_size (s.heap.push { cls := .type "tuple_iterator", data := .fields #[.ref t, .int 0 0] }) (o := { cls := .type "enumerate", data := .fields #[.none, .bool false, .ref s.heap.objs.size, rawInt 0, .none, .none] }) rfl
    rw [sz] at e
    exact e
  exact ⟨⟨_, he, rfl⟩, h _ he ⟨_, Heap.get?_push_of_some _ (Heap.get?_push_size _ rfl), rfl, rfl⟩ (by rw [Heap.size_push, sz]) fun b o x => Heap.get?_push_of_some _ (Heap.get?_push_of_some _ x)⟩
/-- the tuple at a, each item in a new pair -/
def IteT (K : PySem.W.Frag) (a : Addr) : It :=
  ⟨fun i H => ∃ (xs : List V) (x : V), SqT K H a xs ∧ xs[i]? = some x, fun i H v H' => ∃ T x, v = .ref T ∧ H T = none ∧ H' = upd H T (.tup [.int (i : Nat), x]) ∧ ∀ xs, SqT K H a xs → xs[i]? = some x, fun i H => ∃ xs : List V, SqT K H a xs ∧ xs.length ≤ i⟩
theorem turn_enumT {P : Program} {w : World} {K : PySem.W.Frag} {elts : List Expr} {kk : Nat} {tpos : Pos} (a e it : Addr) :
    Turn P w K (.Tuple elts kk tpos) (IteT K a) [e, it] e (fun i h => (∃ old, IsEnum h e it ((i : Nat) : Int) old) ∧ h.IsTupleIter it a i ∧ e ≠ it) where
  mem := by simp
  obj := fun i h st b hb => by
    obtain ⟨⟨old, he⟩, ⟨o, ho, hc, hd⟩, _⟩ := st
    have z : b = e ∨ b = it := by simpa using hb
    rcases z with rfl | rfl
    · exact ⟨_, he, fun v q => nomatch q⟩
    · exact ⟨o, ho, fun v q => by rw [hd] at q; cases q⟩
  keep := fun i h h' st k => let ⟨⟨old, he⟩, hi, hne⟩ := st; ⟨⟨old, k e (by simp) _ he⟩, hi.at fun o q => k it (by simp) o q, hne⟩
  item := by
    intro X hP hw hK hc i pins s σ H E I hf st hg
    subst hP hw hK
    obtain ⟨⟨old, he⟩, hit, hne⟩ := st
    obtain ⟨xs, x, hq, hx⟩ := hg
    obtain ⟨its, rv, ht, hz⟩ := I.tuple hq
    obtain ⟨u, hu, ru⟩ := rv.get hx
    have hel : e < s.heap.objs.size := Heap.lt_size he
    have hil : it < s.heap.objs.size := by obtain ⟨_, q, _⟩ := hit; exact Heap.lt_size q
    have hai : a ≠ it := by
      rintro rfl
      obtain ⟨o1, e1, c1, _⟩ := ht
      obtain ⟨o2, e2, c2, _⟩ := hit
      rw [e1] at e2; cases e2
      rw [c1] at c2
      exact absurd (Value.type.inj c2) (by decide)
    have hae : e ∉ [it, a] := by
      intro z
      rcases List.mem_cons.mp z with z | z
      · exact hne z
      · have z := List.mem_singleton.mp z
        subst z
        obtain ⟨o1, e1, c1, _⟩ := ht
        have e2 := he
        unfold IsEnum at e2
        rw [e1] at e2
        cases e2
        exact absurd (Value.type.inj c1) (by decide)
    refine wpAny_pyNext_enum_itemD (Draws.tuple (A := X.A.in1) (I.ok.hd hc) it a hai its.toArray) he ⟨hit, ht⟩ (by
      have := (List.getElem?_eq_some_iff.mp hu).1
      simpa using this) hne hae fun x2 h' tk hx2 ho hst hT hsz hk => ?_
    have ex : x2 = u := by
      have hx2 : its.toArray[i]? = some x2 := hx2
      rw [List.getElem?_toArray, hu] at hx2
      exact (Option.some.inj hx2).symm
    subst ex
    refine ⟨_, rfl, wpAny_letOwnedTupleGo_enum (s := { s with heap := h', toks := tk + 1 }) ho fun h'' he' sb => ?_⟩
    have hT2 : h''.get? s.heap.objs.size = some { cls := .type "tuple", data := .seq #[.int i tk, x2] } := (sb.2 _ (Nat.ne_of_gt hel)).trans hT
    have new : ObjOk X.prog X.w (upd H s.heap.objs.size (.tup [.int (i : Nat), x])) h'' s.heap.objs.size (.tup [.int (i : Nat), x]) :=
      ⟨by show 2 ≤ sizeLine; decide, [.int i tk, x2], .cons ⟨_, rfl⟩ (.cons ru .nil), ⟨_, hT2, rfl, _, rfl⟩⟩
    have I1 : L2.Inv X pins σ (upd H s.heap.objs.size (.tup [.int (i : Nat), x])) { s with heap := h'', toks := tk + 1 } :=
      I.turnedNew (ch := [e, it]) (fun b ob hb q => (sb.2 b (fun z => hb (by simp [z]))).trans (hk b ob (fun z => hb (by simp [z])) (fun z => hb (by simp [z])) q)) hf (Nat.le_refl _) new
    refine ⟨.ref s.heap.objs.size, _, I1, rfl, ⟨_, x, rfl, I.hok.fresh (Nat.le_refl _), rfl, fun ys hy => ?_⟩, ⟨⟨x2, ?_⟩, hst.1.at fun o q => (sb.2 it (Ne.symm hne)).trans q, hne⟩, fun b hb => ?_⟩
    · obtain ⟨its2, rv2, ht2, _⟩ := I.tuple hy
      have e1 : its = its2 := by
        obtain ⟨o1, a1, _, n1, d1⟩ := ht
        obtain ⟨o2, a2, _, n2, d2⟩ := ht2
        rw [a1] at a2; cases a2
        rw [d1] at d2
        simpa using (Data.seq.inj d2).1
      subst e1
      rw [rv2.inj rv]; exact hx
    · have e1 : ((i + 1 : Nat) : Int) = (i : Int) + 1 := by omega
      rw [e1]; exact he'
    · have hb' : b < s.heap.objs.size := by
        have z : b = e ∨ b = it := by simpa using hb
        rcases z with rfl | rfl
        · exact hel
        · exact hil
      rw [upd_ne (Nat.ne_of_lt hb')]
      exact (hf b hb).1
  done := by
    intro X hP hw hK hc i pins s σ H E I hf st hg
    subst hP hw hK
    obtain ⟨⟨old, he⟩, hit, hne⟩ := st
    obtain ⟨xs, hq, hx⟩ := hg
    obtain ⟨its, rv, ht, hz⟩ := I.tuple hq
    obtain ⟨f0, f1, f2, f3, f4, f5⟩ := hf it (by simp)
    have hl := rv.length
    have D : Draws X.prog X.w X.A.in1 it [it, a] i (fun _ _ => True) (fun j h => j = i ∧ h.IsTupleIter it a i ∧ h.IsTuple a its.toArray) :=
      ⟨fun j h st => let ⟨o, ho, _⟩ := st.2.1; ⟨o, ho⟩, fun j h h' st k => ⟨st.1, st.2.1.at fun o q => k it (by simp) o q, st.2.2.at fun o q => k a (by simp) o q⟩, fun j s' Q' E' hj st _ => absurd st.1 (Nat.ne_of_lt hj), fun s' Q' E' st k => wpAny_nextOf_tuple_end (I.ok.hd hc) st.2.1 st.2.2 (by simp; omega) k⟩
    exact wpAny_pyNext_enum_endD D he ⟨rfl, hit, ht⟩ fun h' eb => ⟨rfl, I.turned (t' := s.toks) (fun b o hb q => eb b o hb q) f0 f1 f3 f4 f5⟩
  self := fun A i s Q E st h => let ⟨⟨_, he⟩, _⟩ := st; wpAny_pyIter_enum he h
def iEnumA (K : PySem.W.Frag) (ta : TA) : TI := fun σ H R => ta σ H fun vs H1 => (∃ a xs, vs = [.ref a] ∧ SqL K H1 a xs ∧ R (Ite K a) H1) ∨ ∃ a xs, vs = [.ref a] ∧ SqT K H1 a xs ∧ R (IteT K a) H1
theorem pi_enumA {X : Cx} {e : Expr} {ta : TA} {p pos tpos : Pos} {elts : List Expr} {kk : Nat} (hg : Gl X "enumerate") (hm : X.mg "enumerate" = none) (ha : PA X [e] ta) (hs : starEach [e] X.env = [(false, eval e X.env)] := by rfl) :
    PI X (.Tuple elts kk tpos) (.Call (.Name "enumerate" p) [e] [] pos) (iEnumA X.K ta) := by
  refine ⟨fun pins s σ H R I h => ?_⟩
  refine Call_ (ld_blt I hg hm boot_enumerate (PyProof.Rows.callWith_type1 (thn (ha.run pos pins s σ H _ I h) fun us s1 ⟨vs, H1, I1, r1, q1⟩ => ?_) hs rfl))
  have fp : ∀ b ∈ [s1.heap.objs.size + 1, s1.heap.objs.size], s1.heap.objs.size ≤ b := fun b hb => by
    have z : b = s1.heap.objs.size + 1 ∨ b = s1.heap.objs.size := by simpa using hb
    omega
  rcases q1 with ⟨a, xs, ex, hq, q⟩ | ⟨a, xs, ex, hq, q⟩
  · subst ex
    obtain rfl := Vals.ref1 r1
    obtain ⟨its, rv, p', hz⟩ := I1.list hq
    refine call_enumerate_list p'.isList fun h' he hit hsz hk => wpAny_pyIter_enum he ?_
    exact ⟨s1.heap.objs.size + 1, _, _, _, H1, rfl, I1.kept (t' := s1.toks) hk, turn_enum a (s1.heap.objs.size + 1) s1.heap.objs.size, ⟨⟨.none, he⟩, hit, Nat.succ_ne_self _⟩, fun b hb => I1.fpOk (fp b hb) (I1.hok.fresh (fp b hb)), q⟩
  · subst ex
    obtain rfl := Vals.ref1 r1
    obtain ⟨its, rv, p', hz⟩ := I1.tuple hq
    refine call_enumT p' fun h' he hit hsz hk => wpAny_pyIter_enum he ?_
    exact ⟨s1.heap.objs.size + 1, _, _, _, H1, rfl, I1.kept (t' := s1.toks) hk, turn_enumT a (s1.heap.objs.size + 1) s1.heap.objs.size, ⟨⟨.none, he⟩, hit, Nat.succ_ne_self _⟩, fun b hb => I1.fpOk (fp b hb) (I1.hok.fresh (fp b hb)), q⟩
def wiEnumA (t : WXs) : WI := fun env P => t env fun os env1 => ∃ d ds, tms os = some [d] ∧ (d = .lst ds ∨ d = .tup ds) ∧ P (enumD ds) env1
section
variable {K : PySem.W.Frag} {mg : Str → Option Value} {hot : Pr} {H : Hp}
theorem items_enumT {a : Addr} {vs : List V} {ds : List D} (h : TpF K hot H a vs) (r : Reps K mg hot H vs ds) : ItemsOk K mg hot H (IteT K a) (enumD ds) where
  turn := fun hot' H' i d kp hh hd => by
    obtain ⟨y, hy, rfl⟩ := enumD_get hd
    have h' := (kp.tp h).sq
    obtain ⟨v, hv, rv⟩ := r.get hy
    refine ⟨⟨vs, v, h', hv⟩, fun x H2 q => ?_⟩
    obtain ⟨T, z, rfl, n, rfl, q⟩ := q
    have e := q vs h'
    rw [hv] at e
    cases e
    exact ⟨StR.new_lse hh n (.cons (.int _) (.cons (rv.mono kp) .nil)), Step.new_fro n⟩
  stop := fun hot' H' i kp hi => ⟨vs, (kp.tp h).sq, by rw [r.length]; unfold enumD at hi; simpa using hi⟩
theorem enumA_items {t : WXs} {σ : L2.St} {H : Hp} {R : It → Hp → Prop} (h : liftI K mg (wiEnumA t) σ H R) : iEnumA K (liftXs K mg t) σ H R := by
  obtain ⟨oh, τ, env, P, e0, S, t1, k⟩ := h
  refine ⟨oh, τ, env, _, e0, S, t1, fun vs os env1 H1 e1 a1 S1 s1 ⟨d, ds, hr, hd, p⟩ => ?_⟩
  have r := tms_reps S1 a1 hr fun c hc => List.mem_append_left _ hc
  rw [hot_cells] at r
  cases r with
  | cons r1 r2 =>
    cases r2
    rcases hd with rfl | rfl
    · cases r1 with
      | lst hl rs => exact .inl ⟨_, _, rfl, hl.sq, k _ env1 H1 _ e1 S1.right (s1.lessR fun a ha => roots_app_sub a ha) (items_enum hl rs) p⟩
    · cases r1 with
      | tup hl rs => exact .inr ⟨_, _, rfl, hl.sq, k _ env1 H1 _ e1 S1.right (s1.lessR fun a ha => roots_app_sub a ha) (items_enumT hl rs) p⟩
end
end TL

/-! V9: several names = a written tuple, by way of the tuple -/
namespace TL
open PySem PySem.Spec PyProof.Rows L2
def gNames : List Nat → TGs
  | [] => gNil
  | i :: is => gCons (gName i) (gNames is)
theorem gNames_ok : ∀ {is : List Nat} {vs : List V} {σ : L2.St} {H : Hp} {Q : L2.St → Hp → Prop}, vs.length = is.length → Q (setAll σ is (vs.map some)) H → gNames is vs σ H Q
  | [], [], σ, H, Q, _, q => ⟨rfl, q⟩
  | i :: is, v :: vs, σ, H, Q, h, q => ⟨v, vs, rfl, gNames_ok (is := is) (by simpa using h) q⟩
theorem Step.untracked {H : Hp} {p : Addr} {o : HO} (n : H p = none) : Step [] H [] (upd H p o) :=
  ⟨fun a u e _ => by rw [upd_ne (ne_of_none e n)]; exact e, fun a ha => (nomatch ha), fun a e => by
    by_cases q : a = p
    · subst q; rw [upd_same]; simp
    · rw [upd_ne q]; exact e⟩
section
variable {K : PySem.W.Frag} {mg : Str → Option Value} {lent : List Nat}
theorem parT_lift {is : List Nat} (hi : ∀ i ∈ is, i ∉ lent) (hz : is.length ≤ 16777216) {ts : WAs} {Y : Ends} {σ : L2.St} {H : Hp} (h : liftS K mg lent (wsPar is ts) Y σ H) : tAsg (tTupT (liftAs K mg ts)) (gTup K is.length (gNames is)) Y σ H := by
  obtain ⟨oh, env, P, e0, S, t1, k⟩ := h
  refine ⟨oh, [], env, _, e0, S, t1, fun vs os env1 H1 e1 a1 S1 s1 ⟨xs, hx, hn, hb, p⟩ => ?_⟩
  obtain ⟨c1, c2⟩ := vls_cells (cellsA_len a1) hx
  rw [c1] at S1 s1
  have hl : vs.length = is.length := by rw [cellsA_len a1, ← c2, hn]
  refine ⟨by rw [slen, hl]; exact hz, fun q o nq po => ?_⟩
  refine ⟨q, vs, rfl, .inl (.inr ⟨o, upd_same⟩), hl, gNames_ok hl ?_⟩
  have st := Step.untracked (o := .frz o (.tup vs)) nq
  have S1' := StR.frame (A := []) (A' := []) S1 (StR.nil fun a ha => hot_upd (fun a ha => S1.hot_there ha) a ha) st
  have s1' := s1.trans (Step.frame (A := []) (A' := []) st)
  obtain ⟨S2, r2, l2⟩ := set_all (lent := lent) (τ := []) is e1 (fun i h => ⟨hb i h, hi i h⟩) hl hn S1'
  exact k.nx _ _ _ (by rw [setAll_len, setAll_len]; exact e1) setAll_len l2 S2 (s1'.lessR r2) p
end
end TL

/-! V10: displays of dicts; walks over a text -/
namespace TL
open PySem PySem.Spec PyProof.Rows L2
/-! ### {k: v, ..} -/
def altW : List (WE × WE) → WXs
  | [] => wXnil
  | p :: r => wXcons (wTm p.1) (wXcons (wTm p.2) (altW r))
def flat2 : List (V × V) → List V
  | [] => []
  | p :: r => p.1 :: p.2 :: flat2 r
def unAlt : List D → Option (List (Key × D))
  | [] => some []
  | k :: v :: r => match keyU k, unAlt r with
    | some x, some xs => some ((x, v) :: xs)
    | _, _ => none
  | _ => none
def wDisp (ps : List (WE × WE)) : WE := fun env P => altW ps env fun os env1 => ∃ ds, tms os = some ds ∧ ∃ l, unAlt ds = some l ∧ l.length ≤ 15 ∧ P ⟨true, .dic (dmerge ([], []) l).1 (dmerge ([], []) l).2⟩ env1
section
variable {K : PySem.W.Frag} {mg : Str → Option Value}
theorem pairs_lift : ∀ (ps : List (WE × WE)) {σ : L2.St} {H : Hp} {Q : List (V × V) → Hp → Prop}, liftXs K mg (altW ps) σ H (fun xs H1 => ∀ l, xs = flat2 l → Q l H1) → tPairs (ps.map fun p => (liftE K mg p.1, liftE K mg p.2)) σ H Q
  | [], σ, H, Q, h => by
    obtain ⟨oh, τ, env, P, e0, S, t, k⟩ := h
    exact k [] [] env H e0 .nil S Step.refl t [] rfl
  | p :: r, σ, H, Q, h => by
    obtain ⟨oh, τ, env, P, e0, S, t, k⟩ := h
    refine ⟨oh, τ, env, _, e0, S, t, fun v val env1 H1 e1 S1 s1 q => ?_⟩
    refine ⟨oh, (some v, some (fz val.d)) :: τ, env1, _, e1, S1.freeze, q, fun w val2 env2 H2 e2 S2 s2 q2 => ?_⟩
    refine pairs_lift r ⟨oh, (some w, some (fz val2.d)) :: (some v, some (fz val.d)) :: τ, env2, _, e2, S2.freeze, q2, fun vs os env3 H3 e3 a3 S3 s3 pp => fun l hl => ?_⟩
    have hp : (cells vs os ++ ((some w, some (fz val2.d)) :: (some v, some (fz val.d)) :: τ ++ σ.zip env3)).Perm (cells (v :: w :: vs) (.tm val.d :: .tm val2.d :: os) ++ (τ ++ σ.zip env3)) := by
      show (cells vs os ++ (some w, some (fz val2.d)) :: (some v, some (fz val.d)) :: (τ ++ σ.zip env3)).Perm ((some v, some (fz val.d)) :: (some w, some (fz val2.d)) :: (cells vs os ++ (τ ++ σ.zip env3)))
      refine List.perm_middle.trans ((List.Perm.cons _ List.perm_middle).trans (List.Perm.swap ..))
    exact k (v :: w :: vs) (.tm val.d :: .tm val2.d :: os) env3 H3 e3 (.cons trivial (.cons trivial a3)) (S3.perm hp) (((s1.freeze.trans s2.freeze).trans s3).permR hp) pp ((v, w) :: l) (by rw [hl]; rfl)
theorem unAlt_rep {hot : Pr} {H : Hp} : ∀ {ds : List D} {l : List (Key × D)} {prs : List (V × V)}, unAlt ds = some l → Reps K mg hot H (flat2 prs) ds → ∃ kvs : List (Key × V), prs = kvs.map (fun kv => (kV kv.1, kv.2)) ∧ kvs.map (·.1) = l.map (·.1) ∧ Reps K mg hot H (kvs.map (·.2)) (l.map (·.2)) ∧ ∀ p ∈ kvs, keyOk p.1
  | [], l, prs, h, r => by
    cases prs with
    | nil => cases h; exact ⟨[], rfl, rfl, .nil, fun _ z => nomatch z⟩
    | cons p prs => cases r
  | [_], l, prs, h, r => by cases h
  | k :: v :: ds, l, prs, h, r => by
    cases prs with
    | nil => cases r
    | cons p prs =>
      obtain ⟨x, y⟩ := p
      cases r with
      | cons r1 r => cases r with
        | cons r2 r =>
          unfold unAlt at h
          split at h
          · rename_i kx xs e1 e2
            cases h
            obtain ⟨kvs, h1, h2, h3, h4⟩ := unAlt_rep e2 r
            have hk : x = kV kx ∧ keyOk kx := by
              cases k with
              | int i => cases e1; cases r1; exact ⟨rfl, trivial⟩
              | str s => cases e1; cases r1 with | str _ ok => exact ⟨rfl, ok⟩
              | _ => cases e1
            refine ⟨(kx, y) :: kvs, by rw [h1, List.map_cons, hk.1], by rw [List.map_cons, List.map_cons, h2], .cons r2 h3, fun p hp => ?_⟩
            rcases List.mem_cons.mp hp with rfl | hp
            · exact hk.2
            · exact h4 p hp
          · cases h
theorem disp_lift {ps : List (WE × WE)} {σ : L2.St} {H : Hp} {Q : VK} (h : liftE K mg (wDisp ps) σ H Q) : tDisp (ps.map fun p => (liftE K mg p.1, liftE K mg p.2)) σ H Q := by
  obtain ⟨oh, τ, env, P, e0, S, t, k⟩ := h
  intro p hp
  have T : StR K mg (hotL oh (τ ++ σ.zip env)) (upd H p (.dK [])) [(some (.ref p), some ⟨true, .dic [] []⟩)] := StR.new_dic (K := K) (mg := mg) (H := H) (hot := hotL oh (τ ++ σ.zip env)) (p := p) (kvs := []) (ks := []) (ds := []) (fun a ha => S.hot_there ha) hp ⟨rfl, fun _ z => nomatch z⟩ .nil
  have S0 := S.push T (Step.new_lst hp)
  have s0 : Step (τ ++ σ.zip env) H ((some (.ref p), some ⟨true, .dic [] []⟩) :: (τ ++ σ.zip env)) (upd H p (.dK [])) := (Step.new_lst hp).push
  refine pairs_lift ps ⟨oh, (some (.ref p), some ⟨true, .dic [] []⟩) :: τ, env, _, e0, S0, t, fun vs os env1 H1 e1 a1 S1 s1 ⟨ds, hds, l, hl, hz, q⟩ => fun prs hprs => ?_⟩
  have r := tms_reps S1 a1 hds fun c hc => List.mem_append_left _ hc
  rw [hot_cells] at r
  have S2 : StR K mg oh H1 ((some (.ref p), some ⟨true, .dic [] []⟩) :: (τ ++ σ.zip env1)) := S1.right
  subst hprs
  obtain ⟨kvs, g1, g2, g3, g4⟩ := unAlt_rep hl r
  have hH : H1 p = some (.dK []) := by
    have hd := S2.head
    cases hd with
    | dicK _ h2 e _ =>
      have nil : ∀ kv : List (Key × V), KsOf kv [] → kv = [] := fun kv e => by
        have e2 := congrArg List.length e.eq
        rw [List.length_map] at e2
        exact List.eq_nil_of_length_eq_zero e2.symm
      rw [h2, nil _ e]
  refine ⟨hH, kvs, g1, ?_, ?_⟩
  · have := congrArg List.length g2
    simp only [List.length_map] at this
    omega
  · obtain ⟨m1, m2⟩ := dmerge_rep (acc := []) (ds := []) g2 g3 .nil
    obtain ⟨S3, s3⟩ := S2.put_own (d' := .dic (dmerge ([], []) l).1 (dmerge ([], []) l).2) (o' := .dK (mergeK [] kvs)) fun hot' H' kp ha he => .dicK ha he ⟨m1, mergeK_ok g4 fun _ z => nomatch z⟩ (m2.mono kp)
    exact k _ _ env1 _ e1 S3 ((s0.trans (s1.lessR fun a ha => roots_app_sub a ha)).trans s3) q
end
/-! ### for c in s -/
def charsD (s : Str) : List D := s.cps.toList.map fun c => .str ⟨#[c]⟩
section
variable {K : PySem.W.Frag} {mg : Str → Option Value} {hot : Pr} {H : Hp} {X : Cx}
theorem strOk_one {s : Str} (h : PyData.strOk s = true) {c : Nat} (hc : c ∈ s.cps.toList) : PyData.strOk ⟨#[c]⟩ = true :=
  ok_of_mem fun d hd => by
    have : d = c := by simpa using hd
    rw [this]; exact ok_mem h c hc
theorem items_str {x : Str} (h : PyData.strOk x = true) : ItemsOk K mg hot H (Its x) (charsD x) where
  turn := fun hot' H' i d kp hh hd => by
    unfold charsD at hd
    rw [List.getElem?_map] at hd
    obtain ⟨c, hc, rfl⟩ := Option.map_eq_some_iff.mp hd
    obtain ⟨h1, h2⟩ := List.getElem?_eq_some_iff.mp hc
    refine ⟨(by show i < x.cps.size; simpa using h1), fun v H2 y => ?_⟩
    obtain ⟨rfl, c', hc', rfl⟩ := y
    have e : c' = c := by
      rw [← Array.getElem?_toList] at hc'
      rw [hc] at hc'
      exact (Option.some.inj hc').symm
    subst e
    exact ⟨StR.one_fro hh (.str _ (strOk_one h (by rw [← h2]; exact List.getElem_mem h1))), Step.one_fro⟩
  stop := fun hot' H' i kp hi => by
    unfold charsD at hi
    rw [List.length_map] at hi
    show x.cps.size ≤ i
    simpa using hi
def wiSeqA (t : WE) : WI := fun env P => t env fun val env1 => (∃ ds, (val.d = .lst ds ∨ val.d = .tup ds) ∧ P ds env1) ∨ ∃ s, val.d = .str s ∧ P (charsD s) env1
def iSeqA (K : PySem.W.Frag) (tl : TE) : TI := fun σ H R => tl σ H fun x H1 => ((∃ a, x = .ref a ∧ (∃ xs, SqL K H1 a xs) ∧ R (Itl K a) H1) ∨ ∃ a, x = .ref a ∧ (∃ xs, SqT K H1 a xs) ∧ R (Itt K a) H1) ∨ ∃ s, x = .str s ∧ R (Its s) H1
theorem pi_seqA {tg l : Expr} {tl : TE} (hl : PE X l tl) : PI X tg l (iSeqA X.K tl) := by
  refine ⟨fun pins s σ H R I h => thn (hl.run pins s σ H _ I h) fun v s1 ⟨x, H1, I1, r1, q1⟩ => ?_⟩
  have fresh : ∀ b ∈ [s1.heap.objs.size], FpOk X pins H1 b := fun b hb => by
    obtain rfl := List.mem_singleton.mp hb
    exact I1.fpOk (Nat.le_refl _) (I1.hok.fresh (Nat.le_refl _))
  rcases q1 with (⟨a, rfl, ⟨xs, hq⟩, q⟩ | ⟨a, rfl, ⟨xs, hq⟩, q⟩) | ⟨x, rfl, q⟩
  · cases r1
    obtain ⟨its, rv, p, hz⟩ := I1.list hq
    exact wpAny_pyIter_list p.isList ⟨s1.heap.objs.size, [s1.heap.objs.size], _, _, H1, rfl, I1.kept (t' := s1.toks) fun b o e => Heap.get?_push_of_some _ e, turn_list a _, ⟨_, Heap.get?_push_size _ rfl, rfl, rfl⟩, fresh, q⟩
  · cases r1
    obtain ⟨its, rv, p, hz⟩ := I1.tuple hq
    exact wpAny_pyIter_tuple (show s1.heap.IsTuple a its.toArray from p) ⟨s1.heap.objs.size, [s1.heap.objs.size], _, _, H1, rfl, I1.kept (t' := s1.toks) fun b o e => Heap.get?_push_of_some _ e, turn_tuple a _, ⟨_, Heap.get?_push_size _ rfl, rfl, rfl⟩, fresh, q⟩
  · obtain ⟨t, rfl⟩ := r1
    cases ha : x.cps.all (· < 128)
    · exact wpAny_pyIter_wide ha (pi_one (tk := s1.toks) I1 _ (turn_str _ x t "str_iterator" (.inr rfl)) ⟨_, Heap.get?_push_size _ rfl, rfl, rfl⟩ q)
    · exact wpAny_pyIter_ascii ha (pi_one (tk := s1.toks) I1 _ (turn_str _ x t "str_ascii_iterator" (.inl rfl)) ⟨_, Heap.get?_push_size _ rfl, rfl, rfl⟩ q)
theorem seqA_items {t : WE} {σ : L2.St} {R : It → Hp → Prop} (h : liftI K mg (wiSeqA t) σ H R) : iSeqA K (liftE K mg t) σ H R := by
  obtain ⟨oh, τ, env, P, e0, S, t1, k⟩ := h
  refine ⟨oh, τ, env, _, e0, S, t1, fun v val env1 H1 e1 S1 s1 q => ?_⟩
  have S1f := S1.freeze
  have r := S1f.head_fro
  have s1' : Step (τ ++ σ.zip env) H (τ ++ σ.zip env1) H1 := s1.lessR fun a ha => roots_cons_sub a ha
  rcases q with ⟨ds, hd | hd, p⟩ | ⟨x, hd, p⟩
  · rw [hd] at r
    cases r with
    | lst hl rs => exact .inl (.inl ⟨_, rfl, ⟨_, hl.sq⟩, k ds env1 H1 _ e1 S1.tail s1' (items_lst hl rs) p⟩)
  · rw [hd] at r
    cases r with
    | tup hl rs => exact .inl (.inr ⟨_, rfl, ⟨_, hl.sq⟩, k ds env1 H1 _ e1 S1.tail s1' (items_tup hl rs) p⟩)
  · rw [hd] at r
    cases r with
    | str _ ok => exact .inr ⟨_, rfl, k _ env1 H1 _ e1 S1.tail s1' (items_str ok) p⟩
end
end TL

/-! V11: own values with own lists in them -/
namespace TL
open PySem PySem.Spec PyProof.Rows L2
/-! ### the items of a box -/
def opnV : Val → Val
  | ⟨true, .box (.tup ds)⟩ => fz (.tup (ds.map cl1))
  | ⟨true, .box (.lst ds)⟩ => ⟨true, .lst (ds.map cl1)⟩
  | ⟨true, .box (.dic ks ds)⟩ => ⟨true, .dic ks (ds.map cl1)⟩
  | x => x
section
variable {K : PySem.W.Frag} {mg : Str → Option Value} {hot hot' oh : Pr} {H H' : Hp} {L : Lay}
theorem RepBs.get : ∀ {vs : List V} {ds : List D} {i : Nat} {d : D}, RepBs K mg hot H vs ds → ds[i]? = some d → ∃ v, vs[i]? = some v ∧ RepB K mg hot H v d
  | _, _, _, _, .nil, e => by simp at e
  | _, _, 0, _, .cons h _, e => by simp at e; subst e; exact ⟨_, rfl, h⟩
  | _, _, i + 1, _, .cons _ t, e => by
    obtain ⟨v, e1, r⟩ := RepBs.get (i := i) t (by simpa using e)
    exact ⟨v, by simpa using e1, r⟩
theorem bx_opn : ∀ x : Val, bx (opnV x).d = bx x.d ∨ bx (opnV x).d = [] := by
  intro x
  unfold opnV
  split <;> first | exact .inr rfl | exact .inl rfl
theorem StR.opn {v : V} {x : Val} (S : StR K mg oh H ((some v, some x) :: L)) : StR K mg oh H ((some v, some (opnV x)) :: L) ∧ ∀ a ∈ roots ((some v, some (opnV x)) :: L), a ∈ roots ((some v, some x) :: L) := by
  unfold opnV
  split
  · rename_i ds
    have r := S.head
    cases r with
    | boxT h1 h2 rs =>
      rename_i a vs
      have nd := S.nd
      rw [roots_ownG] at nd
      obtain ⟨n1, n3⟩ := List.nodup_cons.mp nd
      obtain ⟨n4, n2, n5⟩ := List.nodup_append.mp n3
      have S0 := S.tail
      have cool : ∀ b ∈ a :: ds.flatMap TL.own1, ¬ hotL oh L b := by
        rintro b hb (q | q)
        · exact S.dj b (by rw [roots_ownG]; exact (List.mem_cons.mp hb).elim (fun e => by rw [e]; exact List.mem_cons_self) fun z => List.mem_cons_of_mem _ (List.mem_append_left _ z)) q
        · rcases List.mem_cons.mp hb with e | z
          · rw [e] at q; exact n1 (List.mem_append_right _ q)
          · exact n5 b z b q rfl
      have kp : Keeps (hotL oh ((some (V.ref a), some ⟨true, .box (.tup ds)⟩) :: L)) (hotL oh L) H H :=
        ⟨fun _ _ e _ => e, fun b o _ n q => n (q.elim .inl fun q => .inr (by rw [roots_ownG]; exact List.mem_cons_of_mem _ (List.mem_append_right _ q)))⟩
      obtain ⟨o, po, h2⟩ := h2
      refine ⟨S0.push (StR.one_fro (fun a ha => S0.hot_there ha) (.tup (.inl ⟨cool a List.mem_cons_self, o, po, h2⟩) (rs.cool kp fun b hb => cool b (List.mem_cons_of_mem _ hb)))) Step.one_fro, fun b hb => ?_⟩
      rw [roots_fro] at hb
      exact roots_cons_sub b hb
  · rename_i ds
    have r := S.head
    cases r with
    | boxL h1 h2 rs =>
      rename_i a vs
      have nd := S.nd
      rw [roots_ownG] at nd
      obtain ⟨n1, n3⟩ := List.nodup_cons.mp nd
      obtain ⟨n4, n2, n5⟩ := List.nodup_append.mp n3
      have sub : ∀ b ∈ roots ((some (V.ref a), some ⟨true, .lst (ds.map cl1)⟩) :: L), b ∈ roots ((some (V.ref a), some ⟨true, .box (.lst ds)⟩) :: L) := fun b hb => by
        rw [roots_own] at hb
        rw [roots_ownG]
        exact (List.mem_cons.mp hb).elim (fun e => by rw [e]; exact List.mem_cons_self) fun z => List.mem_cons_of_mem _ (List.mem_append_right _ z)
      have cool : ∀ b ∈ ds.flatMap TL.own1, ¬ hotL oh ((some (V.ref a), some ⟨true, .lst (ds.map cl1)⟩) :: L) b := by
        rintro b hb (q | q)
        · exact S.dj b (by rw [roots_ownG]; exact List.mem_cons_of_mem _ (List.mem_append_left _ hb)) q
        · rw [roots_own] at q
          rcases List.mem_cons.mp q with e | z
          · rw [e] at hb; exact n1 (List.mem_append_left _ hb)
          · exact n5 b hb b z rfl
      have kp : Keeps (hotL oh ((some (V.ref a), some ⟨true, .box (.lst ds)⟩) :: L)) (hotL oh ((some (V.ref a), some ⟨true, .lst (ds.map cl1)⟩) :: L)) H H :=
        ⟨fun _ _ e _ => e, fun b o _ n q => n (q.elim .inl fun q => .inr (sub b q))⟩
      refine ⟨⟨fun p hp x hx => ?_, by rw [roots_own]; exact List.nodup_cons.mpr ⟨fun z => n1 (List.mem_append_right _ z), n2⟩, fun b hb => S.dj b (sub b hb), S.tr⟩, sub⟩
      rcases List.mem_cons.mp hp with rfl | hp
      · cases hx
        exact ⟨_, rfl, .lst (.inr (by rw [roots_own]; exact List.mem_cons_self)) h2 (rs.cool kp cool)⟩
      · obtain ⟨w, e, q⟩ := S.all p (List.mem_cons_of_mem _ hp) x hx
        exact ⟨w, e, q.mono kp fun b hb => ⟨.inr (roots_cons_sub b (mem_roots.mpr ⟨p, hp, by rw [cell_eq hx e]; exact hb⟩)), rfl⟩⟩
  · rename_i ks ds
    have r := S.head
    cases r with
    | boxD h1 h2 ek rs =>
      rename_i a kvs
      have nd := S.nd
      rw [roots_ownG] at nd
      obtain ⟨n1, n3⟩ := List.nodup_cons.mp nd
      obtain ⟨n4, n2, n5⟩ := List.nodup_append.mp n3
      have sub : ∀ b ∈ roots ((some (V.ref a), some ⟨true, .dic ks (ds.map cl1)⟩) :: L), b ∈ roots ((some (V.ref a), some ⟨true, .box (.dic ks ds)⟩) :: L) := fun b hb => by
        rw [roots_ownD] at hb
        rw [roots_ownG]
        exact (List.mem_cons.mp hb).elim (fun e => by rw [e]; exact List.mem_cons_self) fun z => List.mem_cons_of_mem _ (List.mem_append_right _ z)
      have cool : ∀ b ∈ ds.flatMap TL.own1, ¬ hotL oh ((some (V.ref a), some ⟨true, .dic ks (ds.map cl1)⟩) :: L) b := by
        rintro b hb (q | q)
        · exact S.dj b (by rw [roots_ownG]; exact List.mem_cons_of_mem _ (List.mem_append_left _ hb)) q
        · rw [roots_ownD] at q
          rcases List.mem_cons.mp q with e | z
          · rw [e] at hb; exact n1 (List.mem_append_left _ hb)
          · exact n5 b hb b z rfl
      have kp : Keeps (hotL oh ((some (V.ref a), some ⟨true, .box (.dic ks ds)⟩) :: L)) (hotL oh ((some (V.ref a), some ⟨true, .dic ks (ds.map cl1)⟩) :: L)) H H :=
        ⟨fun _ _ e _ => e, fun b o _ n q => n (q.elim .inl fun q => .inr (sub b q))⟩
      refine ⟨⟨fun p hp x hx => ?_, by rw [roots_ownD]; exact List.nodup_cons.mpr ⟨fun z => n1 (List.mem_append_right _ z), n2⟩, fun b hb => S.dj b (sub b hb), S.tr⟩, sub⟩
      rcases List.mem_cons.mp hp with rfl | hp
      · cases hx
        exact ⟨_, rfl, .dicK (.inr (by rw [roots_ownD]; exact List.mem_cons_self)) h2 ek (rs.cool kp cool)⟩
      · obtain ⟨w, e, q⟩ := S.all p (List.mem_cons_of_mem _ hp) x hx
        exact ⟨w, e, q.mono kp fun b hb => ⟨.inr (roots_cons_sub b (mem_roots.mpr ⟨p, hp, by rw [cell_eq hx e]; exact hb⟩)), rfl⟩⟩
  · exact ⟨S, fun a h => h⟩
/-! ### an item's list is changed in place -/
theorem RepBs.set {b : Addr} {ws : List V} {xs ys : List D} (k : ∀ a o, H a = some o → a ≠ b → H' a = some o) (cool : ∀ a o, H a = some o → ¬ hot a → ¬ hot' a) (hb0 : hot b) (keepHot : ∀ a, hot a → hot' a) (hb : hot' b) (he : H' b = some (.lst ws)) (rw' : Reps K mg hot' H' ws ys) :
    ∀ {vs : List V} {ds : List D} (j : Nat), RepBs K mg hot H vs ds → ds[j]? = some (.own b xs) → (ds.flatMap TL.own1).Nodup → RepBs K mg hot' H' vs (ds.set j (.own b ys))
  | _, _, _, .nil, h, _ => by simp at h
  | _, _, 0, .cons (vs := vs) (ds := ds) r t, h, nd => by
    simp at h
    subst h
    rw [List.flatMap_cons] at nd
    obtain ⟨n1, n2, n3⟩ := List.nodup_append.mp nd
    have kp : Keeps hot hot' H H' := ⟨fun a o e n => k a o e fun z => n (z ▸ hb0), cool⟩
    refine .cons ?_ (t.mono kp fun c hc => ?_)
    · cases r with
      | fro r => cases r
      | own h1 h2 r => exact .own hb he rw'
    · obtain ⟨q1, q2⟩ := t.isHot c hc
      refine ⟨keepHot c q1, ?_⟩
      cases e : H c with
      | none => exact absurd e q2
      | some o => exact k c o e fun z => n3 b (by simp [TL.own1]) c hc z.symm
  | _, _, j + 1, .cons (d := d) (ds := ds) r t, h, nd => by
    rw [List.flatMap_cons] at nd
    obtain ⟨n1, n2, n3⟩ := List.nodup_append.mp nd
    have hj : _ := h
    simp only [List.getElem?_cons_succ] at hj
    have hbm : b ∈ ds.flatMap TL.own1 := List.mem_flatMap.mpr ⟨D.own b xs, List.mem_of_getElem? hj, List.mem_cons_self (a := b) (l := [])⟩
    have kp : Keeps hot hot' H H' := ⟨fun a o e n => k a o e fun z => n (z ▸ hb0), cool⟩
    refine .cons (r.mono kp fun c hc => ?_) (RepBs.set k cool hb0 keepHot hb he rw' j t hj n2)
    obtain ⟨q1, q2⟩ := r.isHot c hc
    refine ⟨keepHot c q1, ?_⟩
    cases e : H c with
    | none => exact absurd e q2
    | some o => exact k c o e fun z => n3 c hc b hbm z
theorem own1_set {b : Addr} {xs ys : List D} : ∀ {ds : List D} (j : Nat), ds[j]? = some (.own b xs) → (ds.set j (.own b ys)).flatMap TL.own1 = ds.flatMap TL.own1
  | [], _, h => by simp at h
  | d :: ds, 0, h => by
    simp at h
    subst h
    rfl
  | d :: ds, j + 1, h => by
    rw [List.set_cons_succ, List.flatMap_cons, List.flatMap_cons, own1_set j (by simpa using h)]
/-- what a box holds, with other items -/
def bwith : D → List D → D
  | .tup _, ds => .tup ds
  | .lst _, ds => .lst ds
  | .dic ks _, ds => .dic ks ds
  | d, _ => d
inductive BoxOf : D → List D → Prop
  | tup {ds} : BoxOf (.tup ds) ds
  | lst {ds} : BoxOf (.lst ds) ds
  | dic {ks ds} : BoxOf (.dic ks ds) ds
theorem BoxOf.bx {c : D} {ds : List D} (h : BoxOf c ds) : TL.bx (.box c) = ds.flatMap TL.own1 := by cases h <;> rfl
theorem BoxOf.wth {c : D} {ds es : List D} (h : BoxOf c ds) : BoxOf (bwith c es) es := by cases h <;> constructor
theorem VR.box_items {v : V} {c : D} {ds : List D} (hc : BoxOf c ds) (r : VR K mg hot H v ⟨true, .box c⟩) : ∃ a vs, v = .ref a ∧ RepBs K mg hot H vs ds := by
  cases hc with
  | tup => cases r with | boxT h1 h2 rs => exact ⟨_, _, rfl, rs⟩
  | lst => cases r with | boxL h1 h2 rs => exact ⟨_, _, rfl, rs⟩
  | dic => cases r with | boxD h1 h2 ek rs => exact ⟨_, _, rfl, rs⟩
theorem VR.box_with {a : Addr} {c : D} {ds es : List D} (hc : BoxOf c ds) (r : VR K mg hot H (.ref a) ⟨true, .box c⟩) (ha : hot' a) (he : H' a = H a) (k : ∀ vs, RepBs K mg hot H vs ds → RepBs K mg hot' H' vs es) : VR K mg hot' H' (.ref a) ⟨true, .box (bwith c es)⟩ := by
  cases hc with
  | tup => cases r with | boxT h1 h2 rs => obtain ⟨o, po, h2⟩ := h2; exact .boxT ha ⟨o, po, he.trans h2⟩ (k _ rs)
  | lst => cases r with | boxL h1 h2 rs => exact .boxL ha (he.trans h2) (k _ rs)
  | dic => cases r with | boxD h1 h2 ek rs => exact .boxD ha (he.trans h2) ek (k _ rs)
theorem StR.put_in {a b : Addr} {c : D} {ds : List D} {xs : List D} {j : Nat} (S : StR K mg oh H ((some (.ref a), some ⟨true, .box c⟩) :: L)) (hc : BoxOf c ds) (hj : ds[j]? = some (.own b xs)) :
    hotL oh ((some (.ref a), some ⟨true, .box c⟩) :: L) b ∧ (∃ vs0, H b = some (.lst vs0) ∧ Reps K mg (hotL oh ((some (.ref a), some ⟨true, .box c⟩) :: L)) H vs0 xs) ∧ ∀ (ws : List V) (ys : List D), Reps K mg (hotL oh ((some (.ref a), some ⟨true, .box c⟩) :: L)) (upd H b (.lst ws)) ws ys →
      StR K mg oh (upd H b (.lst ws)) ((some (.ref a), some ⟨true, .box (bwith c (ds.set j (.own b ys)))⟩) :: L) ∧ Step ((some (.ref a), some ⟨true, .box c⟩) :: L) H ((some (.ref a), some ⟨true, .box (bwith c (ds.set j (.own b ys)))⟩) :: L) (upd H b (.lst ws)) := by
  have r := S.head
  obtain ⟨a', vs, e, rs⟩ := r.box_items hc
  cases e
  obtain ⟨v, hv, rb⟩ := rs.get hj
  have nd := S.nd
  rw [roots_ownG, hc.bx] at nd
  obtain ⟨n1, n3⟩ := List.nodup_cons.mp nd
  obtain ⟨n4, n2, n5⟩ := List.nodup_append.mp n3
  have hbm : b ∈ ds.flatMap TL.own1 := List.mem_flatMap.mpr ⟨D.own b xs, List.mem_of_getElem? hj, List.mem_cons_self (a := b) (l := [])⟩
  have hbr : b ∈ roots ((some (V.ref a), some ⟨true, .box c⟩) :: L) := by rw [roots_ownG, hc.bx]; exact List.mem_cons_of_mem _ (List.mem_append_left _ hbm)
  have nab : a ≠ b := fun e => n1 (by rw [e]; exact List.mem_append_left _ hbm)
  refine ⟨.inr hbr, ?_, fun ws ys rw' => ?_⟩
  · cases rb with
    | fro r => cases r
    | own h1 h2 r => exact ⟨_, h2, r⟩
  · have hr : roots ((some (V.ref a), some ⟨true, .box (bwith c (ds.set j (.own b ys)))⟩) :: L) = roots ((some (V.ref a), some ⟨true, .box c⟩) :: L) := by
      rw [roots_ownG, roots_ownG, hc.bx, (BoxOf.wth hc).bx, own1_set j hj]
    have hh : hotL oh ((some (V.ref a), some ⟨true, .box (bwith c (ds.set j (.own b ys)))⟩) :: L) = hotL oh ((some (V.ref a), some ⟨true, .box c⟩) :: L) := by unfold hotL; rw [hr]
    have kk : ∀ x o, H x = some o → x ≠ b → upd H b (.lst ws) x = some o := fun x o e n => by rw [upd_ne n]; exact e
    have kp : Keeps (hotL oh ((some (V.ref a), some ⟨true, .box c⟩) :: L)) (hotL oh ((some (V.ref a), some ⟨true, .box c⟩) :: L)) H (upd H b (.lst ws)) := ⟨fun x o e n => kk x o e fun z => n (by rw [z]; exact .inr hbr), fun _ _ _ n => n⟩
    refine ⟨⟨fun p hp x hx => ?_, by rw [hr]; exact S.nd, fun x hx => S.dj x (by rw [hr] at hx; exact hx), hot_upd S.tr⟩, ⟨fun x o e n => kk x o e fun z => n (by rw [z]; exact hbr), fun x hx => .inl (by rw [hr] at hx; exact hx), fun x e => by
      by_cases q : x = b
      · subst q; rw [upd_same]; simp
      · rw [upd_ne q]; exact e⟩⟩
    rw [hh]
    rcases List.mem_cons.mp hp with rfl | hp
    · cases hx
      exact ⟨_, rfl, r.box_with hc (.inr (by rw [roots_ownG]; exact List.mem_cons_self)) (upd_ne nab) fun vs rs => rs.set kk (fun _ _ _ n => n) (.inr hbr) (fun _ h => h) (.inr hbr) upd_same rw' j hj n4⟩
    · obtain ⟨w, e, q⟩ := S.all p (List.mem_cons_of_mem _ hp) x hx
      refine ⟨w, e, q.mono kp fun x hb => ?_⟩
      have hx2 : x ∈ roots L := mem_roots.mpr ⟨p, hp, by rw [cell_eq hx e]; exact hb⟩
      exact ⟨.inr (roots_cons_sub x hx2), upd_ne fun z => n5 b hbm x hx2 z.symm⟩
theorem slot_box {σ : L2.St} {env : EnvD} {τ : Lay} {i j : Nat} {c : D} {ds xs : List D} {b : Addr} (e0 : σ.length = env.length) (S : StR K mg oh H (τ ++ σ.zip env)) (hx : env[i]? = some (some ⟨true, .box c⟩)) (hc : BoxOf c ds) (hj : ds[j]? = some (.own b xs)) :
    ∃ a, σ[i]? = some (some (.ref a)) ∧ VR K mg (hotL oh (τ ++ σ.zip env)) H (.ref a) ⟨true, .box c⟩ ∧ hotL oh (τ ++ σ.zip env) b ∧ (∃ vs0, H b = some (.lst vs0) ∧ Reps K mg (hotL oh (τ ++ σ.zip env)) H vs0 xs) ∧ ∀ (ws : List V) (ys : List D), Reps K mg (hotL oh (τ ++ σ.zip env)) (upd H b (.lst ws)) ws ys →
      StR K mg oh (upd H b (.lst ws)) (τ ++ σ.zip (env.set i (some ⟨true, .box (bwith c (ds.set j (.own b ys)))⟩))) ∧ Step (τ ++ σ.zip env) H (τ ++ σ.zip (env.set i (some ⟨true, .box (bwith c (ds.set j (.own b ys)))⟩))) (upd H b (.lst ws)) := by
  obtain ⟨v, hv, r⟩ := get_slot e0 S hx
  obtain ⟨a, rfl, _, _⟩ := r.own_root
  obtain ⟨A, B, e1, e2⟩ := zip_split e0 hv hx
  have hset : σ.set i (some (.ref a)) = σ := by
    obtain ⟨hi, he⟩ := List.getElem?_eq_some_iff.mp hv
    rw [← he]; exact List.set_getElem_self hi
  have p1 : (τ ++ σ.zip env).Perm ((some (.ref a), some ⟨true, .box c⟩) :: (τ ++ (A ++ B))) := by rw [e1]; exact perm_mid
  have eh : hotL oh (τ ++ σ.zip env) = hotL oh ((some (.ref a), some ⟨true, .box c⟩) :: (τ ++ (A ++ B))) := by
    funext b
    apply propext
    unfold hotL
    rw [roots_perm p1]
  obtain ⟨g1, g2, g3⟩ := (S.perm p1).put_in hc hj
  rw [← eh] at g1 g2 g3
  refine ⟨a, hv, r, g1, g2, fun ws ys rw' => ?_⟩
  obtain ⟨S2, s2⟩ := g3 ws ys rw'
  have e3 := e2 (some (.ref a)) (some ⟨true, .box (bwith c (ds.set j (.own b ys)))⟩)
  rw [hset] at e3
  have p2 : (τ ++ σ.zip (env.set i (some ⟨true, .box (bwith c (ds.set j (.own b ys)))⟩))).Perm ((some (.ref a), some ⟨true, .box (bwith c (ds.set j (.own b ys)))⟩) :: (τ ++ (A ++ B))) := by rw [e3]; exact perm_mid
  exact ⟨S2.perm p2.symm, (s2.permL p1.symm).permR p2.symm⟩
/-! ### x[j].m(..) -/
def wMutB (s : SMu) (i j : Nat) (ts : WXs) : WE := fun env P => ∃ b, (∃ c ds xs, env[i]? = some (some ⟨true, .box c⟩) ∧ (c = .tup ds ∨ c = .lst ds) ∧ ds[j]? = some (.own b xs)) ∧
  ts env fun os env1 => ∃ c ds xs as, env1[i]? = some (some ⟨true, .box c⟩) ∧ (c = .tup ds ∨ c = .lst ds) ∧ ds[j]? = some (.own b xs) ∧ tms os = some as ∧ s (.lst xs) as fun d' val => ∃ ys, d' = .lst ys ∧ P val (env1.set i (some ⟨true, .box (bwith c (ds.set j (.own b ys)))⟩))
theorem box_of {c : D} {ds : List D} (h : c = .tup ds ∨ c = .lst ds) : BoxOf c ds := by rcases h with rfl | rfl <;> constructor
theorem atI_natV {α : Type} (xs : List α) (i : Nat) : atI xs (i : Int) = xs[i]? := by
  unfold atI ixN
  rw [if_pos (by omega)]
  by_cases h : (i : Int) < xs.length
  · rw [if_pos h]; rfl
  · rw [if_neg h]; simp; omega
def tIxJ (K : PySem.W.Frag) (i j : Nat) : TE := tOp (rIx K) (tVar i) (tC (.int (j : Int)))
theorem ixJ_to {σ : L2.St} {env : EnvD} {τ : Lay} {i j : Nat} {c : D} {ds xs : List D} {b : Addr} (e0 : σ.length = env.length) (S : StR K mg oh H (τ ++ σ.zip env)) (hx : env[i]? = some (some ⟨true, .box c⟩)) (hc : c = .tup ds ∨ c = .lst ds) (hj : ds[j]? = some (.own b xs)) {Q : VK} (q : Q (.ref b) H) : tIxJ K i j σ H Q := by
  obtain ⟨v, hv, r⟩ := get_slot e0 S hx
  refine ⟨v, hv, ?_⟩
  show rIx K v (.int (j : Int)) H Q
  rcases hc with rfl | rfl
  · cases r with
    | boxT h1 h2 rs =>
      obtain ⟨w, hw, rb⟩ := rs.get hj
      cases rb with
      | fro r => cases r
      | own _ _ _ => exact .inr (.inl ⟨_, _, _, _, rfl, rfl, .inl h2.rd, by rw [atI_natV]; exact hw, q⟩)
  · cases r with
    | boxL h1 h2 rs =>
      obtain ⟨w, hw, rb⟩ := rs.get hj
      cases rb with
      | fro r => cases r
      | own _ _ _ => exact .inl ⟨_, _, _, _, rfl, rfl, .inl (.inl h2), by rw [atI_natV]; exact hw, q⟩
theorem mutB_fin {r : V → List V → Hp → VK → Prop} {s : SMu} (hl : MutL K mg r s) {τ L0 : Lay} {env1 : EnvD} {σ : L2.St} {i j : Nat} {c : D} {ds xs as : List D} {b : Addr} {vs : List V} {os : List Opd} {H0 H1 : Hp} {P : Val → EnvD → Prop} {Q : VK} (e1 : σ.length = env1.length) (a1 : OpdsAt σ vs os)
    (S1 : StR K mg oh H1 (cells vs os ++ (τ ++ σ.zip env1))) (s1 : Step L0 H0 (cells vs os ++ (τ ++ σ.zip env1)) H1) (hx : env1[i]? = some (some ⟨true, .box c⟩)) (hc : c = .tup ds ∨ c = .lst ds) (hj : ds[j]? = some (.own b xs)) (ht : tms os = some as)
    (q : s (.lst xs) as fun d' val => ∃ ys, d' = .lst ys ∧ P val (env1.set i (some ⟨true, .box (bwith c (ds.set j (.own b ys)))⟩)))
    (k : ∀ v val env' H', σ.length = env'.length → StR K mg oh H' ((some v, some val) :: (τ ++ σ.zip env')) → Step L0 H0 ((some v, some val) :: (τ ++ σ.zip env')) H' → P val env' → Q v H') : r (.ref b) vs H1 Q := by
  have rs := tms_reps S1 a1 ht fun c hc => List.mem_append_left _ hc
  rw [hot_cells] at rs
  obtain ⟨a, ha, rb, hb, ⟨vs0, hv0, r0⟩, put⟩ := slot_box (τ := τ) e1 S1.right hx (box_of hc) hj
  have s1' : Step L0 H0 (τ ++ σ.zip env1) H1 := s1.lessR fun a ha => by rw [roots_cells]; exact ha
  refine hl.2 _ H1 b vs (.lst xs) as _ Q (fun a ha => S1.right.hot_there ha) (.lst hb hv0 r0) rs q fun d' o' v dv hb2 ⟨ys, hd, p⟩ mk rv => ?_
  subst hd
  have kp0 : Keeps (hotL oh (τ ++ σ.zip env1)) (hotL oh (τ ++ σ.zip env1)) H1 (upd H1 b o') := ⟨fun x o e n => by rw [upd_ne fun z => n (by rw [z]; exact hb)]; exact e, fun _ _ _ n => n⟩
  have m := mk _ _ kp0 hb upd_same
  obtain ⟨b', ws, eb, _, h2, rws⟩ := own_lst m
  cases eb
  rw [upd_same] at h2
  cases h2
  obtain ⟨S2, s2⟩ := put ws ys rws
  have kp := s2.keeps (oh := oh) (B := [])
  rw [List.append_nil, List.append_nil] at kp
  exact k v (fz dv) _ _ (by rw [List.length_set]; exact e1) (S2.push (StR.one_fro (fun a ha => S2.hot_there ha) (rv _ _ kp)) Step.one_fro) ((s1'.trans s2).trans Step.one_fro.push) p
theorem mutB_ty {σ : L2.St} {env : EnvD} {τ : Lay} {i j : Nat} {c : D} {ds xs : List D} {b : Addr} (e0 : σ.length = env.length) (S : StR K mg oh H (τ ++ σ.zip env)) (hx : env[i]? = some (some ⟨true, .box c⟩)) (hc : c = .tup ds ∨ c = .lst ds) (hj : ds[j]? = some (.own b xs)) : tyV K "list" (.ref b) H := by
  obtain ⟨a, ha, rb, hb, ⟨vs0, hv0, r0⟩, put⟩ := slot_box (τ := τ) e0 S hx (box_of hc) hj
  exact .inl ⟨rfl, vs0, .inl (.inl hv0)⟩
theorem mutB_lift {r : V → List V → Hp → VK → Prop} {s : SMu} (hl : MutL K mg r s) {i j : Nat} {ts : WXs} {σ : L2.St} {Q : VK} (h : liftE K mg (wMutB s i j ts) σ H Q) : tBM K "list" r (tIxJ K i j) (liftXs K mg ts) σ H Q := by
  obtain ⟨oh, τ, env, P, e0, S, ⟨b, ⟨c0, ds0, xs0, hx0, hc0, hj0⟩, t⟩, k⟩ := h
  exact ixJ_to e0 S hx0 hc0 hj0 ⟨mutB_ty e0 S hx0 hc0 hj0, oh, τ, env, _, e0, S, t, fun vs os env1 H1 e1 a1 S1 s1 ⟨c, ds, xs, as, hx, hc, hj, hr, q⟩ => mutB_fin hl e1 a1 S1 s1 hx hc hj hr q k⟩
theorem mutB0_lift {r : V → List V → Hp → VK → Prop} {s : SMu} (hl : MutL K mg r s) {i j : Nat} {σ : L2.St} {Q : VK} (h : liftE K mg (wMutB s i j wXnil) σ H Q) : tBM0 K "list" r (tIxJ K i j) σ H Q := by
  obtain ⟨oh, τ, env, P, e0, S, ⟨b, ⟨c0, ds0, xs0, hx0, hc0, hj0⟩, c, ds, xs, as, hx, hc, hj, hr, q⟩, k⟩ := h
  exact ixJ_to e0 S hx0 hc0 hj0 ⟨mutB_ty e0 S hx0 hc0 hj0, mutB_fin (vs := []) (os := []) hl e0 .nil S Step.refl hx hc hj hr q k⟩
/-! ### opened: everybody's -/
def wOpx (t : WE) : WE := fun env P => t env fun val env1 => P (opnV val) env1
theorem opx_lift {t : WE} {σ : L2.St} {Q : VK} (h : liftE K mg (wOpx t) σ H Q) : liftE K mg t σ H Q := by
  obtain ⟨oh, τ, env, P, e0, S, t, k⟩ := h
  refine ⟨oh, τ, env, _, e0, S, t, fun v val env1 H1 e1 S1 s1 p => ?_⟩
  obtain ⟨S2, sub⟩ := S1.opn
  exact k v (opnV val) env1 H1 e1 S2 (s1.lessR sub) p
/-! ### a slot's value moved -/
def wMv (i : Nat) : WA1 := fun env P => ∃ x, env[i]? = some (some x) ∧ P (.vl x) (env.set i none)
theorem p1_mv {X : Cx} {x : Str} {pos : Pos} {i : Nat} (h : PE X (.Name x pos) (tVar i)) : PE X (.Name x pos) (liftA1 K mg (wMv i)) := by
  refine PEimp h fun σ H Q w => ?_
  obtain ⟨oh, τ, env, P, e0, S, ⟨x, hx, p⟩, k⟩ := w
  obtain ⟨v, hv, _⟩ := get_slot e0 S hx
  have cp : (core (τ ++ σ.zip env)).Perm (core ((some v, some x) :: (τ ++ σ.zip (env.set i none))) ++ []) := by
    rw [List.append_nil, core_append, core_cons_some, core_append]
    exact (List.Perm.append_left _ (core_slot e0 hv hx)).trans List.perm_middle
  exact ⟨v, hv, k v (.vl x) _ H (by rw [List.length_set]; exact e0) trivial (S.core cp) (Step.refl.coreR cp) p⟩
/-! ### a tuple of which some items stay own lists -/
def sB : List Val → (List D → Prop) → Prop
  | [], k => k []
  | ⟨false, d⟩ :: r, k => sB r fun ds => k (d :: ds)
  | ⟨true, .lst xs⟩ :: r, k => ∀ a, sB r fun ds => k (.own a xs :: ds)
  | _, _ => False
def wTupB (ts : WAs) : WE := fun env P => ts env fun os env1 => ∃ xs, vls os = some xs ∧ xs.length ≤ 16777216 ∧ sB xs fun ds => P ⟨true, .box (.tup ds)⟩ env1
inductive BOf (K : PySem.W.Frag) (mg : Str → Option Value) (hot : Pr) (H : Hp) : List V → List Val → List D → Prop
  | nil : BOf K mg hot H [] [] []
  | fro {v d vs xs ds} : Rep K mg hot H v d → BOf K mg hot H vs xs ds → BOf K mg hot H (v :: vs) (⟨false, d⟩ :: xs) (d :: ds)
  | own {a ws l vs xs ds} : hot a → H a = some (.lst ws) → Reps K mg hot H ws l → BOf K mg hot H vs xs ds → BOf K mg hot H (.ref a :: vs) (⟨true, .lst l⟩ :: xs) (.own a l :: ds)
theorem BOf.reps : ∀ {vs xs ds}, BOf K mg hot H vs xs ds → RepBs K mg hot H vs ds
  | _, _, _, .nil => .nil
  | _, _, _, .fro r t => .cons (.fro r) (BOf.reps t)
  | _, _, _, .own h1 h2 r t => .cons (.own h1 h2 r) (BOf.reps t)
theorem BOf.roots : ∀ {vs xs ds}, BOf K mg hot H vs xs ds → TL.roots (zipA vs xs) = ds.flatMap TL.own1
  | _, _, _, .nil => rfl
  | _, _, _, .fro r t => by rw [zipA_cons, roots_fro, BOf.roots t, List.flatMap_cons, r.own1]; rfl
  | _, _, _, .own h1 h2 r t => by rw [zipA_cons, roots_own, BOf.roots t, List.flatMap_cons]; rfl
theorem sB_of : ∀ {vs : List V} {xs : List Val} {k : List D → Prop}, (∀ p ∈ zipA vs xs, SlotOk K mg hot H p) → vs.length = xs.length → sB xs k → ∃ ds, BOf K mg hot H vs xs ds ∧ k ds
  | [], [], k, _, _, h => ⟨[], .nil, h⟩
  | v :: vs, ⟨false, d⟩ :: xs, k, hp, hl, h => by
    obtain ⟨ds, h1, h2⟩ := sB_of (vs := vs) (xs := xs) (fun p q => hp p (List.mem_cons_of_mem _ q)) (by simpa using hl) h
    obtain ⟨w, e, r⟩ := hp (some v, some ⟨false, d⟩) List.mem_cons_self _ rfl
    cases e
    cases r with
    | fro r => exact ⟨d :: ds, .fro r h1, h2⟩
  | v :: vs, ⟨true, .lst l⟩ :: xs, k, hp, hl, h => by
    obtain ⟨w, e, r⟩ := hp (some v, some ⟨true, .lst l⟩) List.mem_cons_self _ rfl
    cases e
    obtain ⟨a, ws, rfl, h1, h2, rs⟩ := own_lst r
    obtain ⟨ds, g1, g2⟩ := sB_of (vs := vs) (xs := xs) (fun p q => hp p (List.mem_cons_of_mem _ q)) (by simpa using hl) (h a)
    exact ⟨_, .own h1 h2 rs g1, g2⟩
  | _ :: _, ⟨true, .non⟩ :: _, _, _, _, h => h.elim
  | _ :: _, ⟨true, .bl _⟩ :: _, _, _, _, h => h.elim
  | _ :: _, ⟨true, .int _⟩ :: _, _, _, _, h => h.elim
  | _ :: _, ⟨true, .str _⟩ :: _, _, _, _, h => h.elim
  | _ :: _, ⟨true, .tup _⟩ :: _, _, _, _, h => h.elim
  | _ :: _, ⟨true, .dic _ _⟩ :: _, _, _, _, h => h.elim
  | _ :: _, ⟨true, .fn _⟩ :: _, _, _, _, h => h.elim
  | _ :: _, ⟨true, .lse _⟩ :: _, _, _, _, h => h.elim
  | _ :: _, ⟨true, .own _ _⟩ :: _, _, _, _, h => h.elim
  | _ :: _, ⟨true, .ldc _ _⟩ :: _, _, _, _, h => h.elim
  | _ :: _, ⟨true, .box _⟩ :: _, _, _, _, h => h.elim
theorem tupB_lift {ts : WAs} {σ : L2.St} {Q : VK} (h : liftE K mg (wTupB ts) σ H Q) : tTupT (liftAs K mg ts) σ H Q := by
  obtain ⟨oh, τ, env, P, e0, S, t, k⟩ := h
  refine ⟨oh, τ, env, _, e0, S, t, fun vs os env1 H1 e1 a1 S1 s1 ⟨xs, hx, hz, q⟩ => ?_⟩
  obtain ⟨c1, c2⟩ := vls_cells (cellsA_len a1) hx
  rw [c1] at S1 s1
  have hlen : vs.length = xs.length := by rw [cellsA_len a1, c2]
  refine ⟨by rw [slen, hlen]; exact hz, fun p o hp po => ?_⟩
  have SA := S1.split
  obtain ⟨ds, bo, q⟩ := sB_of SA.all hlen q
  have hr := bo.roots
  have hroot : roots [((some (V.ref p), some ⟨true, .box (.tup ds)⟩) : Cell)] = p :: ds.flatMap TL.own1 := by rw [roots_ownG]; show p :: (ds.flatMap TL.own1 ++ []) = _; rw [List.append_nil]
  have npr : p ∉ ds.flatMap TL.own1 := fun z => (bo.reps.isHot p z).2 hp
  have kp : Keeps (hotL (hotL oh (τ ++ σ.zip env1)) (zipA vs xs)) (hotL (hotL oh (τ ++ σ.zip env1)) [((some (V.ref p), some ⟨true, .box (.tup ds)⟩) : Cell)]) H1 (newT H1 p o vs) := by
    refine keeps_newH hp fun a q => ?_
    rcases q with q | q
    · exact .inl (.inl q)
    · rw [hroot] at q
      rcases List.mem_cons.mp q with e | z
      · exact .inr e
      · exact .inl (.inr (by rw [hr]; exact z))
  have T : StR K mg (hotL oh (τ ++ σ.zip env1)) (newT H1 p o vs) [(some (V.ref p), some ⟨true, .box (.tup ds)⟩)] := by
    refine ⟨fun c hc x hx => ?_, ?_, fun a ha => ?_, hot_upd SA.tr⟩
    · obtain rfl := List.mem_singleton.mp hc
      cases hx
      refine ⟨_, rfl, .boxT (.inr (by rw [hroot]; exact List.mem_cons_self)) ⟨o, po, upd_same⟩ (bo.reps.mono kp fun b hb => ?_)⟩
      refine ⟨.inr (by rw [hroot]; exact List.mem_cons_of_mem _ hb), upd_ne fun e => npr (by rw [← e]; exact hb)⟩
    · rw [hroot]
      exact List.nodup_cons.mpr ⟨npr, by rw [← hr]; exact SA.nd⟩
    · rw [hroot] at ha
      rcases List.mem_cons.mp ha with e | z
      · rw [e]; exact fun z => SA.tr p z hp
      · exact SA.dj a (by rw [hr]; exact z)
  have st : Step (zipA vs xs) H1 [(some (V.ref p), some ⟨true, .box (.tup ds)⟩)] (newT H1 p o vs) := by
    refine ⟨fun a u e _ => by show upd H1 p _ a = _; rw [upd_ne (ne_of_none e hp)]; exact e, fun a ha => ?_, fun a e => ?_⟩
    · rw [hroot] at ha
      rcases List.mem_cons.mp ha with e | z
      · exact .inr (by rw [e]; exact hp)
      · exact .inl (by rw [hr]; exact z)
    · show upd H1 p _ a ≠ none
      by_cases q : a = p
      · subst q; rw [upd_same]; simp
      · rw [upd_ne q]; exact e
  exact k _ _ env1 _ e1 (StR.frame S1 T st) (s1.trans st.frame) q
/-! ### a call that only looks, and tells a number, a truth, a text, None -/
def unb : D → D
  | .box c => opnD c
  | d => d
def flatR : D → Bool
  | .non => true | .bl _ => true | .int _ => true | .str _ => true | _ => false
def wCallR (n : Nat) (t : DSpec) (ts : WXs) : WE := fun env P => ts env fun os env1 => ∃ ds, resAll env1 os = some ds ∧ os.length = n ∧ t (ds.map fun d => fz (unb d)) fun v xs => flatR v.d = true ∧ P (fz v.d) env1
theorem VRo.bare {v : V} {d : D} (r : VRo K mg hot H v d) : Rep K mg (fun _ => False) H v (unb d) := by
  have kp : Keeps hot (fun _ => False) H H := ⟨fun _ _ e _ => e, fun _ _ _ _ z => z⟩
  obtain ⟨o, r⟩ := r
  cases r with
  | fro r =>
    have r' := r.mono kp
    cases r with
    | box _ => cases r' with | box r => exact r
    | _ => exact r'
  | lst h1 h2 r => exact .lst (.inl ⟨fun z => z, .inl h2⟩) (r.mono kp)
  | dicK h1 h2 e r => exact .dicK (fun z => z) h2 e (r.mono kp)
  | boxT h1 h2 rs => obtain ⟨o, po, h2⟩ := h2; exact .tup (.inl ⟨fun z => z, o, po, h2⟩) (rs.cool kp fun _ _ z => z)
  | boxL h1 h2 rs => exact .lst (.inl ⟨fun z => z, .inl h2⟩) (rs.cool kp fun _ _ z => z)
  | boxD h1 h2 e rs => exact .dicK (fun z => z) h2 e (rs.cool kp fun _ _ z => z)
/-- a heap in which all that was there is there -/
theorem StR.grow (S : StR K mg oh H L) (g : ∀ a o, H a = some o → H' a = some o) : StR K mg oh H' L := by
  have kp : Keeps (hotL oh L) (hotL oh L) H H' := ⟨fun a o e _ => g a o e, fun _ _ _ n => n⟩
  have th : ∀ a, H a ≠ none → H' a ≠ none ∧ H' a = H a := fun a h => by
    cases e : H a with
    | none => exact absurd e h
    | some o => exact ⟨by rw [g a o e]; simp, g a o e⟩
  refine ⟨fun p hp x hx => ?_, S.nd, S.dj, fun a ha => (th a (S.tr a ha)).1⟩
  obtain ⟨v, e, r⟩ := S.all p hp x hx
  refine ⟨v, e, r.mono kp fun b hb => ?_⟩
  have hb2 : b ∈ roots L := mem_roots.mpr ⟨p, hp, by rw [cell_eq hx e]; exact hb⟩
  exact ⟨.inr hb2, (th b (S.root_there hb2)).2⟩
theorem flat_any {v : V} {x : Val} (r : VR K mg hot H v x) (h : flatR x.d = true) : Rep K mg hot' H' v x.d := by
  cases r with
  | fro r =>
    cases r with
    | non => exact .non
    | bl b => exact .bl b
    | int i => exact .int i
    | str x ok => exact .str x ok
    | _ => cases h
  | _ => cases h
theorem callR_lift {n : Nat} {t : DSpec} {ts : WXs} {σ : L2.St} {Q : VK} (h : liftE K mg (wCallR n t ts) σ H Q) : liftXs K mg ts σ H fun vs H1 => spT K mg n t vs H1 Q E0 := by
  obtain ⟨oh, τ, env, P, e0, S, t1, k⟩ := h
  refine ⟨oh, τ, env, _, e0, S, t1, fun vs os env1 H1 e1 a1 S1 s1 ⟨ds, hr, hn, p⟩ => ?_⟩
  have rs := opds_read e1 hot_cells S1 a1 (fun _ h => h) hr
  have hl : vs.length = n := by
    have : ∀ {vs : List V} {os : List Opd}, OpdsAt σ vs os → vs.length = os.length := by
      intro vs os h
      induction h with
      | nil => rfl
      | cons _ _ ih => rw [List.length_cons, List.length_cons, ih]
    rw [this a1]; exact hn
  have key : ∀ {vs : List V} {ds : List D}, VRos K mg (hotL oh (τ ++ σ.zip env1)) H1 vs ds → vs.length = ds.length ∧ roots (zipA vs (ds.map fun d => fz (unb d))) = [] ∧ ∀ p ∈ zipA vs (ds.map fun d => fz (unb d)), ∃ v d, p = (some v, some (fz d)) ∧ Rep K mg (fun _ => False) H1 v d := by
    intro vs ds h
    induction h with
    | nil => exact ⟨rfl, rfl, fun p hp => nomatch hp⟩
    | cons r _ ih =>
      obtain ⟨i1, i2, i3⟩ := ih
      refine ⟨by rw [List.length_cons, List.length_cons, i1], ?_, fun p hp => ?_⟩
      · rw [List.map_cons, zipA_cons, roots_fro]; exact i2
      · rcases List.mem_cons.mp hp with rfl | hp
        · exact ⟨_, _, rfl, r.bare⟩
        · exact i3 p hp
  obtain ⟨k1, k2, k3⟩ := key rs
  have hot0 : hotL (fun _ => False) (zipA vs (ds.map fun d => fz (unb d))) = fun _ => False := by
    funext a
    apply propext
    unfold hotL
    rw [k2]
    exact ⟨fun h => h.elim (fun z => z) fun z => absurd z (List.not_mem_nil), fun h => False.elim h⟩
  have SA : StR K mg (fun _ => False) H1 (zipA vs (ds.map fun d => fz (unb d))) := by
    refine ⟨fun p hp x hx => ?_, by rw [k2]; exact List.nodup_nil, (fun a ha => by rw [k2] at ha; cases ha), fun a h => False.elim h⟩
    obtain ⟨v, d, rfl, r⟩ := k3 p hp
    cases hx
    rw [hot0]
    exact ⟨v, rfl, .fro r⟩
  refine ⟨fun _ => False, ds.map fun d => fz (unb d), _, hl, by rw [List.length_map, ← k1]; exact hl, SA, p, fun v val xs H2 hx S3 s3 ⟨hf, q⟩ => ?_⟩
  have g : ∀ a o, H1 a = some o → H2 a = some o := fun a o e => s3.keep a o e (by rw [k2]; exact List.not_mem_nil)
  have S1r : StR K mg oh H1 (τ ++ σ.zip env1) := S1.right
  have S4 : StR K mg oh H2 (τ ++ σ.zip env1) := S1r.grow g
  have rv : Rep K mg (hotL oh (τ ++ σ.zip env1)) H2 v val.d := flat_any S3.head hf
  have s4 : Step (τ ++ σ.zip env1) H1 (τ ++ σ.zip env1) H2 := ⟨fun a o e _ => g a o e, fun a ha => .inl ha, s3.dom⟩
  exact k v (fz val.d) env1 H2 e1 (S4.push (StR.one_fro (fun a ha => S4.hot_there ha) rv) Step.one_fro) (((s1.lessR fun a ha => roots_app_sub a ha).trans s4).trans Step.one_fro.push) q
end
end TL

/-! V12: zip of three lists -/
namespace TL
open PySem PySem.Spec PyProof.Rows L2
/-- what a list's iterator draws from its i-th place on -/
theorem draws_from {prog : Program} {w : World} {A : Around} (hh : A.handled = none) (it l : Addr) (hne : l ≠ it) (items : Array Value) (i : Nat) :
    Draws prog w A it [it, l] (max i items.size) (fun j v => items[j]? = some v) (fun j h => i ≤ j ∧ h.IsListIter it l j ∧ h.IsList l items) where
  live := fun _ _ st => let ⟨o, ho, _⟩ := st.2.1; ⟨o, ho⟩
  frame := fun _ _ _ st hk => ⟨st.1, st.2.1.at fun o e => hk it (by simp) o e, st.2.2.at fun o e => hk l (by simp) o e⟩
  item := fun j s Q E hj st hQ => by
    have hj' : j < items.size := by have := st.1; omega
    refine wpAny_nextOf_list_item st.2.1 st.2.2 (x := items[j]) (by simp [hj']) fun h' hit' hs' => ?_
    exact hQ _ h' s.toks (by simp [hj']) ⟨Nat.le_succ_of_le st.1, hit', st.2.2.extBut hs'.extBut hne⟩ hs'
  done := fun s Q E st hE => wpAny_nextOf_list_end hh st.2.1 st.2.2 (by simp; omega) hE
def Itz3 (K : PySem.W.Frag) (a b c : Addr) : It :=
  ⟨fun i H => ∃ (xs ys zs : List V) (x y z : V), SqL K H a xs ∧ SqL K H b ys ∧ SqL K H c zs ∧ xs[i]? = some x ∧ ys[i]? = some y ∧ zs[i]? = some z,
    fun i H v H' => ∃ T x y z, v = .ref T ∧ H T = none ∧ H' = upd H T (.tup [x, y, z]) ∧ (∀ xs, SqL K H a xs → xs[i]? = some x) ∧ (∀ ys, SqL K H b ys → ys[i]? = some y) ∧ ∀ zs, SqL K H c zs → zs[i]? = some z,
    fun i H => ∃ xs ys zs : List V, SqL K H a xs ∧ SqL K H b ys ∧ SqL K H c zs ∧ (xs.length ≤ i ∨ ys.length ≤ i ∨ zs.length ≤ i)⟩
theorem turn_zip3 {P : Program} {w : World} {K : PySem.W.Frag} {elts : List Expr} {kk : Nat} {tpos : Pos} {a b c z TI TO i1 i2 i3 : Addr} (D : ZipSep3 z TI TO i1 i2 i3 [i1, a] [i2, b] [i3, c]) (n1 : a ≠ i1) (n2 : b ≠ i2) (n3 : c ≠ i3) :
    Turn P w K (.Tuple elts kk tpos) (Itz3 K a b c) [z, TI, TO, i1, i2, i3] z (fun i h => IsZip h z TI TO .none ∧ IsTupOf3 h TI (.ref i1) (.ref i2) (.ref i3) ∧ (∃ x y u, IsTupOf3 h TO x y u) ∧ h.IsListIter i1 a i ∧ h.IsListIter i2 b i ∧ h.IsListIter i3 c i) where
  mem := by simp
  obj := fun i h st d hd => by
    obtain ⟨hz, hTI, ⟨x, y, u, hTO⟩, ⟨o1, e1, _, d1⟩, ⟨o2, e2, _, d2⟩, ⟨o3, e3, _, d3⟩⟩ := st
    have e' : d = z ∨ d = TI ∨ d = TO ∨ d = i1 ∨ d = i2 ∨ d = i3 := by simpa using hd
    rcases e' with q | q | q | q | q | q
    · rw [q]; exact ⟨_, hz, fun v q => nomatch q⟩
    · rw [q]; exact ⟨_, hTI, fun v q => nomatch q⟩
    · rw [q]; exact ⟨_, hTO, fun v q => nomatch q⟩
    · rw [q]; exact ⟨o1, e1, fun v q => by rw [d1] at q; cases q⟩
    · rw [q]; exact ⟨o2, e2, fun v q => by rw [d2] at q; cases q⟩
    · rw [q]; exact ⟨o3, e3, fun v q => by rw [d3] at q; cases q⟩
  keep := fun i h h' st k => by
    obtain ⟨hz, hTI, ⟨x, y, u, hTO⟩, h1, h2, h3⟩ := st
    exact ⟨k z (by simp) _ hz, k TI (by simp) _ hTI, ⟨x, y, u, k TO (by simp) _ hTO⟩, h1.at fun o q => k i1 (by simp) o q, h2.at fun o q => k i2 (by simp) o q, h3.at fun o q => k i3 (by simp) o q⟩
  item := by
    intro X hP hw hK hc i pins s σ H E I hf st hg
    subst hP hw hK
    obtain ⟨hz, hTI, ⟨x0, y0, u0, hTO⟩, h1, h2, h3⟩ := st
    obtain ⟨xs, ys, zs, x, y, w, hqx, hqy, hqz, hx, hy, hw⟩ := hg
    obtain ⟨its, rv, p, _⟩ := I.list hqx
    obtain ⟨its2, rv2, p2, _⟩ := I.list hqy
    obtain ⟨its3, rv3, p3, _⟩ := I.list hqz
    obtain ⟨u, hu, ru⟩ := rv.get hx
    obtain ⟨u2, hu2, ru2⟩ := rv2.get hy
    obtain ⟨u3, hu3, ru3⟩ := rv3.get hw
    have hzl : z < s.heap.objs.size := Heap.lt_size hz
    have l1 := (List.getElem?_eq_some_iff.mp hu).1
    have l2 := (List.getElem?_eq_some_iff.mp hu2).1
    have l3 := (List.getElem?_eq_some_iff.mp hu3).1
    refine wpAny_pyNext_zipD3_item D (draws_from (A := X.A.in1) (I.ok.hd hc) i1 a n1 its.toArray i) (draws_from (A := X.A.in1) (I.ok.hd hc) i2 b n2 its2.toArray i) (draws_from (A := X.A.in1) (I.ok.hd hc) i3 c n3 its3.toArray i)
      hz hTI hTO ⟨Nat.le_refl i, h1, p.isList⟩ ⟨Nat.le_refl i, h2, p2.isList⟩ ⟨Nat.le_refl i, h3, p3.isList⟩ (by simp; omega) (by simp; omega) (by simp; omega) fun x1 x2 x3 h' tk g1 g2 g3 z' TO' s1' s2' s3' hT hsz hk => ?_
    obtain rfl : x1 = u := by
      have g1 : its.toArray[i]? = some x1 := g1
      rw [List.getElem?_toArray, hu] at g1
      exact (Option.some.inj g1).symm
    obtain rfl : x2 = u2 := by
      have g2 : its2.toArray[i]? = some x2 := g2
      rw [List.getElem?_toArray, hu2] at g2
      exact (Option.some.inj g2).symm
    obtain rfl : x3 = u3 := by
      have g3 : its3.toArray[i]? = some x3 := g3
      rw [List.getElem?_toArray, hu3] at g3
      exact (Option.some.inj g3).symm
    refine ⟨_, rfl, wpAny_letOwnedTupleGo_zip (s := { s with heap := h', toks := tk }) z' fun h'' z'' sb => ?_⟩
    have hT2 : h''.get? s.heap.objs.size = some { cls := .type "tuple", data := .seq #[x1, x2, x3] } := (sb.2 _ (Nat.ne_of_gt hzl)).trans hT
    have new : ObjOk X.prog X.w (upd H s.heap.objs.size (.tup [x, y, w])) h'' s.heap.objs.size (.tup [x, y, w]) :=
      ⟨by show 3 ≤ sizeLine; decide, [x1, x2, x3], .cons ru (.cons ru2 (.cons ru3 .nil)), ⟨_, hT2, rfl, _, rfl⟩⟩
    have I1 : L2.Inv X pins σ (upd H s.heap.objs.size (.tup [x, y, w])) { s with heap := h'', toks := tk } :=
      I.turnedNew (ch := [z, TI, TO, i1, i2, i3]) (fun c o hb q => (sb.2 c (fun q' => hb (by simp [q']))).trans (hk c o (fun q' => hb (by simp [q'])) (fun q' => hb (by simp [q'])) (fun q' => hb (by simp [q'])) (fun q' => hb (by simp [q'])) (fun q' => hb (by simp [q'])) q)) hf (Nat.le_refl _) new
    refine ⟨.ref s.heap.objs.size, _, I1, rfl, ⟨_, x, y, w, rfl, I.hok.fresh (Nat.le_refl _), rfl, fun l hl => by rw [I.list_inj hl hqx]; exact hx, fun l hl => by rw [I.list_inj hl hqy]; exact hy, fun l hl => by rw [I.list_inj hl hqz]; exact hw⟩, ⟨z'', ?_, ⟨x1, x2, x3, ?_⟩, ?_, ?_, ?_⟩, fun c hcm => ?_⟩
    · exact (sb.2 _ D.TIz).trans (hk _ _ D.TIz D.TITO D.TIi1 D.TIi2 D.TIi3 hTI)
    · exact (sb.2 _ D.TOz).trans TO'
    · exact s1'.2.1.at fun o q => (sb.2 _ (Ne.symm D.zi1)).trans q
    · exact s2'.2.1.at fun o q => (sb.2 _ (Ne.symm D.zi2)).trans q
    · exact s3'.2.1.at fun o q => (sb.2 _ (Ne.symm D.zi3)).trans q
    · have hlt : c < s.heap.objs.size := by
        have e' : c = z ∨ c = TI ∨ c = TO ∨ c = i1 ∨ c = i2 ∨ c = i3 := by simpa using hcm
        rcases e' with q | q | q | q | q | q
        · rw [q]; exact hzl
        · rw [q]; exact Heap.lt_size hTI
        · rw [q]; exact Heap.lt_size hTO
        · rw [q]; obtain ⟨_, e1, _⟩ := h1; exact Heap.lt_size e1
        · rw [q]; obtain ⟨_, e2, _⟩ := h2; exact Heap.lt_size e2
        · rw [q]; obtain ⟨_, e3, _⟩ := h3; exact Heap.lt_size e3
      rw [upd_ne (Nat.ne_of_lt hlt)]
      exact (hf c hcm).1
  done := by
    intro X hP hw hK hc i pins s σ H E I hf st hg
    subst hP hw hK
    obtain ⟨hz, hTI, ⟨x0, y0, u0, hTO⟩, h1, h2, h3⟩ := st
    obtain ⟨xs, ys, zs, hqx, hqy, hqz, hend⟩ := hg
    obtain ⟨its, rv, p, _⟩ := I.list hqx
    obtain ⟨its2, rv2, p2, _⟩ := I.list hqy
    obtain ⟨its3, rv3, p3, _⟩ := I.list hqz
    have l1 := rv.length
    have l2 := rv2.length
    have l3 := rv3.length
    exact wpAny_pyNext_zipD3_end D (draws_from (A := X.A.in1) (I.ok.hd hc) i1 a n1 its.toArray i) (draws_from (A := X.A.in1) (I.ok.hd hc) i2 b n2 its2.toArray i) (draws_from (A := X.A.in1) (I.ok.hd hc) i3 c n3 its3.toArray i)
      hz hTI hTO ⟨Nat.le_refl i, h1, p.isList⟩ ⟨Nat.le_refl i, h2, p2.isList⟩ ⟨Nat.le_refl i, h3, p3.isList⟩ (by simp; omega) (by simp; omega) (by simp; omega) (by simp; omega) fun h' tk hk => ⟨rfl, I.turnedL (t' := tk) (ch := [z, TI, TO, i1, i2, i3]) (fun c o hb q =>
        hk c o (fun q' => hb (by simp [q'])) (fun q' => hb (by simp [q'])) (fun q' => hb (by simp [q'])) (fun q' => hb (by simp [q'])) (fun q' => hb (by simp [q'])) q) hf⟩
  self := fun A i s Q E st h => wpAny_pyIter_zip st.1 h
def iZip3 (K : PySem.W.Frag) (ta : TA) : TI := fun σ H R => ta σ H fun vs H1 => ∃ a b c xs ys zs, vs = [.ref a, .ref b, .ref c] ∧ SqL K H1 a xs ∧ SqL K H1 b ys ∧ SqL K H1 c zs ∧ R (Itz3 K a b c) H1
theorem neA {x y : Nat} (h : x ≠ y) : (x : Addr) ≠ y := h
theorem ninA {x y z : Nat} (h1 : x ≠ y) (h2 : x ≠ z) : (x : Addr) ∉ ([y, z] : List Addr) := fun h => by
  rcases List.mem_cons.mp h with h | h
  · exact h1 h
  · exact h2 (List.mem_singleton.mp h)
theorem sep3 {N a b c : Nat} (la : a < N) (lb : b < N) (lc : c < N) : ZipSep3 (N + 5) (N + 3) (N + 4) N (N + 1) (N + 2) [N, a] [N + 1, b] [N + 2, c] := by
  constructor <;> first
    | exact List.mem_cons_self
    | exact neA (by omega)
    | exact ninA (by omega) (by omega)
theorem pi_zip3 {X : Cx} {e e2 e3 : Expr} {ta : TA} {p pos tpos : Pos} {elts : List Expr} {kk : Nat} (hg : Gl X "zip") (hm : X.mg "zip" = none) (ha : PA X [e, e2, e3] ta)
    (hs : starEach [e, e2, e3] X.env = (false, eval e X.env) :: starEach [e2, e3] X.env := by rfl) (hpl : (backTo pos (starEach [e2, e3] X.env)).any (·.1) = false := by rfl) :
    PI X (.Tuple elts kk tpos) (.Call (.Name "zip" p) [e, e2, e3] [] pos) (iZip3 X.K ta) := by
  refine ⟨fun pins s σ H R I h => ?_⟩
  refine Call_ (ld_blt I hg hm PyProof.Rows.boot_zip (PyProof.Rows.callWith_type1 (thn (ha.run pos pins s σ H _ I h) fun us s1 ⟨vs, H1, I1, r1, q1⟩ => ?_) hs hpl))
  obtain ⟨a, b, c, xs, ys, zs, ex, hqx, hqy, hqz, q⟩ := q1
  subst ex
  cases r1 with
  | cons r rr =>
    cases rr with
    | cons r' rr =>
      cases rr with
      | cons r'' rr =>
        cases rr
        cases r
        cases r'
        cases r''
        obtain ⟨its, rv, p1, _⟩ := I1.list hqx
        obtain ⟨its2, rv2, p2, _⟩ := I1.list hqy
        obtain ⟨its3, rv3, p3, _⟩ := I1.list hqz
        have la : a < s1.heap.objs.size := p1.lt
        have lb : b < s1.heap.objs.size := p2.lt
        have lc : c < s1.heap.objs.size := p3.lt
        refine zip_begins3 (begins_list a its.toArray) (begins_list b its2.toArray) (begins_list c its3.toArray) p1.isList p2.isList p3.isList fun h' hz hTI hTO g1 g2 g3 hsz hk => wpAny_pyIter_zip hz ?_
        have I2 : L2.Inv X pins σ H1 { s1 with heap := h' } := I1.kept (t' := s1.toks) hk
        refine ⟨s1.heap.objs.size + 5, [s1.heap.objs.size + 5, s1.heap.objs.size + 3, s1.heap.objs.size + 4, s1.heap.objs.size, s1.heap.objs.size + 1, s1.heap.objs.size + 2], _, _, H1, rfl, I2, turn_zip3 (sep3 la lb lc) (Nat.ne_of_lt la) (Nat.ne_of_lt (Nat.lt_of_lt_of_le lb (Nat.le_add_right _ _))) (Nat.ne_of_lt (Nat.lt_of_lt_of_le lc (Nat.le_add_right _ _))), ⟨hz, hTI, ⟨_, _, _, hTO⟩, ⟨_, g1, rfl, rfl⟩, ⟨_, g2, rfl, rfl⟩, ⟨_, g3, rfl, rfl⟩⟩, fun d hd => ?_, q⟩
        have e' : d = s1.heap.objs.size + 5 ∨ d = s1.heap.objs.size + 3 ∨ d = s1.heap.objs.size + 4 ∨ d = s1.heap.objs.size ∨ d = s1.heap.objs.size + 1 ∨ d = s1.heap.objs.size + 2 := by simpa using hd
        have hle : s1.heap.objs.size ≤ d := by
          rcases e' with z | z | z | z | z | z
          · rw [z]; exact Nat.le_add_right _ _
          · rw [z]; exact Nat.le_add_right _ _
          · rw [z]; exact Nat.le_add_right _ _
          · rw [z]; exact Nat.le_refl _
          · rw [z]; exact Nat.le_add_right _ _
          · rw [z]; exact Nat.le_add_right _ _
        exact I1.fpOk hle (I1.hok.fresh hle)
def zip3D : List D → List D → List D → List D
  | x :: xs, y :: ys, z :: zs => D.lse [x, y, z] :: zip3D xs ys zs
  | _, _, _ => []
theorem zip3D_get : ∀ {xs ys zs : List D} {i : Nat} {d : D}, (zip3D xs ys zs)[i]? = some d → ∃ x y z, xs[i]? = some x ∧ ys[i]? = some y ∧ zs[i]? = some z ∧ d = .lse [x, y, z]
  | [], _, _, _, _, h => by simp [zip3D] at h
  | _ :: _, [], _, _, _, h => by simp [zip3D] at h
  | _ :: _, _ :: _, [], _, _, h => by simp [zip3D] at h
  | x :: xs, y :: ys, z :: zs, 0, _, h => by simp [zip3D] at h; exact ⟨x, y, z, rfl, rfl, rfl, h.symm⟩
  | x :: xs, y :: ys, z :: zs, i + 1, d, h => by
    obtain ⟨a, b, c, h1, h2, h3, h4⟩ := zip3D_get (xs := xs) (ys := ys) (zs := zs) (i := i) (by simpa [zip3D] using h)
    exact ⟨a, b, c, by simpa using h1, by simpa using h2, by simpa using h3, h4⟩
theorem zip3D_len : ∀ {xs ys zs : List D}, (zip3D xs ys zs).length = min (min xs.length ys.length) zs.length
  | [], _, _ => by simp [zip3D]
  | _ :: _, [], _ => by simp [zip3D]
  | _ :: _, _ :: _, [] => by simp [zip3D]
  | x :: xs, y :: ys, z :: zs => by simp only [zip3D, List.length_cons, zip3D_len (xs := xs) (ys := ys) (zs := zs)]; omega
def wiZip3 (t : WXs) : WI := fun env P => t env fun os env1 => ∃ ds es fs, tms os = some [.lst ds, .lst es, .lst fs] ∧ P (zip3D ds es fs) env1
section
variable {K : PySem.W.Frag} {mg : Str → Option Value} {hot : Pr} {H : Hp}
theorem items_zip3 {a b c : Addr} {vs ws us : List V} {ds es fs : List D} (h : LsF K hot H a vs) (r : Reps K mg hot H vs ds) (h2 : LsF K hot H b ws) (r2 : Reps K mg hot H ws es) (h3 : LsF K hot H c us) (r3 : Reps K mg hot H us fs) : ItemsOk K mg hot H (Itz3 K a b c) (zip3D ds es fs) where
  turn := fun hot' H' i d kp hh hd => by
    obtain ⟨y, z, u, hy, hz, hu, rfl⟩ := zip3D_get hd
    have h' := (kp.ls h).sq
    have h2' := (kp.ls h2).sq
    have h3' := (kp.ls h3).sq
    obtain ⟨v, hv, rv⟩ := r.get hy
    obtain ⟨w, hw, rw'⟩ := r2.get hz
    obtain ⟨x, hx, rx⟩ := r3.get hu
    refine ⟨⟨vs, ws, us, v, w, x, h', h2', h3', hv, hw, hx⟩, fun x H2 q => ?_⟩
    obtain ⟨T, p, p2, p3, rfl, n, rfl, q1, q2, q3⟩ := q
    have e1 := q1 vs h'
    rw [hv] at e1
    cases e1
    have e2 := q2 ws h2'
    rw [hw] at e2
    cases e2
    have e3 := q3 us h3'
    rw [hx] at e3
    cases e3
    exact ⟨StR.new_lse hh n (.cons (rv.mono kp) (.cons (rw'.mono kp) (.cons (rx.mono kp) .nil))), Step.new_fro n⟩
  stop := fun hot' H' i kp hi => ⟨vs, ws, us, (kp.ls h).sq, (kp.ls h2).sq, (kp.ls h3).sq, by rw [r.length, r2.length, r3.length]; rw [zip3D_len] at hi; omega⟩
theorem zip3_items {t : WXs} {σ : L2.St} {H : Hp} {R : It → Hp → Prop} (h : liftI K mg (wiZip3 t) σ H R) : iZip3 K (liftXs K mg t) σ H R := by
  obtain ⟨oh, τ, env, P, e0, S, t1, k⟩ := h
  refine ⟨oh, τ, env, _, e0, S, t1, fun vs os env1 H1 e1 a1 S1 s1 ⟨ds, es, fs, hr, p⟩ => ?_⟩
  have r := tms_reps S1 a1 hr fun c hc => List.mem_append_left _ hc
  rw [hot_cells] at r
  cases r with
  | cons r1 r2 =>
    cases r2 with
    | cons r2 r3 =>
      cases r3 with
      | cons r3 r4 =>
        cases r4
        cases r1 with
        | lst hl rs =>
          cases r2 with
          | lst hl2 rs2 =>
            cases r3 with
            | lst hl3 rs3 => exact ⟨_, _, _, _, _, _, rfl, hl.sq, hl2.sq, hl3.sq, k _ env1 H1 _ e1 S1.right (s1.lessR fun a ha => roots_app_sub a ha) (items_zip3 hl rs hl2 rs2 hl3 rs3) p⟩
end
end TL

/-! V13: comprehensions of two clauses -/
namespace TL
open PySem PySem.Spec PyProof.Rows L2
def lcO (vs : List Nat) (g : WG) (tt : WT) (it1 : WI) (vs1 : List Nat) (g1 : WG) (tt1 : WT) (te : WE) : List D → List D → EnvD → (List D → EnvD → Prop) → Prop
  | [], acc, env, C => C acc env
  | d :: ds, acc, env, C => g (fz d) env fun e1 => tt e1 fun b e2 => if b then it1 e2 fun ds1 e3 => lcD vs1 g1 tt1 te ds1 acc (wipeD e3 vs1) fun acc' e4 => lcO vs g tt it1 vs1 g1 tt1 te ds acc' (wipeD e4 vs) C
      else lcO vs g tt it1 vs1 g1 tt1 te ds acc (wipeD e2 vs) C
def wLc2 (it : WI) (vs : List Nat) (g : WG) (tt : WT) (it1 : WI) (vs1 : List Nat) (g1 : WG) (tt1 : WT) (te : WE) : WE := fun env P => it env fun ds env1 => lcO vs g tt it1 vs1 g1 tt1 te ds [] (wipeD env1 vs) fun acc env2 => P ⟨true, .lst acc⟩ (backD env1 env2 vs)
theorem wipe_wipe {σ : L2.St} {vs vs1 : List Nat} (h : ∀ i ∈ vs1, i ∈ vs) : wipe (wipe σ vs1) vs = wipe σ vs := by
  refine List.ext_getElem? fun i => ?_
  rw [wipe_get, wipe_get, wipe_get, wipe_length]
  by_cases hm : i ∈ vs
  · rw [if_pos hm, if_pos hm]
  · rw [if_neg hm, if_neg hm, if_neg fun z => hm (h i z)]
section
variable {K : PySem.W.Frag} {mg : Str → Option Value}
/-- the turns of a clause's loop, from whatever the list has ahead of them -/
theorem lc_turns {vs : List Nat} {g : WG} {tt : WT} {te : WE} {σ : L2.St} {env1 : EnvD} {oh : Pr} {τ : Lay} {L : Addr} {ds acc0 : List D} {H1 : Hp} {J : It} {C : List D → EnvD → Prop} (e1 : σ.length = env1.length)
    (S1 : StR K mg oh H1 ((some (.ref L), some ⟨true, .lst acc0⟩) :: (τ ++ σ.zip env1))) (I : ItemsOk K mg (hotL oh ((some (.ref L), some ⟨true, .lst acc0⟩) :: (τ ++ σ.zip env1))) H1 J ds) (p : lcD vs g tt te ds acc0 (wipeD env1 vs) C) :
    ∃ W : Nat → Nat → Hp → Prop, (∃ m, W 0 m H1) ∧ ∀ i m H', W i m H' →
      (J.stop i H' ∧ ∃ c envB acc, envB.length = env1.length ∧ StR K mg oh H' ((some (.ref L), some ⟨true, .lst acc⟩) :: ((τ ++ c) ++ (wipe σ vs).zip envB)) ∧
        Step ((some (.ref L), some ⟨true, .lst acc0⟩) :: (τ ++ σ.zip env1)) H1 ((some (.ref L), some ⟨true, .lst acc⟩) :: ((τ ++ c) ++ (wipe σ vs).zip envB)) H' ∧ C acc envB) ∨
      (J.go i H' ∧ ∃ Nx : Hp → Prop, (∀ H', Nx H' → ∃ m', m' < m ∧ W (i + 1) m' H') ∧ ∀ x H2, J.yld i H' x H2 → liftG K mg (lentC σ.length vs) g x (wipe σ vs) H2 fun σ2 H3 => wipe σ2 vs = wipe σ vs ∧ liftT K mg tt σ2 H3 fun b H4 =>
        if b = true then liftE K mg te σ2 H4 fun y H5 => ∃ acc, H5 L = some (.lst acc) ∧ acc.length < sizeLine ∧ Nx (upd H5 L (.lst (acc ++ [y]))) else Nx H4) := by
  obtain ⟨c, pc, bc⟩ := wipe_out' e1 vs
  have cp : ∀ acc : List D, (core ((some (V.ref L), some (⟨true, .lst acc⟩ : Val)) :: (τ ++ σ.zip env1))).Perm (core ((some (V.ref L), some (⟨true, .lst acc⟩ : Val)) :: ((τ ++ c) ++ (wipe σ vs).zip (wipeD env1 vs))) ++ []) := by
    intro acc
    rw [core_cons_some, core_cons_some, List.append_nil]
    refine List.Perm.cons _ ?_
    rw [List.append_assoc, core_append, core_append (A := τ)]
    exact pc.append_left _
  refine ⟨fun i m H' => m = ds.length - i ∧ i ≤ ds.length ∧ ∃ envB acc, envB.length = env1.length ∧ StR K mg oh H' ((some (.ref L), some ⟨true, .lst acc⟩) :: ((τ ++ c) ++ (wipe σ vs).zip envB)) ∧
      Step ((some (.ref L), some ⟨true, .lst acc0⟩) :: (τ ++ σ.zip env1)) H1 ((some (.ref L), some ⟨true, .lst acc⟩) :: ((τ ++ c) ++ (wipe σ vs).zip envB)) H' ∧ lcD vs g tt te (ds.drop i) acc envB C,
    ⟨ds.length, by simp, Nat.zero_le _, wipeD env1 vs, acc0, wipeD_len, S1.core (cp _), Step.refl.coreR (cp _), p⟩, ?_⟩
  rintro i m H' ⟨rfl, hi, envB, acc, hb, S', s', q⟩
  have kp : Keeps (hotL oh ((some (.ref L), some ⟨true, .lst acc0⟩) :: (τ ++ σ.zip env1))) (hotL oh ((some (.ref L), some ⟨true, .lst acc⟩) :: ((τ ++ c) ++ (wipe σ vs).zip envB))) H1 H' := by
    have := s'.keeps (oh := oh) (B := [])
    rw [List.append_nil, List.append_nil] at this
    exact this
  by_cases hlt : i < ds.length
  · rw [drop_cons_get hlt] at q
    obtain ⟨go, yl⟩ := I.turn _ H' i ds[i] kp (fun a ha => S'.hot_there ha) (List.getElem?_eq_getElem hlt)
    refine .inr ⟨go, fun H2 => ∃ envB acc, envB.length = env1.length ∧ StR K mg oh H2 ((some (.ref L), some ⟨true, .lst acc⟩) :: ((τ ++ c) ++ (wipe σ vs).zip envB)) ∧
      Step ((some (.ref L), some ⟨true, .lst acc0⟩) :: (τ ++ σ.zip env1)) H1 ((some (.ref L), some ⟨true, .lst acc⟩) :: ((τ ++ c) ++ (wipe σ vs).zip envB)) H2 ∧ lcD vs g tt te (ds.drop (i + 1)) acc envB C,
      fun H2 n => ⟨ds.length - (i + 1), by omega, rfl, hlt, n⟩, fun x H2 y => ?_⟩
    obtain ⟨T, st⟩ := yl x H2 y
    have S3 := S'.push T st
    refine ⟨oh, (some (.ref L), some ⟨true, .lst acc⟩) :: (τ ++ c), envB, fz ds[i], _, by rw [wipe_length, hb]; exact e1, S3, q, fun σ2 env2 H3 a1 a2 a3 S4 s4 q4 => ?_⟩
    have s4' : Step ((some (.ref L), some ⟨true, .lst acc⟩) :: ((τ ++ c) ++ (wipe σ vs).zip envB)) H' ((some (.ref L), some ⟨true, .lst acc⟩) :: ((τ ++ c) ++ σ2.zip env2)) H3 := st.push.trans s4
    have hw : wipe σ2 vs = wipe σ vs := wipe_eq a2 a3
    have l2 : env2.length = env1.length := by rw [← a1, a2, wipe_length]; exact e1
    have fin : ∀ {acc' : List D} {env3 : EnvD} {H5 : Hp}, σ2.length = env3.length → StR K mg oh H5 ((some (.ref L), some ⟨true, .lst acc'⟩) :: ((τ ++ c) ++ σ2.zip env3)) →
        Step ((some (.ref L), some ⟨true, .lst acc⟩) :: ((τ ++ c) ++ (wipe σ vs).zip envB)) H' ((some (.ref L), some ⟨true, .lst acc'⟩) :: ((τ ++ c) ++ σ2.zip env3)) H5 →
        lcD vs g tt te (ds.drop (i + 1)) acc' (wipeD env3 vs) C →
        ∃ envB acc, envB.length = env1.length ∧ StR K mg oh H5 ((some (.ref L), some ⟨true, .lst acc⟩) :: ((τ ++ c) ++ (wipe σ vs).zip envB)) ∧
          Step ((some (.ref L), some ⟨true, .lst acc0⟩) :: (τ ++ σ.zip env1)) H1 ((some (.ref L), some ⟨true, .lst acc⟩) :: ((τ ++ c) ++ (wipe σ vs).zip envB)) H5 ∧ lcD vs g tt te (ds.drop (i + 1)) acc envB C := by
      intro acc' env3 H5 b1 S5 s5 q5
      obtain ⟨c2, p2, _⟩ := wipe_out' b1 vs
      rw [hw] at p2
      have cp2 : (core ((some (V.ref L), some (⟨true, .lst acc'⟩ : Val)) :: ((τ ++ c) ++ σ2.zip env3))).Perm (core ((some (V.ref L), some (⟨true, .lst acc'⟩ : Val)) :: ((τ ++ c) ++ (wipe σ vs).zip (wipeD env3 vs))) ++ core c2) := by
        rw [core_cons_some, core_cons_some, List.cons_append]
        refine List.Perm.cons _ ?_
        rw [core_append, core_append (B := (wipe σ vs).zip (wipeD env3 vs)), List.append_assoc]
        refine (p2.append_left _).trans ?_
        rw [core_append (A := c2)]
        exact List.Perm.append_left _ List.perm_append_comm
      exact ⟨wipeD env3 vs, acc', by rw [wipeD_len, ← b1, a1, l2], S5.core cp2, (s'.trans s5).coreR cp2, q5⟩
    refine ⟨hw, oh, (some (.ref L), some ⟨true, .lst acc⟩) :: (τ ++ c), env2, _, a1, S4, q4, fun b env3 H4 b1 S5 s5 q5 => ?_⟩
    have s45 := s4'.trans s5
    cases b with
    | false => exact iteF (fin b1 S5 s45 (by simpa using q5))
    | true =>
      have q5 : te env3 fun val e3 => acc.length < 16777216 ∧ lcD vs g tt te (ds.drop (i + 1)) (acc ++ [val.d]) (wipeD e3 vs) C := by simpa using q5
      refine iteT ⟨oh, (some (.ref L), some ⟨true, .lst acc⟩) :: (τ ++ c), env3, _, b1, S5, q5, fun v val env4 H5 c1 S6 s6 ⟨hz, q6⟩ => ?_⟩
      have S6f : StR K mg oh H5 ((some v, some (fz val.d)) :: (some (.ref L), some ⟨true, .lst acc⟩) :: ((τ ++ c) ++ σ2.zip env4)) := S6.freeze
      have S7 : StR K mg oh H5 ((some (.ref L), some ⟨true, .lst acc⟩) :: ((τ ++ c) ++ σ2.zip env4)) := S6f.tail
      obtain ⟨w, ws, ew, _, hw2, rs⟩ := own_lst S7.head
      cases ew
      refine ⟨ws, hw2, by rw [slen, rs.length]; exact hz, ?_⟩
      have rv : Rep K mg (hotL oh ((some (.ref L), some ⟨true, .lst acc⟩) :: ((τ ++ c) ++ σ2.zip env4))) H5 v val.d := S6f.head_fro
      obtain ⟨S8, s8⟩ := S7.put_lst (rs.append (.cons rv .nil))
      have s67 : Step ((some (.ref L), some ⟨true, .lst acc⟩) :: ((τ ++ c) ++ (wipe σ vs).zip envB)) H' ((some (.ref L), some ⟨true, .lst acc⟩) :: ((τ ++ c) ++ σ2.zip env4)) H5 :=
        s45.trans (s6.lessR fun a ha => roots_cons_sub a ha)
      exact fin c1 S8 (s67.trans s8) q6
  · have e : i = ds.length := by omega
    subst e
    rw [List.drop_length] at q
    exact .inl ⟨I.stop _ H' _ kp (Nat.le_refl _), c, envB, acc, hb, S', s', q⟩
theorem lc2_lift {it it1 : WI} {vs vs1 : List Nat} {g g1 : WG} {tt tt1 : WT} {te : WE} {σ : L2.St} {H : Hp} {Q : VK} (hv : ∀ i ∈ vs1, i ∈ vs) (h : liftE K mg (wLc2 it vs g tt it1 vs1 g1 tt1 te) σ H Q) :
    tLc2 (liftI K mg it) (liftG K mg (lentC σ.length vs) g) (liftT K mg tt) (liftI K mg it1) (liftG K mg (lentC σ.length vs1) g1) (liftT K mg tt1) (liftE K mg te) vs vs1 σ H Q := by
  obtain ⟨oh, τ, env, P, e0, S, t1, k⟩ := h
  refine ⟨oh, τ, env, _, e0, S, t1, fun ds env1 H1 J e1 S1 s1 I p => ?_⟩
  intro L hL
  obtain ⟨c, pc, bc⟩ := wipe_out' e1 vs
  have cp : (core (τ ++ σ.zip env1)).Perm (core ((τ ++ c) ++ (wipe σ vs).zip (wipeD env1 vs)) ++ []) := by
    rw [List.append_nil, List.append_assoc, core_append, core_append (A := τ)]
    exact pc.append_left _
  have S1' : StR K mg oh H1 ((τ ++ c) ++ (wipe σ vs).zip (wipeD env1 vs)) := S1.core cp
  have hh1 : ∀ a, hotL oh ((τ ++ c) ++ (wipe σ vs).zip (wipeD env1 vs)) a → H1 a ≠ none := fun a ha => S1'.hot_there ha
  have S2 : StR K mg oh (upd H1 L (.lst [])) ((some (.ref L), some ⟨true, .lst []⟩) :: ((τ ++ c) ++ (wipe σ vs).zip (wipeD env1 vs))) :=
    S1'.push (StR.new_lst (vs := []) (ds := []) hh1 hL .nil) (Step.new_lst hL)
  have s2 : Step ((τ ++ c) ++ (wipe σ vs).zip (wipeD env1 vs)) H1 ((some (.ref L), some ⟨true, .lst []⟩) :: ((τ ++ c) ++ (wipe σ vs).zip (wipeD env1 vs))) (upd H1 L (.lst [])) := (Step.new_lst hL).push
  let C : List D → EnvD → Prop := fun acc env2 => P ⟨true, .lst acc⟩ (backD env1 env2 vs)
  refine ⟨fun i m H' => m = ds.length - i ∧ i ≤ ds.length ∧ ∃ c envB acc, (∀ envB : EnvD, envB.length = env1.length → ∃ E, (core (c ++ (wipe σ vs).zip envB)).Perm (core (σ.zip (backD env1 envB vs)) ++ E)) ∧ envB.length = env1.length ∧ StR K mg oh H' ((some (.ref L), some ⟨true, .lst acc⟩) :: ((τ ++ c) ++ (wipe σ vs).zip envB)) ∧
      Step (τ ++ σ.zip env1) H1 ((some (.ref L), some ⟨true, .lst acc⟩) :: ((τ ++ c) ++ (wipe σ vs).zip envB)) H' ∧ lcO vs g tt it1 vs1 g1 tt1 te (ds.drop i) acc envB C,
    ⟨ds.length, by simp, Nat.zero_le _, c, wipeD env1 vs, [], bc, wipeD_len, S2, ?_, p⟩, ?_⟩
  · exact s2.coreL (L' := τ ++ σ.zip env1) (by have := cp.symm; rw [List.append_nil] at this; exact this)
  clear S1' hh1 S2 s2 cp pc bc c
  rintro i m H' ⟨rfl, hi, c, envB, acc, bc, hb, S', s', q⟩
  have kp : Keeps (hotL oh (τ ++ σ.zip env1)) (hotL oh ((some (.ref L), some ⟨true, .lst acc⟩) :: ((τ ++ c) ++ (wipe σ vs).zip envB))) H1 H' := by
    have := s'.keeps (oh := oh) (B := [])
    rw [List.append_nil, List.append_nil] at this
    exact this
  by_cases hlt : i < ds.length
  · rw [drop_cons_get hlt] at q
    obtain ⟨go, yl⟩ := I.turn _ H' i ds[i] kp (fun a ha => S'.hot_there ha) (List.getElem?_eq_getElem hlt)
    refine .inr ⟨go, fun H2 => ∃ c envB acc, (∀ envB : EnvD, envB.length = env1.length → ∃ E, (core (c ++ (wipe σ vs).zip envB)).Perm (core (σ.zip (backD env1 envB vs)) ++ E)) ∧ envB.length = env1.length ∧ StR K mg oh H2 ((some (.ref L), some ⟨true, .lst acc⟩) :: ((τ ++ c) ++ (wipe σ vs).zip envB)) ∧
      Step (τ ++ σ.zip env1) H1 ((some (.ref L), some ⟨true, .lst acc⟩) :: ((τ ++ c) ++ (wipe σ vs).zip envB)) H2 ∧ lcO vs g tt it1 vs1 g1 tt1 te (ds.drop (i + 1)) acc envB C,
      fun H2 n => ⟨ds.length - (i + 1), by omega, rfl, hlt, n⟩, fun x H2 y => ?_⟩
    obtain ⟨T, st⟩ := yl x H2 y
    have S3 := S'.push T st
    refine ⟨oh, (some (.ref L), some ⟨true, .lst acc⟩) :: (τ ++ c), envB, fz ds[i], _, by rw [wipe_length, hb]; exact e1, S3, q, fun σ2 env2 H3 a1 a2 a3 S4 s4 q4 => ?_⟩
    have s4' : Step ((some (.ref L), some ⟨true, .lst acc⟩) :: ((τ ++ c) ++ (wipe σ vs).zip envB)) H' ((some (.ref L), some ⟨true, .lst acc⟩) :: ((τ ++ c) ++ σ2.zip env2)) H3 := st.push.trans s4
    have hw : wipe σ2 vs = wipe σ vs := wipe_eq a2 a3
    have l2 : env2.length = env1.length := by rw [← a1, a2, wipe_length]; exact e1
    have ls : σ2.length = σ.length := by rw [a2, wipe_length]
    -- a turn's end: the block's slots are forgotten
    have fin : ∀ {c' : Lay} {σ3 : L2.St} {acc' : List D} {env3 : EnvD} {H5 : Hp}, σ3.length = env3.length → σ3.length = σ2.length → wipe σ3 vs = wipe σ vs → StR K mg oh H5 ((some (.ref L), some ⟨true, .lst acc'⟩) :: ((τ ++ c ++ c') ++ σ3.zip env3)) →
        Step ((some (.ref L), some ⟨true, .lst acc⟩) :: ((τ ++ c) ++ (wipe σ vs).zip envB)) H' ((some (.ref L), some ⟨true, .lst acc'⟩) :: ((τ ++ c ++ c') ++ σ3.zip env3)) H5 →
        lcO vs g tt it1 vs1 g1 tt1 te (ds.drop (i + 1)) acc' (wipeD env3 vs) C →
        ∃ c envB acc, (∀ envB : EnvD, envB.length = env1.length → ∃ E, (core (c ++ (wipe σ vs).zip envB)).Perm (core (σ.zip (backD env1 envB vs)) ++ E)) ∧ envB.length = env1.length ∧ StR K mg oh H5 ((some (.ref L), some ⟨true, .lst acc⟩) :: ((τ ++ c) ++ (wipe σ vs).zip envB)) ∧
          Step (τ ++ σ.zip env1) H1 ((some (.ref L), some ⟨true, .lst acc⟩) :: ((τ ++ c) ++ (wipe σ vs).zip envB)) H5 ∧ lcO vs g tt it1 vs1 g1 tt1 te (ds.drop (i + 1)) acc envB C := by
      intro c' σ3 acc' env3 H5 b1 b2 hw3 S5 s5 q5
      obtain ⟨c2, p2, _⟩ := wipe_out' b1 vs
      rw [hw3] at p2
      have cp2 : (core ((some (V.ref L), some (⟨true, .lst acc'⟩ : Val)) :: ((τ ++ c ++ c') ++ σ3.zip env3))).Perm (core ((some (V.ref L), some (⟨true, .lst acc'⟩ : Val)) :: ((τ ++ c) ++ (wipe σ vs).zip (wipeD env3 vs))) ++ core (c' ++ c2)) := by
        rw [core_cons_some, core_cons_some, List.cons_append]
        refine List.Perm.cons _ ?_
        rw [core_append, core_append (A := τ ++ c), core_append (A := τ ++ c) (B := (wipe σ vs).zip (wipeD env3 vs)), core_append (A := c'), List.append_assoc, List.append_assoc]
        refine List.Perm.append_left _ ?_
        rw [core_append (A := c2)] at p2
        refine (p2.append_left _).trans ?_
        rw [← List.append_assoc]
        exact List.perm_append_comm
      exact ⟨c, wipeD env3 vs, acc', bc, by rw [wipeD_len, ← b1, b2, a1, l2], S5.core cp2, (s'.trans s5).coreR cp2, q5⟩
    refine ⟨hw, oh, (some (.ref L), some ⟨true, .lst acc⟩) :: (τ ++ c), env2, _, a1, S4, q4, fun b env3 H4 b1 S5 s5 q5 => ?_⟩
    have s45 := s4'.trans s5
    cases b with
    | false =>
      refine iteF (fin (c' := []) b1 rfl hw ?_ ?_ (by simpa using q5))
      · rw [List.append_nil]; exact S5
      · rw [List.append_nil]; exact s45
    | true =>
      have q5 : it1 env3 fun ds1 e3 => lcD vs1 g1 tt1 te ds1 acc (wipeD e3 vs1) fun acc' e4 => lcO vs g tt it1 vs1 g1 tt1 te (ds.drop (i + 1)) acc' (wipeD e4 vs) C := by simpa using q5
      refine iteT ⟨oh, (some (.ref L), some ⟨true, .lst acc⟩) :: (τ ++ c), env3, _, b1, S5, q5, fun ds1 env4 H5 J1 d1 S6 s6 I1 p1 => ?_⟩
      have S6' : StR K mg oh H5 ((some (.ref L), some ⟨true, .lst acc⟩) :: ((τ ++ c) ++ σ2.zip env4)) := S6
      have s6' : Step ((some (.ref L), some ⟨true, .lst acc⟩) :: ((τ ++ c) ++ (wipe σ vs).zip envB)) H' ((some (.ref L), some ⟨true, .lst acc⟩) :: ((τ ++ c) ++ σ2.zip env4)) H5 := s45.trans s6
      obtain ⟨W1, w0, turn⟩ := lc_turns (vs := vs1) d1 S6' I1 p1
      refine ⟨W1, w0, fun j k H7 w1 => ?_⟩
      rcases turn j k H7 w1 with ⟨st1, c', envC, acc', hl, S7, s7, q7⟩ | ⟨go1, Nx1, n1, t⟩
      · refine .inl ⟨st1, fin (c' := c') (σ3 := wipe σ2 vs1) (by rw [wipe_length, hl]; exact d1) (wipe_length _ _) (by rw [wipe_wipe hv, hw]) S7 (s6'.trans s7) q7⟩
      · rw [← ls]
        exact .inr ⟨go1, Nx1, n1, t⟩
  · have e : i = ds.length := by omega
    subst e
    rw [List.drop_length] at q
    refine .inl ⟨I.stop _ H' _ kp (Nat.le_refl _), ?_⟩
    obtain ⟨E, pb⟩ := bc envB hb
    have cpb : (core ((some (V.ref L), some (⟨true, .lst acc⟩ : Val)) :: ((τ ++ c) ++ (wipe σ vs).zip envB))).Perm (core ((some (V.ref L), some (⟨true, .lst acc⟩ : Val)) :: (τ ++ σ.zip (backD env1 envB vs))) ++ E) := by
      rw [core_cons_some, core_cons_some, List.cons_append]
      refine List.Perm.cons _ ?_
      rw [List.append_assoc, core_append, core_append (A := τ), List.append_assoc]
      exact pb.append_left _
    exact k _ _ (backD env1 envB vs) H' (by rw [backD_len, hb]; exact e1) (S'.core cpb) ((s1.trans s').coreR cpb) q
end
end TL

/-! V14: an own dict of own lists: d.setdefault(k, []).m(..) -/
namespace TL
open PySem PySem.Spec PyProof.Rows L2
/-- where a key stands -/
def idxK : List D → Key → Option Nat
  | [], _ => none
  | k :: ks, x => if keyU k = some x then some 0 else (idxK ks x).map (· + 1)
theorem idx_val : ∀ {kvs : List (Key × V)} {x : Key}, (∀ j, idxK (kvs.map fun p => keyD p.1) x = some j → ∃ v, (kvs.map (·.2))[j]? = some v ∧ valV kvs x = some v) ∧ (idxK (kvs.map fun p => keyD p.1) x = none → valV kvs x = none)
  | [], x => ⟨fun j h => by simp [idxK] at h, fun _ => rfl⟩
  | p :: r, x => by
    obtain ⟨h1, h2⟩ := idx_val (kvs := r) (x := x)
    have e : idxK ((p :: r).map fun p => keyD p.1) x = if p.1 = x then some 0 else (idxK (r.map fun p => keyD p.1) x).map (· + 1) := by
      show (if keyU (keyD p.1) = some x then some 0 else _) = _
      rw [keyU_keyD]
      by_cases q : p.1 = x
      · rw [if_pos q, if_pos (by rw [q])]
      · rw [if_neg q, if_neg fun z => q (Option.some.inj z)]
    rw [e]
    by_cases q : p.1 = x
    · rw [if_pos q]
      exact ⟨fun j hj => by cases hj; exact ⟨p.2, rfl, valV_pos q⟩, fun z => nomatch z⟩
    · rw [if_neg q, valV_neg q]
      refine ⟨fun j hj => ?_, fun z => h2 (by simpa using z)⟩
      obtain ⟨i, hi, rfl⟩ := Option.map_eq_some_iff.mp hj
      obtain ⟨v, a, b⟩ := h1 i hi
      exact ⟨v, by simpa using a, b⟩
section
variable {K : PySem.W.Frag} {mg : Str → Option Value} {hot hot' oh : Pr} {H H' : Hp} {L : Lay}
theorem RepBs.snoc {v : V} {d : D} (h : RepB K mg hot H v d) : ∀ {vs : List V} {ds : List D}, RepBs K mg hot H vs ds → RepBs K mg hot H (vs ++ [v]) (ds ++ [d])
  | _, _, .nil => .cons h .nil
  | _, _, .cons r t => .cons r (RepBs.snoc h t)
/-- a new key with its own list -/
theorem StR.put_key {a p : Addr} {kvs : List (Key × V)} {ks ds xs : List D} {key : Key} (S : StR K mg oh H ((some (.ref p), some ⟨true, .lst xs⟩) :: (some (.ref a), some ⟨true, .box (.dic ks ds)⟩) :: L)) (ha : H a = some (.dK kvs)) (hk : keyOk key) (hn : valV kvs key = none) :
    StR K mg oh (upd H a (.dK (putK kvs key (.ref p)))) ((some (.ref a), some ⟨true, .box (.dic (ks ++ [keyD key]) (ds ++ [.own p xs]))⟩) :: L) ∧
    Step ((some (.ref p), some ⟨true, .lst xs⟩) :: (some (.ref a), some ⟨true, .box (.dic ks ds)⟩) :: L) H ((some (.ref a), some ⟨true, .box (.dic (ks ++ [keyD key]) (ds ++ [.own p xs]))⟩) :: L) (upd H a (.dK (putK kvs key (.ref p)))) := by
  have r1 : roots ((some (V.ref p), some ⟨true, .lst xs⟩) :: (some (V.ref a), some ⟨true, .box (.dic ks ds)⟩) :: L) = p :: a :: (ds.flatMap TL.own1 ++ roots L) := by rw [roots_own, roots_ownG]; rfl
  have r2 : roots ((some (V.ref a), some ⟨true, .box (.dic (ks ++ [keyD key]) (ds ++ [.own p xs]))⟩) :: L) = a :: ((ds.flatMap TL.own1 ++ [p]) ++ roots L) := by
    rw [roots_ownG]
    show a :: ((ds ++ [D.own p xs]).flatMap TL.own1 ++ roots L) = _
    rw [List.flatMap_append]
    rfl
  have pm : (a :: ((ds.flatMap TL.own1 ++ [p]) ++ roots L)).Perm (p :: a :: (ds.flatMap TL.own1 ++ roots L)) := by
    refine (List.Perm.cons a ?_).trans (List.Perm.swap p a _)
    rw [List.append_assoc]
    exact List.perm_middle
  have mem : ∀ b, b ∈ roots ((some (V.ref a), some ⟨true, .box (.dic (ks ++ [keyD key]) (ds ++ [.own p xs]))⟩) :: L) ↔ b ∈ roots ((some (V.ref p), some ⟨true, .lst xs⟩) :: (some (V.ref a), some ⟨true, .box (.dic ks ds)⟩) :: L) := fun b => by rw [r1, r2]; exact pm.mem_iff
  have hh : hotL oh ((some (V.ref a), some ⟨true, .box (.dic (ks ++ [keyD key]) (ds ++ [.own p xs]))⟩) :: L) = hotL oh ((some (V.ref p), some ⟨true, .lst xs⟩) :: (some (V.ref a), some ⟨true, .box (.dic ks ds)⟩) :: L) := by
    funext b
    apply propext
    unfold hotL
    rw [mem b]
  have nd := S.nd
  rw [r1] at nd
  obtain ⟨np, nd2⟩ := List.nodup_cons.mp nd
  obtain ⟨na, nd3⟩ := List.nodup_cons.mp nd2
  have ain : a ∈ roots ((some (V.ref p), some ⟨true, .lst xs⟩) :: (some (V.ref a), some ⟨true, .box (.dic ks ds)⟩) :: L) := by rw [r1]; simp
  have kp : Keeps (hotL oh ((some (V.ref p), some ⟨true, .lst xs⟩) :: (some (V.ref a), some ⟨true, .box (.dic ks ds)⟩) :: L)) (hotL oh ((some (V.ref p), some ⟨true, .lst xs⟩) :: (some (V.ref a), some ⟨true, .box (.dic ks ds)⟩) :: L)) H (upd H a (.dK (putK kvs key (.ref p)))) :=
    ⟨fun b o e n => by rw [upd_ne fun z => n (by rw [z]; exact .inr ain)]; exact e, fun _ _ _ n => n⟩
  have pa : p ≠ a := fun e => np (by rw [e]; exact List.mem_cons_self)
  have rp := S.head
  have ra : VR K mg (hotL oh ((some (V.ref p), some ⟨true, .lst xs⟩) :: (some (V.ref a), some ⟨true, .box (.dic ks ds)⟩) :: L)) H (.ref a) ⟨true, .box (.dic ks ds)⟩ := by
    obtain ⟨w, e, q⟩ := S.all (some (V.ref a), some ⟨true, .box (.dic ks ds)⟩) (List.mem_cons_of_mem _ List.mem_cons_self) _ rfl
    cases e
    exact q
  refine ⟨⟨fun c hc x hx => ?_, by rw [r2]; exact pm.nodup_iff.mpr nd, fun b hb => S.dj b ((mem b).mp hb), hot_upd S.tr⟩, ⟨fun b o e n => ?_, fun b hb => .inl ((mem b).mp hb), fun b e => ?_⟩⟩
  · rw [hh]
    rcases List.mem_cons.mp hc with rfl | hc
    · cases hx
      refine ⟨_, rfl, ?_⟩
      cases ra with
      | boxD h1 h2 ek rs =>
        rw [ha] at h2
        cases h2
        have e2 : putK kvs key (V.ref p) = kvs ++ [(key, .ref p)] := putK_new _ hn
        refine .boxD h1 upd_same ⟨?_, fun c hc => ?_⟩ ?_
        · rw [e2, ek.eq, List.map_append]; rfl
        · rw [e2] at hc
          rcases List.mem_append.mp hc with hc | hc
          · exact ek.ok c hc
          · rw [List.mem_singleton.mp hc]; exact hk
        · have e3 : (putK kvs key (V.ref p)).map (·.2) = kvs.map (·.2) ++ [V.ref p] := by rw [e2, List.map_append]; rfl
          rw [e3]
          refine RepBs.snoc ?_ (rs.mono kp fun b hb => ⟨(rs.isHot b hb).1, upd_ne fun z => na (by rw [← z]; exact List.mem_append_left _ hb)⟩)
          cases rp with
          | lst g1 g2 g3 => exact .own g1 ((upd_ne pa).trans g2) (g3.mono kp)
    · obtain ⟨w, e, q⟩ := S.all c (List.mem_cons_of_mem _ (List.mem_cons_of_mem _ hc)) x hx
      refine ⟨w, e, q.mono kp fun b hb => ?_⟩
      have hb2 : b ∈ roots L := mem_roots.mpr ⟨c, hc, by rw [cell_eq hx e]; exact hb⟩
      exact ⟨.inr (by rw [r1]; exact List.mem_cons_of_mem _ (List.mem_cons_of_mem _ (List.mem_append_right _ hb2))), upd_ne fun z => na (by rw [← z]; exact List.mem_append_right _ hb2)⟩
  · rw [upd_ne fun z => n (by rw [z]; exact ain)]; exact e
  · by_cases q : b = a
    · subst q; rw [upd_same]; simp
    · rw [upd_ne q]; exact e
theorem slot_key {σ : L2.St} {env : EnvD} {τ : Lay} {i : Nat} {p : Addr} {ks ds xs : List D} (e0 : σ.length = env.length) (S : StR K mg oh H ((some (.ref p), some ⟨true, .lst xs⟩) :: (τ ++ σ.zip env))) (hx : env[i]? = some (some ⟨true, .box (.dic ks ds)⟩)) :
    ∃ a kvs, σ[i]? = some (some (.ref a)) ∧ H a = some (.dK kvs) ∧ KsOf kvs ks ∧ ∀ key, keyOk key → valV kvs key = none →
      StR K mg oh (upd H a (.dK (putK kvs key (.ref p)))) (τ ++ σ.zip (env.set i (some ⟨true, .box (.dic (ks ++ [keyD key]) (ds ++ [.own p xs]))⟩))) ∧
      Step ((some (.ref p), some ⟨true, .lst xs⟩) :: (τ ++ σ.zip env)) H (τ ++ σ.zip (env.set i (some ⟨true, .box (.dic (ks ++ [keyD key]) (ds ++ [.own p xs]))⟩))) (upd H a (.dK (putK kvs key (.ref p)))) := by
  obtain ⟨v, hv, r⟩ := get_slot (τ := (some (.ref p), some ⟨true, .lst xs⟩) :: τ) e0 S hx
  cases r with
  | boxD h1 h2 ek rs =>
    rename_i a kvs
    refine ⟨a, kvs, hv, h2, ek, fun key hk hn => ?_⟩
    obtain ⟨A, B, e1, e2⟩ := zip_split e0 hv hx
    have hset : σ.set i (some (.ref a)) = σ := by
      obtain ⟨hi, he⟩ := List.getElem?_eq_some_iff.mp hv
      rw [← he]; exact List.set_getElem_self hi
    have p1 : ((some (V.ref p), some ⟨true, .lst xs⟩) :: (τ ++ σ.zip env)).Perm ((some (V.ref p), some ⟨true, .lst xs⟩) :: (some (V.ref a), some ⟨true, .box (.dic ks ds)⟩) :: (τ ++ (A ++ B))) := by rw [e1]; exact List.Perm.cons _ perm_mid
    obtain ⟨g1, g2⟩ := (S.perm p1).put_key h2 hk hn
    have e3 := e2 (some (.ref a)) (some ⟨true, .box (.dic (ks ++ [keyD key]) (ds ++ [.own p xs]))⟩)
    rw [hset] at e3
    have p2 : (τ ++ σ.zip (env.set i (some ⟨true, .box (.dic (ks ++ [keyD key]) (ds ++ [.own p xs]))⟩))).Perm ((some (V.ref a), some ⟨true, .box (.dic (ks ++ [keyD key]) (ds ++ [.own p xs]))⟩) :: (τ ++ (A ++ B))) := by rw [e3]; exact perm_mid
    exact ⟨g1.perm p2.symm, (g2.permL p1.symm).permR p2.symm⟩
/-! ### a method of an item of a box, the item already at hand -/
theorem mutG_fin {r : V → List V → Hp → VK → Prop} {s : SMu} (hl : MutL K mg r s) {τ L0 : Lay} {env1 : EnvD} {σ : L2.St} {i j : Nat} {c : D} {ds xs as : List D} {b : Addr} {vs : List V} {os : List Opd} {H0 H1 : Hp} {P : Val → EnvD → Prop} {Q : VK} (e1 : σ.length = env1.length) (a1 : OpdsAt σ vs os)
    (S1 : StR K mg oh H1 (cells vs os ++ (τ ++ σ.zip env1))) (s1 : Step L0 H0 (cells vs os ++ (τ ++ σ.zip env1)) H1) (hx : env1[i]? = some (some ⟨true, .box c⟩)) (hc : BoxOf c ds) (hj : ds[j]? = some (.own b xs)) (ht : tms os = some as)
    (q : s (.lst xs) as fun d' val => ∃ ys, d' = .lst ys ∧ P val (env1.set i (some ⟨true, .box (bwith c (ds.set j (.own b ys)))⟩)))
    (k : ∀ v val env' H', σ.length = env'.length → StR K mg oh H' ((some v, some val) :: (τ ++ σ.zip env')) → Step L0 H0 ((some v, some val) :: (τ ++ σ.zip env')) H' → P val env' → Q v H') : r (.ref b) vs H1 Q := by
  have rs := tms_reps S1 a1 ht fun c hc => List.mem_append_left _ hc
  rw [hot_cells] at rs
  obtain ⟨a, ha, rb, hb, ⟨vs0, hv0, r0⟩, put⟩ := slot_box (τ := τ) e1 S1.right hx hc hj
  have s1' : Step L0 H0 (τ ++ σ.zip env1) H1 := s1.lessR fun a ha => by rw [roots_cells]; exact ha
  refine hl.2 _ H1 b vs (.lst xs) as _ Q (fun a ha => S1.right.hot_there ha) (.lst hb hv0 r0) rs q fun d' o' v dv hb2 ⟨ys, hd, p⟩ mk rv => ?_
  subst hd
  have kp0 : Keeps (hotL oh (τ ++ σ.zip env1)) (hotL oh (τ ++ σ.zip env1)) H1 (upd H1 b o') := ⟨fun x o e n => by rw [upd_ne fun z => n (by rw [z]; exact hb)]; exact e, fun _ _ _ n => n⟩
  have m := mk _ _ kp0 hb upd_same
  obtain ⟨b', ws, eb, _, h2, rws⟩ := own_lst m
  cases eb
  rw [upd_same] at h2
  cases h2
  obtain ⟨S2, s2⟩ := put ws ys rws
  have kp := s2.keeps (oh := oh) (B := [])
  rw [List.append_nil, List.append_nil] at kp
  exact k v (fz dv) _ _ (by rw [List.length_set]; exact e1) (S2.push (StR.one_fro (fun a ha => S2.hot_there ha) (rv _ _ kp)) Step.one_fro) ((s1'.trans s2).trans Step.one_fro.push) p
/-- behind setdefault: the list at j, whose address is b, is asked to do s -/
def sdaR (s : SMu) (i : Nat) (ts : WXs) (j : Nat) (b : Addr) (P : Val → EnvD → Prop) : EnvD → Prop := fun env => ts env fun os env1 => ∃ ks ds xs as, env1[i]? = some (some ⟨true, .box (.dic ks ds)⟩) ∧ ds[j]? = some (.own b xs) ∧ tms os = some as ∧
  s (.lst xs) as fun d' val => ∃ ys, d' = .lst ys ∧ P val (env1.set i (some ⟨true, .box (.dic ks (ds.set j (.own b ys)))⟩))
/-- d.setdefault(k, []).m(..), d an own dict of own lists -/
def wSda (s : SMu) (i : Nat) (tk tn : WE) (ts : WXs) : WE := fun env P => (∃ ks ds, env[i]? = some (some ⟨true, .box (.dic ks ds)⟩)) ∧ tk env fun kv env1 => tn env1 fun nv env2 => ∃ ks ds key, nv = ⟨true, .lst []⟩ ∧ env2[i]? = some (some ⟨true, .box (.dic ks ds)⟩) ∧ keyU kv.d = some key ∧ ks.length < 16777216 ∧
  (∀ j, idxK ks key = some j → ∃ b xs, ds[j]? = some (.own b xs) ∧ sdaR s i ts j b P env2) ∧ (idxK ks key = none → ∀ b, sdaR s i ts ds.length b P (env2.set i (some ⟨true, .box (.dic (ks ++ [keyD key]) (ds ++ [.own b []]))⟩)))
theorem sda_lift {r : V → List V → Hp → VK → Prop} {s : SMu} (hl : MutL K mg r s) {i : Nat} {tk tn : WE} {ts : WXs} {σ : L2.St} {Q : VK} (h : liftE K mg (wSda s i tk tn ts) σ H Q) :
    tBM K "list" r (tDSetd (tVar i) (liftE K mg tk) (liftE K mg tn)) (liftXs K mg ts) σ H Q := by
  obtain ⟨oh, τ, env, P, e0, S, ⟨⟨ks0, ds0, hx0⟩, t⟩, k⟩ := h
  obtain ⟨v0, hv0, r0⟩ := get_slot e0 S hx0
  have hd0 : ∃ a, v0 = .ref a ∧ IsD H a := by
    cases r0 with
    | boxD h1 h2 ek rs => exact ⟨_, rfl, .inl ⟨_, .inl h2⟩⟩
  obtain ⟨a, rfl, isd⟩ := hd0
  refine ⟨_, hv0, a, rfl, isd, oh, τ, env, _, e0, S, t, fun kv kval env1 H1 e1 S1 s1 t1 => ?_⟩
  refine ⟨oh, (some kv, some kval) :: τ, env1, _, e1, S1, t1, fun z nv env2 H2 e2 S2 s2 ⟨ks, ds, key, hnv, hx, hk, hlen, q1, q2⟩ => ?_⟩
  subst hnv
  -- the key
  have S2k : StR K mg oh H2 ((some kv, some kval) :: (τ ++ σ.zip env2)) := (show StR K mg oh H2 ((some z, some ⟨true, .lst []⟩) :: (some kv, some kval) :: (τ ++ σ.zip env2)) from S2).tail
  have rk : VRo K mg (hotL oh ((some kv, some kval) :: (τ ++ σ.zip env2))) H2 kv kval.d := ⟨kval.own, S2k.head⟩
  have ekv : kv = kV key := key_V hk rk
  have hkok : keyOk key := by
    cases key with
    | inl i => trivial
    | inr s =>
      have := keyU_eq hk
      rw [this] at rk
      exact rk.str.2
  -- the new list
  have S2a : StR K mg oh H2 ((some z, some ⟨true, .lst []⟩) :: (τ ++ σ.zip env2)) := by
    have p : ((some z, some (⟨true, .lst []⟩ : Val)) :: (some kv, some kval) :: (τ ++ σ.zip env2)).Perm ((some kv, some kval) :: (some z, some ⟨true, .lst []⟩) :: (τ ++ σ.zip env2)) := List.Perm.swap _ _ _
    exact (StR.perm S2 p).tail
  have s2a : Step (τ ++ σ.zip env) H ((some z, some ⟨true, .lst []⟩) :: (τ ++ σ.zip env2)) H2 := by
    refine (s1.trans s2).lessR fun b hb => ?_
    rw [show ((some z, some (⟨true, .lst []⟩ : Val)) :: ((some kv, some kval) :: τ ++ σ.zip env2)) = [(some z, some ⟨true, .lst []⟩)] ++ ((some kv, some kval) :: (τ ++ σ.zip env2)) from rfl]
    rcases mem_roots.mp hb with ⟨c, hc, hb⟩
    rcases List.mem_cons.mp hc with rfl | hc
    · exact mem_roots.mpr ⟨_, List.mem_cons_self, hb⟩
    · exact mem_roots.mpr ⟨c, List.mem_cons_of_mem _ (List.mem_cons_of_mem _ hc), hb⟩
  obtain ⟨p, vs0, rfl, _, hp2, _⟩ := own_lst S2a.head
  obtain ⟨a', kvs, hv2, ha2, ek, put⟩ := slot_key e2 S2a hx
  obtain rfl : a' = a := by
    rw [hv0] at hv2
    cases hv2
    rfl
  obtain ⟨iv1, iv2⟩ := idx_val (kvs := kvs) (x := key)
  rw [← ek.eq] at iv1 iv2
  have hkl : kvs.length < sizeLine := by
    have e := congrArg List.length ek.eq
    rw [List.length_map] at e
    rw [slen, ← e]
    exact hlen
  refine ⟨kvs, key, ha2, ekv, hkl, fun v hv => ?_, fun hv => ?_⟩
  · cases hi : idxK ks key with
    | none => rw [iv2 hi] at hv; cases hv
    | some j =>
      obtain ⟨w, hw, hw2⟩ := iv1 j hi
      rw [hv] at hw2
      cases hw2
      obtain ⟨b, xs, hj, q⟩ := q1 j hi
      have S3 : StR K mg oh H2 (τ ++ σ.zip env2) := S2a.tail
      have s3 : Step (τ ++ σ.zip env) H (τ ++ σ.zip env2) H2 := s2a.lessR fun b hb => roots_cons_sub b hb
      obtain ⟨v2, hv3, r3⟩ := get_slot e2 S3 hx
      rw [hv0] at hv3
      cases hv3
      have hvb : v = .ref b ∧ tyV K "list" (.ref b) H2 := by
        cases r3 with
        | boxD h1 h2 ek2 rs =>
          rw [ha2] at h2
          cases h2
          obtain ⟨u, hu, rb⟩ := rs.get hj
          rw [hw] at hu
          cases hu
          cases rb with
          | fro r => cases r
          | own g1 g2 g3 => exact ⟨rfl, .inl ⟨rfl, _, .inl (.inl g2)⟩⟩
      obtain ⟨rfl, hty⟩ := hvb
      exact ⟨hty, oh, τ, env2, _, e2, S3, q, fun vs os env3 H3 e3 a3 S4 s4 ⟨ks3, ds3, xs3, as, hx3, hj3, hr3, q3⟩ => mutG_fin hl e3 a3 S4 (s3.trans s4) hx3 .dic hj3 hr3 q3 k⟩
  · have hi : idxK ks key = none := by
      cases hi : idxK ks key with
      | none => rfl
      | some j =>
        obtain ⟨w, _, hw2⟩ := iv1 j hi
        rw [hv] at hw2
        cases hw2
    obtain ⟨S3, s3⟩ := put key hkok hv
    have q := q2 hi p
    have hne : p ≠ a' := by
      rintro rfl
      rw [hp2] at ha2
      cases ha2
    refine ⟨.inl ⟨rfl, vs0, .inl (.inl ?_)⟩, oh, τ, _, _, by rw [List.length_set]; exact e2, S3, q, fun vs os env3 H3 e3 a3 S4 s4 ⟨ks3, ds3, xs3, as, hx3, hj3, hr3, q3⟩ => mutG_fin hl e3 a3 S4 ((s2a.trans s3).trans s4) hx3 .dic hj3 hr3 q3 k⟩
    rw [upd_ne hne]
    exact hp2
/-- {} that own lists are put into -/
def wBnew : WE := fun env P => P ⟨true, .box (.dic [] [])⟩ env
theorem bnew_lift {σ : L2.St} {Q : VK} (h : liftE K mg wBnew σ H Q) : tDNewK σ H Q := by
  obtain ⟨oh, τ, env, P, e0, S, t, k⟩ := h
  intro p hp
  have T : StR K mg (hotL oh (τ ++ σ.zip env)) (upd H p (.dK [])) [(some (.ref p), some ⟨true, .box (.dic [] [])⟩)] := by
    refine ⟨fun q hq x hx => ?_, ?_, fun a ha => ?_, hot_upd fun a ha => S.hot_there ha⟩
    · obtain rfl := List.mem_singleton.mp hq
      cases hx
      exact ⟨_, rfl, .boxD (.inr (by rw [roots_ownG]; exact List.mem_cons_self)) upd_same ⟨rfl, fun _ z => nomatch z⟩ .nil⟩
    · rw [roots_ownG]; exact List.nodup_cons.mpr ⟨by simp [roots, TL.bx], by simp [roots, TL.bx]⟩
    · rw [roots_ownG] at ha
      have e : a = p := by simpa [roots, TL.bx] using ha
      rw [e]
      exact fun z => (S.hot_there z) hp
  have st : Step [] H [(some (V.ref p), some ⟨true, .box (.dic [] [])⟩)] (upd H p (.dK [])) := by
    refine ⟨fun a o e n => by rw [upd_ne fun z => by rw [z, hp] at e; cases e]; exact e, fun a ha => ?_, fun a e => ?_⟩
    · rw [roots_ownG] at ha
      have e : a = p := by simpa [roots, TL.bx] using ha
      rw [e]; exact .inr hp
    · by_cases z : a = p
      · rw [z, upd_same]; simp
      · rw [upd_ne z]; exact e
  exact k _ _ env _ e0 (S.push T st) st.push t
theorem slot_opn {σ : L2.St} {env : EnvD} {τ : Lay} {i : Nat} {x : Val} (e0 : σ.length = env.length) (S : StR K mg oh H (τ ++ σ.zip env)) (hx : env[i]? = some (some x)) :
    StR K mg oh H (τ ++ σ.zip (env.set i (some (opnV x)))) ∧ ∀ a ∈ roots (τ ++ σ.zip (env.set i (some (opnV x)))), a ∈ roots (τ ++ σ.zip env) := by
  obtain ⟨v, hv, r⟩ := get_slot e0 S hx
  obtain ⟨A, B, e1, e2⟩ := zip_split e0 hv hx
  have hset : σ.set i (some v) = σ := by
    obtain ⟨hi, he⟩ := List.getElem?_eq_some_iff.mp hv
    rw [← he]; exact List.set_getElem_self hi
  have p1 : (τ ++ σ.zip env).Perm ((some v, some x) :: (τ ++ (A ++ B))) := by rw [e1]; exact perm_mid
  obtain ⟨g1, g2⟩ := (S.perm p1).opn
  have e3 := e2 (some v) (some (opnV x))
  rw [hset] at e3
  have p2 : (τ ++ σ.zip (env.set i (some (opnV x)))).Perm ((some v, some (opnV x)) :: (τ ++ (A ++ B))) := by rw [e3]; exact perm_mid
  exact ⟨g1.perm p2.symm, fun a ha => (roots_perm p1).mpr (g2 a ((roots_perm p2).mp ha))⟩
/-- a slot's box opened, then read -/
def wOpv (i : Nat) : WE := fun env P => ∃ d, env[i]? = some (some ⟨true, .box d⟩) ∧ wVar i (env.set i (some (opnV ⟨true, .box d⟩))) P
theorem opv_lift {i : Nat} {σ : L2.St} {Q : VK} (h : liftE K mg (wOpv i) σ H Q) : liftE K mg (wVar i) σ H Q := by
  obtain ⟨oh, τ, env, P, e0, S, ⟨d, hx, t⟩, k⟩ := h
  obtain ⟨S2, sub⟩ := slot_opn e0 S hx
  have st : Step (τ ++ σ.zip env) H (τ ++ σ.zip (env.set i (some (opnV ⟨true, .box d⟩)))) H := Step.refl.lessR sub
  exact ⟨oh, τ, _, P, by rw [List.length_set]; exact e0, S2, t, fun v val env1 H1 e1 S1 s1 p => k v val env1 H1 e1 S1 (st.trans s1) p⟩
end
end TL

/-! V15: x in TABLE, of a written dict -/
namespace TL
open PySem PySem.Spec PyProof.Rows L2
/-- the keys of a written dict -/
def KeysAre : List DictEntry → List (Str × D) → Prop
  | [], [] => True
  | e :: es, k :: ks => (∃ t, e.key = .str k.1 t) ∧ KeysAre es ks
  | _, _ => False
theorem keys_miss {s : Str} : ∀ {es : List DictEntry} {tab : List (Str × D)}, KeysAre es tab → lookS s tab = none → es.find? (·.key.isStr s) = none ∧ es.any (·.refKey) = false
  | [], [], _, _ => ⟨rfl, rfl⟩
  | e :: es, k :: ks, ⟨⟨t, he⟩, h⟩, hl => by
    unfold lookS at hl
    split at hl
    · cases hl
    · rename_i hne
      obtain ⟨a, b⟩ := keys_miss h hl
      have h1 : e.key.isStr s = false := by
        rw [he]
        show (k.1 == s) = false
        exact beq_false_of_ne fun z => hne z.symm
      have h2 : e.refKey = false := by
        unfold DictEntry.refKey
        rw [he]
      exact ⟨by rw [List.find?_cons, h1]; exact a, by rw [List.any_cons, h2, b]; rfl⟩
  | [], _ :: _, h, _ => h.elim
  | _ :: _, [], h, _ => h.elim
/-- the table at a: all its keys -/
def TabK (K : PySem.W.Frag) (w : World) (a : Addr) (tab : List (Str × D)) : Prop := ∃ es n, KDict K w a es n ∧ ∀ s, lookS s tab = none → PySem.W.nsIn K a s = some none
theorem tabK_mk {K : PySem.W.Frag} {w : World} {a : Addr} {tab : List (Str × D)} {es : Array DictEntry} {n : Nat} (h1 : K.lookup a = some ⟨.type "dict", none, .dict es n, #[]⟩) (h2 : PySem.W.KeysLit w.params es.toList) (h3 : (a == sysModules) = false) (h4 : KeysAre es.toList tab) : TabK K w a tab := by
  refine ⟨es, n, ⟨h1, h2, h3⟩, fun s hs => ?_⟩
  obtain ⟨e1, e2⟩ := keys_miss h4 hs
  unfold PySem.W.nsIn
  rw [h1]
  show (match es.toList.find? (·.key.isStr s) with | some e => some (some e.val) | none => if es.toList.any (·.refKey) then none else some none) = _
  rw [e1, e2]
  rfl
def wGin (neg : Bool) (tab : List (Str × D)) (t : WX) : WE := fun env P => t env fun o env1 => ∃ s, o.res env1 = some (.str s) ∧ P (fz (.bl (if neg then !(lookS s tab).isSome else (lookS s tab).isSome))) env1
def rGin (K : PySem.W.Frag) (a : Addr) (neg : Bool) : R2 := fun x y H Q => ∃ (z : Str) (r : Option Value), x = .str z ∧ y = .ref a ∧ PySem.W.nsIn K a z = some r ∧ Q (.bl (if neg then !r.isSome else r.isSome)) H
theorem or_gin {X : Cx} {a : Addr} {es : Array DictEntry} {n : Nat} (D : KDict X.K X.w a es n) : OpR X (compareOp .In) (rGin X.K a false) := op_in_kd D
theorem or_gnot {X : Cx} {a : Addr} {es : Array DictEntry} {n : Nat} (D : KDict X.K X.w a es n) : OpR X (compareOp .NotIn) (rGin X.K a true) := op_notIn_kd D
section
variable {K : PySem.W.Frag} {mg : Str → Option Value} {w : World} {H : Hp} {Q : VK}
theorem gin_lift {a : Addr} {neg : Bool} {tab : List (Str × D)} (ht : ∀ s d, lookS s tab = some d → ∃ v, KDct K w a s v ∧ ∀ hot H, Rep K mg hot H v d) (hm : ∀ s, lookS s tab = none → PySem.W.nsIn K a s = some none) {t : WX} {σ : L2.St} (h : liftE K mg (wGin neg tab t) σ H Q) :
    tOp (rGin K a neg) (liftX K mg t) (tC (.ref a)) σ H Q := by
  obtain ⟨oh, τ, env, P, e0, S, t1, k⟩ := h
  refine ⟨oh, τ, env, _, e0, S, t1, fun v o env1 H1 e1 a1 S1 s1 ⟨s, rx, p⟩ => ?_⟩
  have hO : ∀ {L : Lay}, hotL oh ([o.cell v] ++ L) = hotL oh L := by intro L; exact hot_cell
  have S1' : StR K mg oh H1 ([o.cell v] ++ (τ ++ σ.zip env1)) := S1
  obtain ⟨rfl, _⟩ := (opd_reads e1 hO S1' a1 (by simp) rx).str
  have S2 := S1'.right
  have s2 : Step (τ ++ σ.zip env) H (τ ++ σ.zip env1) H1 := s1.lessR fun b hb => by rw [roots_cell]; exact hb
  have hr : ∃ r, PySem.W.nsIn K a s = some r ∧ r.isSome = (lookS s tab).isSome := by
    cases e : lookS s tab with
    | none => exact ⟨none, hm s e, rfl⟩
    | some d =>
      obtain ⟨u, ⟨es, n, u0, _, _, h3, _⟩, _⟩ := ht s d e
      exact ⟨some u0, h3, rfl⟩
  obtain ⟨r, hr1, hr2⟩ := hr
  refine ⟨s, r, rfl, rfl, hr1, ?_⟩
  rw [hr2]
  exact k _ _ env1 H1 e1 (S2.push (StR.one_fro (fun b hb => S2.hot_there hb) (.bl _)) Step.one_fro) (s2.trans Step.one_fro.push) p
end
end TL

/-! V16: xs.extend(own list) -/
namespace TL
open PySem PySem.Spec PyProof.Rows L2
def wExt (i : Nat) (te : WE) : WE := fun env P => (∃ ds, env[i]? = some (some ⟨true, .lst ds⟩)) ∧ te env fun val env1 => ∃ ds ys, env1[i]? = some (some ⟨true, .lst ds⟩) ∧ val = ⟨true, .lst ys⟩ ∧ ds.length + ys.length < 16777216 ∧ P (fz .non) (env1.set i (some ⟨true, .lst (ds ++ ys)⟩))
section
variable {K : PySem.W.Frag} {mg : Str → Option Value}
theorem ext_lift {i : Nat} {te : WE} {σ : L2.St} {H : Hp} {Q : VK} (h : liftE K mg (wExt i te) σ H Q) : tBM K "list" rExtend (tVar i) (tCons (liftE K mg te) tNil) σ H Q := by
  obtain ⟨oh, τ, env, P, e0, S, ⟨⟨ds0, hx0⟩, t1⟩, k⟩ := h
  obtain ⟨w, hw, r⟩ := get_slot e0 S hx0
  obtain ⟨a, vs, rfl, _, h2, _⟩ := own_lst r
  refine ⟨_, hw, .inl ⟨rfl, vs, .inl (.inl h2)⟩, oh, τ, env, _, e0, S, t1, fun v val env1 H1 e1 S1 s1 ⟨ds, ys, hx, hval, hz, p⟩ => ?_⟩
  subst hval
  obtain ⟨b, zs, rfl, _, hb2, rz⟩ := own_lst S1.head
  obtain ⟨b', ws, hb, g2, g3, put⟩ := slot_put (es := ds ++ ys) e1 S1.tail hx
  rw [hw] at hb
  cases hb
  have kp : Keeps (hotL oh ((some (V.ref b), some ⟨true, .lst ys⟩) :: (τ ++ σ.zip env1))) (hotL oh (τ ++ σ.zip env1)) H1 H1 :=
    ⟨fun _ _ e _ => e, fun c o _ n q => n (q.elim .inl fun q => .inr (roots_cons_sub c q))⟩
  refine ⟨a, b, ws, zs, rfl, rfl, g2, hb2, ?_, ?_⟩
  · have e : ws.length + zs.length = ds.length + ys.length := by rw [g3.length, rz.length]
    have hs : (16777216 : Nat) ≤ sizeLine := by rw [slen]; omega
    omega
  · obtain ⟨S3, s3⟩ := put _ (g3.append (rz.mono kp))
    exact k _ _ _ _ (by rw [List.length_set]; exact e1) (S3.push (StR.one_fro (fun c hc => S3.hot_there hc) .non) Step.one_fro) (((s1.lessR fun c hc => roots_cons_sub c hc).trans s3).trans Step.one_fro.push) p
end
end TL

/-! V17: for k in d, d an own dict: locked, then walked -/
namespace TL
open PySem PySem.Spec PyProof.Rows L2
def iKeysL (td : TE) : TI := fun σ H R => td σ H fun x H1 => ∃ d kvs, x = .ref d ∧ H1 d = some (.dK kvs) ∧ ∀ o, R (Itk d o kvs) (upd H1 d (.frz o (.dK kvs)))
theorem pi_keysL {X : Cx} {tg e : Expr} {td : TE} (he : PE X e td) : PI X tg e (iKeysL td) := by
  refine ⟨fun pins s σ H R I h => ?_⟩
  refine thn (he.run pins s σ H _ I h) fun u s1 ⟨x, H1, I0, rx, d, kvs, ex, hd, q⟩ => ?_
  subst ex
  obtain rfl : u = Value.ref d := rx
  obtain ⟨o, I1⟩ := I0.lock hd trivial
  have hd2 : upd H1 d (.frz o (.dK kvs)) d = some (.frz o (.dK kvs)) := upd_same
  obtain ⟨hs, hgd, hx, es, ep, vs, hdt, hsz, kv, hm⟩ := I1.frzK hd2
  refine iter_keys hs hgd hx hdt (pi_one (tk := s1.toks) I1 _ (turn_keys _ hdt) ⟨_, Heap.get?_push_size _ rfl, rfl, ?_⟩ (q o))
  rw [hsz] <;> rfl
section
variable {K : PySem.W.Frag} {mg : Str → Option Value} {hot oh : Pr} {H : Hp} {L : Lay}
theorem StR.lock {a : Addr} {ks ds : List D} (S : StR K mg oh H ((some (.ref a), some ⟨true, .dic ks ds⟩) :: L)) : ∃ kvs, H a = some (.dK kvs) ∧ ks = (kvs.map fun p => keyD p.1) ∧ (∀ p ∈ kvs, keyOk p.1) ∧
    ∀ o, StR K mg oh (upd H a (.frz o (.dK kvs))) ((some (.ref a), some (fz (.ldc ks ds))) :: L) ∧ Step ((some (.ref a), some ⟨true, .dic ks ds⟩) :: L) H ((some (.ref a), some (fz (.ldc ks ds))) :: L) (upd H a (.frz o (.dK kvs))) := by
  have r := S.head
  cases r with
  | dicK h1 h2 ek rs =>
    rename_i kvs
    refine ⟨kvs, h2, ek.eq, ek.ok, fun o => ?_⟩
    have nd := S.nd
    rw [roots_ownD] at nd
    obtain ⟨na, nd2⟩ := List.nodup_cons.mp nd
    have r2 : roots ((some (V.ref a), some (fz (D.ldc ks ds))) :: L) = roots L := roots_fro
    have ain : a ∈ roots ((some (V.ref a), some ⟨true, .dic ks ds⟩) :: L) := by rw [roots_ownD]; exact List.mem_cons_self
    have noh : ¬ oh a := S.dj a ain
    have hsub : ∀ c, hotL oh ((some (V.ref a), some (fz (D.ldc ks ds))) :: L) c → hotL oh ((some (V.ref a), some ⟨true, .dic ks ds⟩) :: L) c := fun c hc => hc.elim .inl fun q => .inr (by rw [r2] at q; rw [roots_ownD]; exact List.mem_cons_of_mem _ q)
    have kp : Keeps (hotL oh ((some (V.ref a), some ⟨true, .dic ks ds⟩) :: L)) (hotL oh ((some (V.ref a), some (fz (D.ldc ks ds))) :: L)) H (upd H a (.frz o (.dK kvs))) :=
      ⟨fun c u e n => by rw [upd_ne fun z => n (by rw [z]; exact .inr ain)]; exact e, fun c _ _ n q => n (hsub c q)⟩
    have cool : ¬ hotL oh ((some (V.ref a), some (fz (D.ldc ks ds))) :: L) a := fun q => q.elim noh fun z => na (by rw [r2] at z; exact z)
    refine ⟨⟨fun p hp x hx => ?_, by rw [r2]; exact nd2, fun c hc => S.dj c (by rw [r2] at hc; rw [roots_ownD]; exact List.mem_cons_of_mem _ hc), hot_upd S.tr⟩, ⟨fun c u e n => ?_, fun c hc => .inl (by rw [r2] at hc; rw [roots_ownD]; exact List.mem_cons_of_mem _ hc), fun c e => ?_⟩⟩
    · rcases List.mem_cons.mp hp with rfl | hp
      · cases hx
        exact ⟨_, rfl, .fro (.ldc cool upd_same ek (rs.mono kp))⟩
      · obtain ⟨w, e, q⟩ := S.all p (List.mem_cons_of_mem _ hp) x hx
        refine ⟨w, e, q.mono kp fun b hb => ?_⟩
        have hb2 : b ∈ roots L := mem_roots.mpr ⟨p, hp, by rw [cell_eq hx e]; exact hb⟩
        exact ⟨.inr (by rw [r2]; exact hb2), upd_ne fun z => na (by rw [← z]; exact hb2)⟩
    · rw [upd_ne fun z => n (by rw [z]; exact ain)]; exact e
    · by_cases q : c = a
      · subst q; rw [upd_same]; simp
      · rw [upd_ne q]; exact e
theorem slot_lock {σ : L2.St} {env : EnvD} {τ : Lay} {i : Nat} {ks ds : List D} (e0 : σ.length = env.length) (S : StR K mg oh H (τ ++ σ.zip env)) (hx : env[i]? = some (some ⟨true, .dic ks ds⟩)) :
    ∃ a kvs, σ[i]? = some (some (.ref a)) ∧ H a = some (.dK kvs) ∧ ks = (kvs.map fun p => keyD p.1) ∧ (∀ p ∈ kvs, keyOk p.1) ∧ ∀ o, StR K mg oh (upd H a (.frz o (.dK kvs))) (τ ++ σ.zip (env.set i (some (fz (.ldc ks ds))))) ∧
      Step (τ ++ σ.zip env) H (τ ++ σ.zip (env.set i (some (fz (.ldc ks ds))))) (upd H a (.frz o (.dK kvs))) ∧ ¬ hotL oh (τ ++ σ.zip (env.set i (some (fz (.ldc ks ds))))) a := by
  obtain ⟨v, hv, r⟩ := get_slot e0 S hx
  obtain ⟨a, rfl, _, _⟩ := r.own_root
  obtain ⟨A, B, e1, e2⟩ := zip_split e0 hv hx
  have hset : σ.set i (some (.ref a)) = σ := by
    obtain ⟨hi, he⟩ := List.getElem?_eq_some_iff.mp hv
    rw [← he]; exact List.set_getElem_self hi
  have p1 : (τ ++ σ.zip env).Perm ((some (.ref a), some ⟨true, .dic ks ds⟩) :: (τ ++ (A ++ B))) := by rw [e1]; exact perm_mid
  have S1 := S.perm p1
  obtain ⟨kvs, h1, h2, h3, put⟩ := S1.lock
  refine ⟨a, kvs, hv, h1, h2, h3, fun o => ?_⟩
  obtain ⟨g1, g2⟩ := put o
  have e3 := e2 (some (.ref a)) (some (fz (.ldc ks ds)))
  rw [hset] at e3
  have p2 : (τ ++ σ.zip (env.set i (some (fz (.ldc ks ds))))).Perm ((some (V.ref a), some (fz (.ldc ks ds))) :: (τ ++ (A ++ B))) := by rw [e3]; exact perm_mid
  have nd := S1.nd
  rw [roots_ownD] at nd
  refine ⟨g1.perm p2.symm, (g2.permL p1.symm).permR p2.symm, fun q => ?_⟩
  rcases q with q | q
  · exact S1.dj a (by rw [roots_ownD]; exact List.mem_cons_self) q
  · have q := (roots_perm p2).mp q
    rw [show roots ((some (V.ref a), some (fz (D.ldc ks ds))) :: (τ ++ (A ++ B))) = roots (τ ++ (A ++ B)) from roots_fro] at q
    exact (List.nodup_cons.mp nd).1 q
theorem items_keys {d : Addr} {o : Obj} {kvs : List (Key × V)} (hc : ¬ hot d) (hd : H d = some (.frz o (.dK kvs))) (hk : ∀ p ∈ kvs, keyOk p.1) : ItemsOk K mg hot H (Itk d o kvs) (kvs.map fun p => keyD p.1) where
  turn := fun hot' H' i x kp hh hx => by
    rw [List.getElem?_map] at hx
    obtain ⟨p, hp, rfl⟩ := Option.map_eq_some_iff.mp hx
    have hi : i < kvs.length := (List.getElem?_eq_some_iff.mp hp).1
    refine ⟨⟨kp.keep _ _ hd hc, hi⟩, fun y H2 q => ?_⟩
    obtain ⟨rfl, k, v, hkv, rfl⟩ := q
    rw [hp] at hkv
    cases hkv
    have rk : Rep K mg hot' H2 (kV k) (keyD k) := by
      have := hk _ (List.mem_of_getElem? hp)
      cases k with
      | inl i => exact .int i
      | inr s => exact .str s this
    exact ⟨StR.one_fro hh rk, Step.one_fro⟩
  stop := fun hot' H' i kp hi => ⟨kp.keep _ _ hd hc, by rw [List.length_map] at hi; exact hi⟩
/-- the keys of the own dict of a slot: the slot holds it locked behind -/
def wiKeys (i : Nat) : WI := fun env P => ∃ d ks ds, env[i]? = some (some ⟨true, d⟩) ∧ opnV ⟨true, d⟩ = ⟨true, .dic ks ds⟩ ∧ P ks (env.set i (some (fz (.ldc ks ds))))
theorem keys_items {i : Nat} {σ : L2.St} {R : It → Hp → Prop} (h : liftI K mg (wiKeys i) σ H R) : iKeysL (tVar i) σ H R := by
  obtain ⟨oh, τ, env, P, e0, S, ⟨d, ks, ds, hx, ho, p⟩, k⟩ := h
  obtain ⟨S2, sub⟩ := slot_opn e0 S hx
  rw [ho] at S2 sub
  have hi : i < env.length := (List.getElem?_eq_some_iff.mp hx).1
  have hx2 : (env.set i (some (⟨true, .dic ks ds⟩ : Val)))[i]? = some (some ⟨true, .dic ks ds⟩) := by rw [List.getElem?_set_self hi]
  obtain ⟨a, kvs, hv, ha, hks, hok, put⟩ := slot_lock (by rw [List.length_set]; exact e0) S2 hx2
  refine ⟨_, hv, a, kvs, rfl, ha, fun o => ?_⟩
  obtain ⟨S3, s3, cool⟩ := put o
  rw [List.set_set] at S3 s3 cool
  have I := items_keys (K := K) (mg := mg) (o := o) (H := upd H a (.frz o (.dK kvs))) cool upd_same hok
  rw [← hks] at I
  have st : Step (τ ++ σ.zip env) H (τ ++ σ.zip (env.set i (some (⟨true, .dic ks ds⟩ : Val)))) H := Step.refl.lessR sub
  exact k ks _ _ _ (by rw [List.length_set]; exact e0) S3 (st.trans s3) I p
end
end TL

/-! V18: zip(x, y, strict=True) of two of the same length, lists or tuples -/
namespace TL
open PySem PySem.Spec PyProof.Rows L2
/-- the iterator as it stands: strict -/
abbrev ZipS (h : Heap) (z ti own : Addr) (f : Value) : Prop :=
  h.get? z = some { cls := .type "zip", dict := none, data := .fields #[f, .bool false, .bool true, .ref ti, .ref own], slots := #[] }
section
variable {prog : Program} {w : World} {A : Around} {E : Value → Shared → Prop} {s : Shared} {it : Addr} {fp : List Addr} {n i : Nat} {P : Nat → Value → Prop} {St : Nat → Heap → Prop}
theorem noe_item {Q : Option Value → Shared → Prop} (D : Draws prog w A it fp n P St) (hi : i < n) (st : St i s.heap)
    (k : ∀ x h' tk, P i x → St (i + 1) h' → Heap.SameBut it s.heap h' → Q (some x) { s with heap := h', toks := tk }) : wpAny (model prog w) A (Builtin.SmallTypes.nextOrEnd (.ref it)) Q E s := by
  unfold Builtin.SmallTypes.nextOrEnd
  exact wpAny_bind (wpAny_attempt (D.item i s _ _ hi st fun x h' tk a b c => wpAny_pure (k x h' tk a b c)))
theorem noe_end {Q : Option Value → Shared → Prop} (D : Draws prog w A it fp n P St) (st : St n s.heap)
    (k : ∀ h', Heap.ExtBut it s.heap h' → Q none { s with heap := h' }) : wpAny (model prog w) A (Builtin.SmallTypes.nextOrEnd (.ref it)) Q E s := by
  unfold Builtin.SmallTypes.nextOrEnd
  refine wpAny_bind (wpAny_attempt (D.done s _ _ st fun h' e a ⟨o, b1, b2⟩ => ?_))
  exact wpAny_bind (wpAny_isInstance (T := "StopIteration") (b := true) ⟨o, b1, b2⟩ isSubtype_stop (wpAny_pure (k h' a)))
/-- the walk is over -/
theorem stop_raise {α : Type} {Q : α → Shared → Prop} (hh : A.handled = none)
    (k : ∀ h' e, (∀ c o, s.heap.get? c = some o → h'.get? c = some o) → (∃ o, h'.get? e = some o ∧ o.cls = .type "StopIteration") → E (.ref e) { s with heap := h' }) :
    wpAny (model prog w) A (Builtin.SmallTypes.stopIteration : Sem α) Q E s := by
  unfold Builtin.SmallTypes.stopIteration
  show wpAny _ _ (newExc (.type "StopIteration") [] >>= _) _ _ _
  refine wpAny_bind ?_
  simp only [newExc, newTuple]
  refine wpAny_bind (wpAny_newObj_type ?_ (by size_fits))
  refine wpAny_bind (m := firstArgMember _ _) (wpAny_of_eq (a := Value.none) (by first | rfl | (simp only [firstArgMember]; rfl)) ?_)
  refine wpAny_newObj_type ?_ (by size_fits)
  simp only [raiseNew]
  refine wpAny_bind (wpAny_handled ?_)
  first | rw [show A.in1.handled = none from hh] | rw [hh]
  refine wpAny_bind (wpAny_pure (wpAny_throw ?_))
  exact k _ _ (fun c o e => Heap.get?_push_of_some _ (Heap.get?_push_of_some _ e)) ⟨_, Heap.get?_push_size _ rfl, rfl⟩
end
section
variable {prog : Program} {w : World} {A : Around} {E : Value → Shared → Prop} {s : Shared} {z TI TO i1 i2 : Addr} {fp1 fp2 : List Addr} {n1 n2 i : Nat} {P1 P2 : Nat → Value → Prop} {St1 St2 : Nat → Heap → Prop} {a1 a2 : Value}
theorem zipS_item0 {Q : Value → Shared → Prop} (S : ZipSep2 z TI TO i1 i2 fp1 fp2) (D1 : Draws prog w A i1 fp1 n1 P1 St1) (D2 : Draws prog w A i2 fp2 n2 P2 St2)
    (hz : ZipS s.heap z TI TO .none) (hTI : IsTupOf2 s.heap TI (.ref i1) (.ref i2)) (hTO : IsTupOf2 s.heap TO a1 a2) (s1 : St1 i s.heap) (s2 : St2 i s.heap) (l1 : i < n1) (l2 : i < n2)
    (hQ : ∀ x y h' tk, P1 i x → P2 i y → ZipS h' z TI TO (rawInt s.heap.objs.size) → IsTupOf2 h' TO x y → St1 (i + 1) h' → St2 (i + 1) h' → IsTupOf2 h' s.heap.objs.size x y →
      (∀ c o, c ≠ z → c ≠ TO → c ≠ i1 → c ≠ i2 → s.heap.get? c = some o → h'.get? c = some o) → Q (.ref s.heap.objs.size) { s with heap := h', toks := tk }) :
    wpAny (model prog w) A (Builtin.«zip.__next__» ⟨[.ref z], []⟩) (fun r s' => ∃ v, r = .done (.ret v) ∧ Q v s') E s := by
  obtain ⟨hp, g, d, t0, os⟩ := s
  show wpAny _ _ (field (.ref z) 2 >>= _) _ _ _
  refine wpAny_bind (wpAny_field hz rfl (x := .bool true) rfl ?_)
  show wpAny _ _ (field (.ref z) 3 >>= _) _ _ _
  refine wpAny_bind (wpAny_field hz rfl (x := .ref TI) rfl ?_)
  refine wpAny_bind (wpAny_seqItems hTI rfl ?_)
  show wpAny _ _ (Builtin.SmallTypes.ownedTupleIsFree (.ref z) >>= _) _ _ _
  refine wpAny_bind ?_
  unfold Builtin.SmallTypes.ownedTupleIsFree
  refine wpAny_bind (wpAny_field hz rfl (x := .none) rfl (wpAny_pure ?_))
  simp only [if_true]
  refine wpAny_bind (wpAny_rule ?_)
  refine wpAny_bind (wpAny_field hz rfl (x := .ref TO) rfl ?_)
  refine wpAny_bind (wpAny_setField_rec hz (by simp) fun g0 z0 b0 => ?_)
  replace z0 : ZipS g0 z TI TO .ellipsis := z0
  replace b0 : Heap.SameBut z hp g0 := b0
  refine wpAny_bind ?_
  simp only [List.zipIdx_cons, List.zipIdx_nil, List.forIn_cons, List.forIn_nil]
  refine wpAny_bind (wpAny_bind (wpAny_onRaise ?_))
  show wpAny _ _ (Builtin.SmallTypes.nextOrEnd (.ref i1)) _ _ ⟨g0, g, d, t0, os⟩
  refine noe_item (s := ⟨g0, g, d, t0, os⟩) D1 l1 (D1.over s1 b0 S.zf1) fun x p1 t1 hx sn1 hp1 => ?_
  replace hp1 : Heap.SameBut i1 g0 p1 := hp1
  have U1 : IsTupOf2 p1 TO a1 a2 := hp1.extBut _ _ S.Ti1 (b0.extBut _ _ S.TOz hTO)
  refine wpAny_bind (wpAny_seqItems (s := ⟨p1, g, d, t1, os⟩) U1 rfl ?_)
  refine wpAny_bind (updateSeq_IsTupOf2 (s := ⟨p1, g, d, t1, os⟩) U1 fun g1 hT1 b1 => ?_)
  replace hT1 : IsTupOf2 g1 TO x a2 := hT1
  replace b1 : Heap.SameBut TO p1 g1 := b1
  refine wpAny_bind (wpAny_letGo (wpAny_pure ?_))
  refine wpAny_bind (wpAny_bind (wpAny_onRaise ?_))
  show wpAny _ _ (Builtin.SmallTypes.nextOrEnd (.ref i2)) _ _ ⟨g1, g, d, t1, os⟩
  refine noe_item (s := ⟨g1, g, d, t1, os⟩) D2 l2 (D2.over (D2.over (D2.over s2 b0 S.zf2) hp1 S.sep1_2) b1 S.Tf2) fun y p2 t2 hy sn2 hp2 => ?_
  replace hp2 : Heap.SameBut i2 g1 p2 := hp2
  have U2 : IsTupOf2 p2 TO x a2 := hp2.extBut _ _ S.Ti2 hT1
  refine wpAny_bind (wpAny_seqItems (s := ⟨p2, g, d, t2, os⟩) U2 rfl ?_)
  refine wpAny_bind (updateSeq_IsTupOf2 (s := ⟨p2, g, d, t2, os⟩) U2 fun g2 hT2 b2 => ?_)
  replace hT2 : IsTupOf2 g2 TO x y := hT2
  replace b2 : Heap.SameBut TO p2 g2 := b2
  refine wpAny_bind (wpAny_letGo (wpAny_pure (wpAny_pure ?_)))
  refine wpAny_bind (wpAny_seqItems (s := ⟨g2, g, d, t2, os⟩) hT2 rfl ?_)
  refine wpAny_bind (wpAny_newTuple ?_)
  have sz : g2.objs.size = hp.objs.size := by rw [b2.1, hp2.1, b1.1, hp1.1, b0.1]
  have zz : ZipS g2 z TI TO .ellipsis := b2.extBut _ _ S.TOz.symm (hp2.extBut _ _ S.zi2 (b1.extBut _ _ S.TOz.symm (hp1.extBut _ _ S.zi1 z0)))
  have kk : ∀ c o, c ≠ z → c ≠ TO → c ≠ i1 → c ≠ i2 → hp.get? c = some o → g2.get? c = some o := fun c o cz cT c1 c2 e =>
    b2.extBut _ _ cT (hp2.extBut _ _ c2 (b1.extBut _ _ cT (hp1.extBut _ _ c1 (b0.extBut _ _ cz e))))
  have j1 : St1 (i + 1) g2 := D1.over (D1.over (D1.over sn1 b1 S.Tf1) hp2 S.sep2_1) b2 S.Tf1
  have j2 : St2 (i + 1) g2 := D2.over sn2 b2 S.Tf2
  have zlt : z < g2.objs.size := Heap.lt_size zz
  show wpAny _ _ (Builtin.SmallTypes.ownedTupleHandOut (.ref z) (.ref g2.objs.size) >>= _) _ _ ⟨g2.push { cls := .type "tuple", data := .seq #[x, y] }, g, d, t2, os⟩
  refine wpAny_bind ?_
  unfold Builtin.SmallTypes.ownedTupleHandOut
  have z6 : ZipS (g2.push { cls := .type "tuple", data := .seq #[x, y] }) z TI TO .ellipsis := Heap.get?_push_of_some _ zz
  refine wpAny_bind (wpAny_setField_rec z6 (by simp) fun h7 z7 b7 => ?_)
  replace z7 : ZipS h7 z TI TO (rawInt g2.objs.size) := z7
  refine wpAny_setField_rec z7 (by simp) fun h8 z8 b8 => ?_
  replace z8 : ZipS h8 z TI TO (rawInt g2.objs.size) := z8
  replace b7 : Heap.SameBut z (g2.push { cls := .type "tuple", data := .seq #[x, y] }) h7 := b7
  replace b8 : Heap.SameBut z h7 h8 := b8
  have up : ∀ c o, c ≠ z → g2.get? c = some o → h8.get? c = some o := fun c o c1 e => b8.extBut _ _ c1 (b7.extBut _ _ c1 (Heap.get?_push_of_some _ e))
  have T8 : IsTupOf2 h8 g2.objs.size x y := b8.extBut _ _ (Nat.ne_of_gt zlt) (b7.extBut _ _ (Nat.ne_of_gt zlt) (Heap.get?_push_size _ rfl))
  rw [sz] at z8 T8
  refine wpAny_pure ⟨_, rfl, ?_⟩
  show Q (.ref g2.objs.size) ⟨h8, g, d, t2, os⟩
  rw [sz]
  exact hQ x y h8 t2 hx hy z8 (up _ _ S.TOz hT2) (D1.frame _ _ _ j1 fun b hb o e => up b o (fun q => S.zf1 (q ▸ hb)) e) (D2.frame _ _ _ j2 fun b hb o e => up b o (fun q => S.zf2 (q ▸ hb)) e) T8 fun c o cz cT c1 c2 e => up c o cz (kk c o cz cT c1 c2 e)
theorem zipS_end0 {Q : PySem.Fin → Shared → Prop} (hh : A.handled = none) (S : ZipSep2 z TI TO i1 i2 fp1 fp2) (D1 : Draws prog w A i1 fp1 n1 P1 St1) (D2 : Draws prog w A i2 fp2 n2 P2 St2)
    (hz : ZipS s.heap z TI TO .none) (hTI : IsTupOf2 s.heap TI (.ref i1) (.ref i2)) (hTO : IsTupOf2 s.heap TO a1 a2) (s1 : St1 n1 s.heap) (s2 : St2 n2 s.heap)
    (hE : ∀ h' tk e, (∀ c o, c ≠ z → c ≠ TO → c ≠ i1 → c ≠ i2 → s.heap.get? c = some o → h'.get? c = some o) → (∃ o, h'.get? e = some o ∧ o.cls = .type "StopIteration") → E (.ref e) { s with heap := h', toks := tk }) :
    wpAny (model prog w) A (Builtin.«zip.__next__» ⟨[.ref z], []⟩) Q E s := by
  obtain ⟨hp, g, d, t0, os⟩ := s
  show wpAny _ _ (field (.ref z) 2 >>= _) _ _ _
  refine wpAny_bind (wpAny_field hz rfl (x := .bool true) rfl ?_)
  show wpAny _ _ (field (.ref z) 3 >>= _) _ _ _
  refine wpAny_bind (wpAny_field hz rfl (x := .ref TI) rfl ?_)
  refine wpAny_bind (wpAny_seqItems hTI rfl ?_)
  show wpAny _ _ (Builtin.SmallTypes.ownedTupleIsFree (.ref z) >>= _) _ _ _
  refine wpAny_bind ?_
  unfold Builtin.SmallTypes.ownedTupleIsFree
  refine wpAny_bind (wpAny_field hz rfl (x := .none) rfl (wpAny_pure ?_))
  simp only [if_true]
  refine wpAny_bind (wpAny_rule ?_)
  refine wpAny_bind (wpAny_field hz rfl (x := .ref TO) rfl ?_)
  refine wpAny_bind (wpAny_setField_rec hz (by simp) fun g0 z0 b0 => ?_)
  replace z0 : ZipS g0 z TI TO .ellipsis := z0
  replace b0 : Heap.SameBut z hp g0 := b0
  refine wpAny_bind ?_
  simp only [List.zipIdx_cons, List.zipIdx_nil, List.forIn_cons, List.forIn_nil]
  refine wpAny_bind (wpAny_bind (wpAny_onRaise ?_))
  show wpAny _ _ (Builtin.SmallTypes.nextOrEnd (.ref i1)) _ _ ⟨g0, g, d, t0, os⟩
  refine noe_end (s := ⟨g0, g, d, t0, os⟩) D1 (D1.over s1 b0 S.zf1) fun q1 h1 => ?_
  replace h1 : Heap.ExtBut i1 g0 q1 := h1
  have zq : ZipS q1 z TI TO .ellipsis := h1 _ _ S.zi1 z0
  dsimp only
  refine wpAny_bind (wpAny_setField_rec (s := ⟨q1, g, d, t0, os⟩) zq (by simp) fun q2 z2 h2 => ?_)
  replace h2 : Heap.SameBut z q1 q2 := h2
  dsimp only
  refine wpAny_bind ?_
  show wpAny _ _ (forIn [(Value.ref i2, 1)] PUnit.unit _ >>= _) _ _ _
  simp only [List.forIn_cons, List.forIn_nil]
  refine wpAny_bind ?_
  refine wpAny_bind ?_
  refine wpAny_bind ?_
  refine noe_end (s := ⟨q2, g, d, t0, os⟩) D2 (D2.over (D2.frame _ _ _ (D2.over s2 b0 S.zf2) fun b hb o e => h1 b o (fun q => S.sep1_2 (q ▸ hb)) e) h2 S.zf2) fun q3 h3 => ?_
  replace h3 : Heap.ExtBut i2 q2 q3 := h3
  simp only [Option.isSome_none, Bool.false_eq_true, if_false]
  refine wpAny_pure (wpAny_pure ?_)
  refine wpAny_bind (wpAny_rule (stop_raise hh fun h' e k st => ?_))
  exact hE h' t0 e (fun c o cz cT c1 c2 x => k c o (h3 _ _ c2 (h2.extBut _ _ cz (h1 _ _ c1 (b0.extBut _ _ cz x))))) st
theorem zipS_item {Q : Option Value → Shared → Prop} (S : ZipSep2 z TI TO i1 i2 fp1 fp2) (D1 : Draws prog w A.in1 i1 fp1 n1 P1 St1) (D2 : Draws prog w A.in1 i2 fp2 n2 P2 St2)
    (hz : ZipS s.heap z TI TO .none) (hTI : IsTupOf2 s.heap TI (.ref i1) (.ref i2)) (hTO : IsTupOf2 s.heap TO a1 a2) (s1 : St1 i s.heap) (s2 : St2 i s.heap) (l1 : i < n1) (l2 : i < n2)
    (hQ : ∀ x y h' tk, P1 i x → P2 i y → ZipS h' z TI TO (rawInt s.heap.objs.size) → IsTupOf2 h' TO x y → St1 (i + 1) h' → St2 (i + 1) h' → IsTupOf2 h' s.heap.objs.size x y →
      (∀ c o, c ≠ z → c ≠ TO → c ≠ i1 → c ≠ i2 → s.heap.get? c = some o → h'.get? c = some o) → Q (some (.ref s.heap.objs.size)) { s with heap := h', toks := tk }) :
    wpAny (model prog w) A (pyNext (.ref z)) Q E s := by
  have hT : s.TypeIs (.ref z) "zip" := ⟨_, hz, rfl⟩
  unfold pyNext
  exact wpAny_bind (wpAny_attempt (wpAny_callSpecial?_slot (name := Str.ofString "__next__") hT F.slot_zip_next
    (wpAny_call_entry F.slot_zip_next hT F.entry_zip_next (zipS_item0 S D1 D2 hz hTI hTO s1 s2 l1 l2 fun x y h' tk c1 c2 c3 c4 c5 c6 c7 c8 => wpAny_pure (hQ x y h' tk c1 c2 c3 c4 c5 c6 c7 c8)) (F.args_zip_next_1 _))))
theorem zipS_end {Q : Option Value → Shared → Prop} (hh : A.handled = none) (S : ZipSep2 z TI TO i1 i2 fp1 fp2) (D1 : Draws prog w A.in1 i1 fp1 n1 P1 St1) (D2 : Draws prog w A.in1 i2 fp2 n2 P2 St2)
    (hz : ZipS s.heap z TI TO .none) (hTI : IsTupOf2 s.heap TI (.ref i1) (.ref i2)) (hTO : IsTupOf2 s.heap TO a1 a2) (s1 : St1 n1 s.heap) (s2 : St2 n2 s.heap)
    (hQ : ∀ h' tk, (∀ c o, c ≠ z → c ≠ TO → c ≠ i1 → c ≠ i2 → s.heap.get? c = some o → h'.get? c = some o) → Q none { s with heap := h', toks := tk }) : wpAny (model prog w) A (pyNext (.ref z)) Q E s := by
  have hT : s.TypeIs (.ref z) "zip" := ⟨_, hz, rfl⟩
  unfold pyNext
  refine wpAny_bind (wpAny_attempt (wpAny_callSpecial?_slot (name := Str.ofString "__next__") hT F.slot_zip_next
    (wpAny_call_entry F.slot_zip_next hT F.entry_zip_next (zipS_end0 (A := A.in1) hh S D1 D2 hz hTI hTO s1 s2 fun h' tk e k ⟨o, b1, b2⟩ => ?_) (F.args_zip_next_1 _))))
  exact wpAny_bind (wpAny_isInstance (T := "StopIteration") (b := true) ⟨o, b1, b2⟩ isSubtype_stop (wpAny_pure (hQ _ _ k)))
theorem zipS_go {elts : List Expr} {kk : Nat} {pos : Pos} {T : Addr} {Q : Unit → Shared → Prop} (hz : ZipS s.heap z TI TO (rawInt T))
    (hQ : ∀ h', ZipS h' z TI TO .none → Heap.SameBut z s.heap h' → Q () { s with heap := h' }) : wpAny (model prog w) A (letOwnedTupleGo (.Tuple elts kk pos) (.ref z) (.ref T)) Q E s := by
  unfold letOwnedTupleGo
  refine wpAny_bind (wpAny_load hz ?_)
  show wpAny _ _ (ite ((List.contains _ "zip" && (#[rawInt T, .bool false, .bool true, .ref TI, .ref TO] : Array Value)[0]? == some (rawInt T)) = true) _ _) Q E s
  rw [if_pos (by simp)]
  exact wpAny_bind (wpAny_rule (wpAny_setField_rec hz (by simp) fun h' a b => hQ h' a b))
theorem zipS_iter {f : Value} {Q : Value → Shared → Prop} (hz : ZipS s.heap z TI TO f) (h : Q (.ref z) s) : wpAny (model prog w) A (pyIter (.ref z)) Q E s := by
  have hT : s.TypeIs (.ref z) "zip" := ⟨_, hz, rfl⟩
  refine wpAny_pyIter_slot hT F.slot_zip_iter (wpAny_call_entry F.slot_zip_iter hT F.entry_zip_iter ?_ (F.args_zip_iter_1 _))
  exact wpAny_pure ⟨_, rfl, "zip", _, hT, F.slot_zip_next.lookup, h⟩
end
/-! how it begins -/
abbrev zsT (h : Heap) (o1 o2 : Obj) : Heap := ((h.push o1).push o2).push { cls := .type "tuple", data := .seq #[.ref h.objs.size, .ref (h.push o1).objs.size] }
abbrev zsO (h : Heap) (o1 o2 : Obj) : Heap := (zsT h o1 o2).push { cls := .type "tuple", data := .seq #[.none, .none] }
abbrev zsZ (h : Heap) (o1 o2 : Obj) : Heap := (zsO h o1 o2).push { cls := .type "zip", data := .fields #[.none, .bool false, .bool true, .ref ((h.push o1).push o2).objs.size, .ref (zsT h o1 o2).objs.size] }
theorem zipS_meets {v1 v2 : Value} {o1 o2 : Obj} {H1 H2 : Heap → Prop} (B1 : Begins v1 o1 H1) (B2 : Begins v2 o2 H2) :
    Meets (Builtin.«zip.__new__» ⟨[.type "zip", v1, v2], [(Str.ofString "strict", .bool true)]⟩) (fun _ R s => (H1 s.heap ∧ H2 s.heap) ∧
      R (.ok (.ret (.ref (zsO s.heap o1 o2).objs.size))) { s with heap := zsZ s.heap o1 o2 }) :=
  .of_wp fun prog w A R s h => by
    obtain ⟨hp, g, d, tk, os⟩ := s
    obtain ⟨⟨h1, h2⟩, h⟩ := h
    have hsub := sub_zip
    have q1 : ∀ {A' : Around} {E Q : Value → Shared → Prop}, Q (.ref hp.objs.size) ⟨hp.push o1, g, d, tk, os⟩ → wpAny (model prog w) A' (pyIter v1) Q E ⟨hp, g, d, tk, os⟩ :=
      fun q => B1.iter prog w _ _ ⟨hp, g, d, tk, os⟩ _ (B1.keeps _ _ h1 fun b o' e => e) q
    have q2 : ∀ {A' : Around} {E Q : Value → Shared → Prop}, Q (.ref (hp.push o1).objs.size) ⟨(hp.push o1).push o2, g, d, tk, os⟩ → wpAny (model prog w) A' (pyIter v2) Q E ⟨hp.push o1, g, d, tk, os⟩ :=
      fun q => B2.iter prog w _ _ ⟨hp.push o1, g, d, tk, os⟩ _ (B2.keeps _ _ h2 fun b o' e => Heap.get?_push_of_some _ e) q
    have q3 : (Str.ofString "strict" != Str.ofString "strict") = false := by decide
    have q4 : ∀ {A' : Around} {E : Value → Shared → Prop} {Q : Bool → Shared → Prop} {s' : Shared}, Q true s' → wpAny (model prog w) A' (truthy (.bool true)) Q E s' := fun q => wpAny_of_eq (a := true) (by rfl) q
    wp_walk using q1, q2, q4
    exact ⟨_, rfl, h⟩
theorem zipS_type (a b c : Value) : checkTypeCall "zip" ⟨[a, b], [(Str.ofString "strict", c)]⟩ = pure () := by kernel_rfl
theorem zipS_new (a b c : Value) : checkBuiltinCall "zip.__new__" ⟨[.type "zip", a, b], [(Str.ofString "strict", c)]⟩ = pure () := by kernel_rfl
theorem zipS_init (o a b c : Value) : argsOk "object.__init__" ⟨[o, a, b], [(Str.ofString "strict", c)]⟩ := by unfold argsOk; kernel_rfl
section
variable {prog : Program} {w : World} {A : Around} {E : Value → Shared → Prop} {s : Shared}
theorem zipS_begins {v1 v2 : Value} {o1 o2 : Obj} {H1 H2 : Heap → Prop} {Q : Value → Shared → Prop} (B1 : Begins v1 o1 H1) (B2 : Begins v2 o2 H2) (h1 : H1 s.heap) (h2 : H2 s.heap)
    (h : ∀ h', ZipS h' (s.heap.objs.size + 4) (s.heap.objs.size + 2) (s.heap.objs.size + 3) .none → IsTupOf2 h' (s.heap.objs.size + 2) (.ref s.heap.objs.size) (.ref (s.heap.objs.size + 1)) →
      IsTupOf2 h' (s.heap.objs.size + 3) .none .none → h'.get? s.heap.objs.size = some o1 → h'.get? (s.heap.objs.size + 1) = some o2 →
      (∀ c o, s.heap.get? c = some o → h'.get? c = some o) → Q (.ref (s.heap.objs.size + 4)) { s with heap := h' }) :
    wpAny (model prog w) A (call (.type "zip") [v1, v2] [(Str.ofString "strict", .bool true)]) Q E s := by
  refine callType_newKw F.called_zip (by decide) (zipS_type _ _ _) (zipS_new _ _ _) (fun obj => zipS_init obj _ _ _) F.entry_zip_new (zipS_meets B1 B2) ⟨⟨h1, h2⟩, ?_⟩
  have e1 : (s.heap.push o1).objs.size = s.heap.objs.size + 1 := by rw [Heap.size_push]
  have e2 : ((s.heap.push o1).push o2).objs.size = s.heap.objs.size + 2 := by rw [Heap.size_push, e1]
  have eT : (zsT s.heap o1 o2).objs.size = s.heap.objs.size + 3 := by rw [Heap.size_push, e2]
  have eO : (zsO s.heap o1 o2).objs.size = s.heap.objs.size + 4 := by rw [Heap.size_push, eT]
  have gZ : (zsZ s.heap o1 o2).get? (zsO s.heap o1 o2).objs.size = some { cls := .type "zip", data := .fields #[.none, .bool false, .bool true, .ref ((s.heap.push o1).push o2).objs.size, .ref (zsT s.heap o1 o2).objs.size] } := Heap.get?_push_size _ rfl
  have gO : (zsZ s.heap o1 o2).get? (zsT s.heap o1 o2).objs.size = some { cls := .type "tuple", data := .seq #[.none, .none] } := Heap.get?_push_of_some _ (Heap.get?_push_size _ rfl)
  have gT : (zsZ s.heap o1 o2).get? ((s.heap.push o1).push o2).objs.size = some { cls := .type "tuple", data := .seq #[.ref s.heap.objs.size, .ref (s.heap.push o1).objs.size] } := Heap.get?_push_of_some _ (Heap.get?_push_of_some _ (Heap.get?_push_size _ rfl))
  have g1 : (zsZ s.heap o1 o2).get? s.heap.objs.size = some o1 := Heap.get?_push_of_some _ (Heap.get?_push_of_some _ (Heap.get?_push_of_some _ (Heap.get?_push_of_some _ (Heap.get?_push_size _ B1.free))))
  have g2 : (zsZ s.heap o1 o2).get? (s.heap.push o1).objs.size = some o2 := Heap.get?_push_of_some _ (Heap.get?_push_of_some _ (Heap.get?_push_of_some _ (Heap.get?_push_size _ B2.free)))
  rw [eO, eT, e2] at gZ
  rw [eT] at gO
  rw [e2, e1] at gT
  rw [e1] at g2
  show _ ∧ _
  rw [eO]
  exact ⟨⟨_, gZ, rfl⟩, h _ gZ gT gO g1 g2 fun c o e => Heap.get?_push_of_some _ (Heap.get?_push_of_some _ (Heap.get?_push_of_some _ (Heap.get?_push_of_some _ (Heap.get?_push_of_some _ e))))⟩
end
/-! ### over the layer: each of the two a list or a tuple -/
def SqX (K : PySem.W.Frag) (H : Hp) : Bool → Addr → List V → Prop
  | true, a, xs => SqL K H a xs
  | false, a, xs => SqT K H a xs
def ItAt (h : Heap) : Bool → Addr → Addr → Nat → Prop
  | true, it, a, i => h.IsListIter it a i
  | false, it, a, i => h.IsTupleIter it a i
def SeqAt (h : Heap) : Bool → Addr → Array Value → Prop
  | true, a, its => h.IsList a its
  | false, a, its => h.IsTuple a its
def itObj : Bool → Addr → Obj
  | true, a => { cls := .type "list_iterator", data := .fields #[.ref a, .int 0 0] }
  | false, a => { cls := .type "tuple_iterator", data := .fields #[.ref a, .int 0 0] }
theorem itAt_obj {h : Heap} : ∀ {k : Bool} {it a : Addr} {i : Nat}, ItAt h k it a i → ∃ o vs, h.get? it = some o ∧ o.data = .fields vs
  | true, _, _, _, ⟨o, e, _, d⟩ => ⟨o, _, e, d⟩
  | false, _, _, _, ⟨o, e, _, d⟩ => ⟨o, _, e, d⟩
theorem itAt_at {h h' : Heap} : ∀ {k : Bool} {it a : Addr} {i : Nat}, ItAt h k it a i → (∀ o, h.get? it = some o → h'.get? it = some o) → ItAt h' k it a i
  | true, _, _, _, x, k => Heap.IsListIter.at x k
  | false, _, _, _, x, k => Heap.IsTupleIter.at x k
theorem seqAt_at {h h' : Heap} : ∀ {k : Bool} {a : Addr} {its : Array Value}, SeqAt h k a its → (∀ o, h.get? a = some o → h'.get? a = some o) → SeqAt h' k a its
  | true, _, _, x, k => Heap.IsList.at x k
  | false, _, _, x, k => Heap.IsTuple.at x k
theorem itAt_new {h : Heap} : ∀ {k : Bool} {it a : Addr}, h.get? it = some (itObj k a) → ItAt h k it a 0
  | true, _, _, e => ⟨_, e, rfl, rfl⟩
  | false, _, _, e => ⟨_, e, rfl, rfl⟩
theorem begins_seq (a : Addr) (its : Array Value) : ∀ k, Begins (.ref a) (itObj k a) fun h => SeqAt h k a its
  | true => begins_list a its
  | false => begins_tuple a its
theorem draws_seq {prog : Program} {w : World} {A : Around} (hh : A.handled = none) (it a : Addr) (hne : a ≠ it) (its : Array Value) (i : Nat) : ∀ k : Bool,
    Draws prog w A it [it, a] (max i its.size) (fun j v => its[j]? = some v) (fun j h => i ≤ j ∧ ItAt h k it a j ∧ SeqAt h k a its)
  | true => draws_from hh it a hne its i
  | false => {
    live := fun _ _ st => let ⟨o, ho, _⟩ := st.2.1; ⟨o, ho⟩
    frame := fun _ _ _ st hk => ⟨st.1, Heap.IsTupleIter.at st.2.1 fun o e => hk it (by simp) o e, Heap.IsTuple.at st.2.2 fun o e => hk a (by simp) o e⟩
    item := fun j s Q E hj st hQ => by
      have hj' : j < its.size := by have := st.1; omega
      refine wpAny_nextOf_tuple_item st.2.1 st.2.2 (x := its[j]) (by simp [hj']) fun h' hit' hs' => ?_
      exact hQ _ h' s.toks (by simp [hj']) ⟨Nat.le_succ_of_le st.1, hit', Heap.IsTuple.extBut st.2.2 hs'.extBut hne⟩ hs'
    done := fun s Q E st hE => wpAny_nextOf_tuple_end hh st.2.1 st.2.2 (by simp; omega) hE }
theorem inv_seq {X : Cx} {pins : List (Addr × Obj)} {σ : L2.St} {H : Hp} {s : Shared} (I : L2.Inv X pins σ H s) : ∀ {k : Bool} {a : Addr} {xs : List V}, SqX X.K H k a xs → ∃ its : List Value, Vals xs its ∧ SeqAt s.heap k a its.toArray ∧ a < s.heap.objs.size
  | true, a, xs, h => let ⟨its, rv, p, _⟩ := I.list h; ⟨its, rv, p.isList, p.lt⟩
  | false, a, xs, h => let ⟨its, rv, p, _⟩ := I.tuple h; ⟨its, rv, p, let ⟨_, e, _⟩ := id p; Heap.lt_size e⟩
theorem inv_sinj {X : Cx} {pins : List (Addr × Obj)} {σ : L2.St} {H : Hp} {s : Shared} (I : L2.Inv X pins σ H s) : ∀ {k : Bool} {a : Addr} {xs ys : List V}, SqX X.K H k a xs → SqX X.K H k a ys → xs = ys
  | true, _, _, _, h, g => I.list_inj h g
  | false, _, _, _, h, g => I.tuple_inj h g
def ItzS (K : PySem.W.Frag) (k1 k2 : Bool) (a b : Addr) : It :=
  ⟨fun i H => ∃ (xs ys : List V) (x y : V), SqX K H k1 a xs ∧ SqX K H k2 b ys ∧ xs[i]? = some x ∧ ys[i]? = some y,
    fun i H v H' => ∃ T x y, v = .ref T ∧ H T = none ∧ H' = upd H T (.tup [x, y]) ∧ (∀ xs, SqX K H k1 a xs → xs[i]? = some x) ∧ ∀ ys, SqX K H k2 b ys → ys[i]? = some y,
    fun i H => ∃ xs ys : List V, SqX K H k1 a xs ∧ SqX K H k2 b ys ∧ xs.length ≤ i ∧ ys.length ≤ i⟩
theorem turn_zipS {P : Program} {w : World} {K : PySem.W.Frag} {elts : List Expr} {kk : Nat} {tpos : Pos} {k1 k2 : Bool} {a b z TI TO i1 i2 : Addr} (D : ZipSep2 z TI TO i1 i2 [i1, a] [i2, b]) (n1 : a ≠ i1) (n2 : b ≠ i2) :
    Turn P w K (.Tuple elts kk tpos) (ItzS K k1 k2 a b) [z, TI, TO, i1, i2] z (fun i h => ZipS h z TI TO .none ∧ IsTupOf2 h TI (.ref i1) (.ref i2) ∧ (∃ x y, IsTupOf2 h TO x y) ∧ ItAt h k1 i1 a i ∧ ItAt h k2 i2 b i) where
  mem := by simp
  obj := fun i h st d hd => by
    obtain ⟨hz, hTI, ⟨x, y, hTO⟩, g1, g2⟩ := st
    obtain ⟨o1, w1, e1, d1⟩ := itAt_obj g1
    obtain ⟨o2, w2, e2, d2⟩ := itAt_obj g2
    have e' : d = z ∨ d = TI ∨ d = TO ∨ d = i1 ∨ d = i2 := by simpa using hd
    rcases e' with q | q | q | q | q <;> rw [q]
    · exact ⟨_, hz, fun v q => nomatch q⟩
    · exact ⟨_, hTI, fun v q => nomatch q⟩
    · exact ⟨_, hTO, fun v q => nomatch q⟩
    · exact ⟨o1, e1, fun v q => by rw [d1] at q; cases q⟩
    · exact ⟨o2, e2, fun v q => by rw [d2] at q; cases q⟩
  keep := fun i h h' st k => by
    obtain ⟨hz, hTI, ⟨x, y, hTO⟩, h1, h2⟩ := st
    exact ⟨k z (by simp) _ hz, k TI (by simp) _ hTI, ⟨x, y, k TO (by simp) _ hTO⟩, itAt_at h1 fun o q => k i1 (by simp) o q, itAt_at h2 fun o q => k i2 (by simp) o q⟩
  item := by
    intro X hP hw hK hc i pins s σ H E I hf st hg
    subst hP hw hK
    obtain ⟨hz, hTI, ⟨x0, y0, hTO⟩, h1, h2⟩ := st
    obtain ⟨xs, ys, x, y, hqx, hqy, hx, hy⟩ := hg
    obtain ⟨its, rv, p, _⟩ := inv_seq I hqx
    obtain ⟨its2, rv2, p2, _⟩ := inv_seq I hqy
    obtain ⟨u, hu, ru⟩ := rv.get hx
    obtain ⟨u2, hu2, ru2⟩ := rv2.get hy
    have hzl : z < s.heap.objs.size := Heap.lt_size hz
    have l1 := (List.getElem?_eq_some_iff.mp hu).1
    have l2 := (List.getElem?_eq_some_iff.mp hu2).1
    refine zipS_item D (draws_seq (A := X.A.in1) (I.ok.hd hc) i1 a n1 its.toArray i k1) (draws_seq (A := X.A.in1) (I.ok.hd hc) i2 b n2 its2.toArray i k2)
      hz hTI hTO ⟨Nat.le_refl i, h1, p⟩ ⟨Nat.le_refl i, h2, p2⟩ (by simp; omega) (by simp; omega) fun x1 x2 h' tk g1 g2 z' TO' s1' s2' hT hk => ?_
    obtain rfl : x1 = u := by
      have g1 : its.toArray[i]? = some x1 := g1
      rw [List.getElem?_toArray, hu] at g1
      exact (Option.some.inj g1).symm
    obtain rfl : x2 = u2 := by
      have g2 : its2.toArray[i]? = some x2 := g2
      rw [List.getElem?_toArray, hu2] at g2
      exact (Option.some.inj g2).symm
    refine ⟨_, rfl, zipS_go (s := { s with heap := h', toks := tk }) z' fun h'' z'' sb => ?_⟩
    have hT2 : h''.get? s.heap.objs.size = some { cls := .type "tuple", data := .seq #[x1, x2] } := (sb.2 _ (Nat.ne_of_gt hzl)).trans hT
    have new : ObjOk X.prog X.w (upd H s.heap.objs.size (.tup [x, y])) h'' s.heap.objs.size (.tup [x, y]) :=
      ⟨by show 2 ≤ sizeLine; decide, [x1, x2], .cons ru (.cons ru2 .nil), ⟨_, hT2, rfl, _, rfl⟩⟩
    have I1 : L2.Inv X pins σ (upd H s.heap.objs.size (.tup [x, y])) { s with heap := h'', toks := tk } :=
      I.turnedNew (ch := [z, TI, TO, i1, i2]) (fun c o hb q => (sb.2 c (fun q' => hb (by simp [q']))).trans (hk c o (fun q' => hb (by simp [q'])) (fun q' => hb (by simp [q'])) (fun q' => hb (by simp [q'])) (fun q' => hb (by simp [q'])) q)) hf (Nat.le_refl _) new
    refine ⟨.ref s.heap.objs.size, _, I1, rfl, ⟨_, x, y, rfl, I.hok.fresh (Nat.le_refl _), rfl, fun l hl => by rw [inv_sinj I hl hqx]; exact hx, fun l hl => by rw [inv_sinj I hl hqy]; exact hy⟩, ⟨z'', ?_, ⟨x1, x2, ?_⟩, ?_, ?_⟩, fun c hcm => ?_⟩
    · exact (sb.2 _ D.TIz).trans (hk _ _ D.TIz D.TITO D.TIi1 D.TIi2 hTI)
    · exact (sb.2 _ D.TOz).trans TO'
    · exact itAt_at s1'.2.1 fun o q => (sb.2 _ (Ne.symm D.zi1)).trans q
    · exact itAt_at s2'.2.1 fun o q => (sb.2 _ (Ne.symm D.zi2)).trans q
    · have hlt : c < s.heap.objs.size := by
        have e' : c = z ∨ c = TI ∨ c = TO ∨ c = i1 ∨ c = i2 := by simpa using hcm
        rcases e' with q | q | q | q | q <;> rw [q]
        · exact hzl
        · exact Heap.lt_size hTI
        · exact Heap.lt_size hTO
        · obtain ⟨_, _, e1, _⟩ := itAt_obj h1; exact Heap.lt_size e1
        · obtain ⟨_, _, e2, _⟩ := itAt_obj h2; exact Heap.lt_size e2
      rw [upd_ne (Nat.ne_of_lt hlt)]
      exact (hf c hcm).1
  done := by
    intro X hP hw hK hc i pins s σ H E I hf st hg
    subst hP hw hK
    obtain ⟨hz, hTI, ⟨x0, y0, hTO⟩, h1, h2⟩ := st
    obtain ⟨xs, ys, hqx, hqy, m1, m2⟩ := hg
    obtain ⟨its, rv, p, _⟩ := inv_seq I hqx
    obtain ⟨its2, rv2, p2, _⟩ := inv_seq I hqy
    have l1 := rv.length
    have l2 := rv2.length
    have f1 : max i its.toArray.size = i := by simp; omega
    have f2 : max i its2.toArray.size = i := by simp; omega
    exact zipS_end (I.ok.hd hc) D (draws_seq (A := X.A.in1) (I.ok.hd hc) i1 a n1 its.toArray i k1) (draws_seq (A := X.A.in1) (I.ok.hd hc) i2 b n2 its2.toArray i k2)
      hz hTI hTO ⟨Nat.le_max_left _ _, by rw [f1]; exact h1, p⟩ ⟨Nat.le_max_left _ _, by rw [f2]; exact h2, p2⟩ fun h' tk hk => ⟨rfl, I.turnedL (t' := tk) (ch := [z, TI, TO, i1, i2]) (fun c o hb q =>
        hk c o (fun q' => hb (by simp [q'])) (fun q' => hb (by simp [q'])) (fun q' => hb (by simp [q'])) (fun q' => hb (by simp [q'])) q) hf⟩
  self := fun A i s Q E st h => zipS_iter st.1 h
def iZipS (K : PySem.W.Frag) (ta : TA) : TI := fun σ H R => ta σ H fun vs H1 => ∃ k1 k2 a b xs ys, vs = [.ref a, .ref b] ∧ SqX K H1 k1 a xs ∧ SqX K H1 k2 b ys ∧ R (ItzS K k1 k2 a b) H1
theorem sep2 {N a b : Nat} (la : a < N) (lb : b < N) : ZipSep2 (N + 4) (N + 2) (N + 3) N (N + 1) [N, a] [N + 1, b] := by
  constructor <;> first
    | exact List.mem_cons_self
    | exact neA (by omega)
    | exact ninA (by omega) (by omega)
theorem cw_typeK {M : Model} {A : Around} {E : Value → Shared → Prop} {s : Shared} {pos : Pos} {T : String} {first : List Value} {args : List (Bool × Sem Value)} {kws : List (Option Str × Sem Value)} {Q : Value → Shared → Prop} (h1 : args.any (·.1) = false) (h2 : kws.any (·.1.isNone) = false)
    (h : wpAny M A (evalArgs (.type T) true args kws) (fun a s1 => wpAny M A (call (.type T) (first ++ a.pos) a.kw) Q E s1) E s) : wpAny M A (callWith pos (.type T) first args kws) Q E s := by
  unfold callWith
  refine wpAny_bind (wpAny_holding (wpAny_mono h (fun a s1 g => wpAny_bind (wpAny_standAt ?_)) fun _ _ x => x))
  simp only [h1, h2, Bool.or_false]
  exact wpAny_bind (wpAny_pure (wpAny_bind (wpAny_mono g (fun r s2 hr => wpAny_bind (wpAny_holding (wpAny_point (wpAny_pure hr)))) fun _ _ x => x)))
theorem pi_zipS {X : Cx} {e e2 : Expr} {ta : TA} {p pos tpos kpos cpos : Pos} {j : Nat} {elts : List Expr} {kk : Nat} (hg : Gl X "zip") (hm : X.mg "zip" = none) (ha : PA X [e, e2] ta)
    (hs : starEach [e, e2] X.env = (false, eval e X.env) :: starEach [e2] X.env := by rfl) (hpl : (backTo pos (starEach [e2] X.env)).any (·.1) = false := by rfl) :
    PI X (.Tuple elts kk tpos) (.Call (.Name "zip" p) [e, e2] [⟨some (Str.ofString "strict"), .Constant (.bool true) j cpos, kpos⟩] pos) (iZipS X.K ta) := by
  refine ⟨fun pins s σ H R I h => ?_⟩
  refine wpAny_Call_Name_kw (ld_blt I hg hm PyProof.Rows.boot_zip ?_)
  have hA := ha.run pos pins s σ H _ I h
  rw [hs] at hA ⊢
  refine cw_typeK (by show (false || (backTo pos (starEach [e2] X.env)).any (·.1)) = false; rw [hpl]; rfl) rfl ?_
  refine PyProof.Rows.evalArgs_kwB rfl (thn hA fun us s1 ⟨vs, H1, I1, r1, q1⟩ => ?_)
  refine PyProof.Rows.kws_cons (PyProof.Rows.Constant_bool (PyProof.Rows.kws_nil ?_))
  obtain ⟨k1, k2, a, b, xs, ys, ex, hqx, hqy, q⟩ := q1
  subst ex
  cases r1 with
  | cons r rr =>
    cases rr with
    | cons r' rr =>
      cases rr
      cases r
      cases r'
      obtain ⟨its, rv, p1, la⟩ := inv_seq I1 hqx
      obtain ⟨its2, rv2, p2, lb⟩ := inv_seq I1 hqy
      show wpAny _ _ (call (.type "zip") [.ref a, .ref b] [(Str.ofString "strict", .bool true)]) _ _ _
      refine zipS_begins (begins_seq a its.toArray k1) (begins_seq b its2.toArray k2) p1 p2 fun h' hz hTI hTO g1 g2 hk => zipS_iter hz ?_
      have I2 : L2.Inv X pins σ H1 { s1 with heap := h' } := I1.kept (t' := s1.toks) hk
      refine ⟨s1.heap.objs.size + 4, [s1.heap.objs.size + 4, s1.heap.objs.size + 2, s1.heap.objs.size + 3, s1.heap.objs.size, s1.heap.objs.size + 1], _, _, H1, rfl, I2, turn_zipS (k1 := k1) (k2 := k2) (sep2 la lb) (Nat.ne_of_lt la) (Nat.ne_of_lt (Nat.lt_of_lt_of_le lb (Nat.le_add_right _ _))), ⟨hz, hTI, ⟨_, _, hTO⟩, itAt_new g1, itAt_new g2⟩, fun d hd => ?_, q⟩
      have e' : d = s1.heap.objs.size + 4 ∨ d = s1.heap.objs.size + 2 ∨ d = s1.heap.objs.size + 3 ∨ d = s1.heap.objs.size ∨ d = s1.heap.objs.size + 1 := by simpa using hd
      have hle : s1.heap.objs.size ≤ d := by
        rcases e' with z | z | z | z | z <;> rw [z]
        · exact Nat.le_add_right _ _
        · exact Nat.le_add_right _ _
        · exact Nat.le_add_right _ _
        · exact Nat.le_refl _
        · exact Nat.le_add_right _ _
      exact I1.fpOk hle (I1.hok.fresh hle)
def sqD : D → Option (List D)
  | .lst ds => some ds
  | .tup ds => some ds
  | _ => none
/-- of two of one length -/
def wiZipS (t : WXs) : WI := fun env P => t env fun os env1 => ∃ x y ds es, tms os = some [x, y] ∧ sqD x = some ds ∧ sqD y = some es ∧ ds.length = es.length ∧ P (zipD ds es) env1
section
variable {K : PySem.W.Frag} {mg : Str → Option Value} {hot : Pr} {H : Hp}
def SqF (K : PySem.W.Frag) (hot : Pr) (H : Hp) : Bool → Addr → List V → Prop
  | true, a, vs => LsF K hot H a vs
  | false, a, vs => TpF K hot H a vs
theorem SqF.sq : ∀ {k : Bool} {a : Addr} {vs : List V}, SqF K hot H k a vs → SqX K H k a vs
  | true, _, _, h => LsF.sq h
  | false, _, _, h => TpF.sq h
theorem SqF.mono {hot' : Pr} {H' : Hp} (kp : Keeps hot hot' H H') : ∀ {k : Bool} {a : Addr} {vs : List V}, SqF K hot H k a vs → SqF K hot' H' k a vs
  | true, _, _, h => kp.ls h
  | false, _, _, h => kp.tp h
theorem rep_sq {v : V} {x : D} {ds : List D} (r : Rep K mg hot H v x) (h : sqD x = some ds) : ∃ k a vs, v = .ref a ∧ SqF K hot H k a vs ∧ Reps K mg hot H vs ds := by
  cases r with
  | lst hl rs => cases h; exact ⟨true, _, _, rfl, hl, rs⟩
  | tup hl rs => cases h; exact ⟨false, _, _, rfl, hl, rs⟩
  | _ => cases h
theorem items_zipS {k1 k2 : Bool} {a b : Addr} {vs ws : List V} {ds es : List D} (hn : ds.length = es.length) (h : SqF K hot H k1 a vs) (r : Reps K mg hot H vs ds) (h2 : SqF K hot H k2 b ws) (r2 : Reps K mg hot H ws es) : ItemsOk K mg hot H (ItzS K k1 k2 a b) (zipD ds es) where
  turn := fun hot' H' i d kp hh hd => by
    obtain ⟨y, z, hy, hz, rfl⟩ := zipD_get hd
    have h' := (h.mono kp).sq
    have h2' := (h2.mono kp).sq
    obtain ⟨v, hv, rv⟩ := r.get hy
    obtain ⟨w, hw, rw'⟩ := r2.get hz
    refine ⟨⟨vs, ws, v, w, h', h2', hv, hw⟩, fun x H2 q => ?_⟩
    obtain ⟨T, p, p2, rfl, n, rfl, q1, q2⟩ := q
    have e1 := q1 vs h'
    rw [hv] at e1
    cases e1
    have e2 := q2 ws h2'
    rw [hw] at e2
    cases e2
    exact ⟨StR.new_lse hh n (.cons (rv.mono kp) (.cons (rw'.mono kp) .nil)), Step.new_fro n⟩
  stop := fun hot' H' i kp hi => by
    rw [zipD_len] at hi
    refine ⟨vs, ws, (h.mono kp).sq, (h2.mono kp).sq, ?_, ?_⟩
    · rw [r.length]; omega
    · rw [r2.length]; omega
theorem zipS_items {t : WXs} {σ : L2.St} {H : Hp} {R : It → Hp → Prop} (h : liftI K mg (wiZipS t) σ H R) : iZipS K (liftXs K mg t) σ H R := by
  obtain ⟨oh, τ, env, P, e0, S, t1, k⟩ := h
  refine ⟨oh, τ, env, _, e0, S, t1, fun vs os env1 H1 e1 a1 S1 s1 ⟨x, y, ds, es, hr, q1, q2, hn, p⟩ => ?_⟩
  have r := tms_reps S1 a1 hr fun c hc => List.mem_append_left _ hc
  rw [hot_cells] at r
  cases r with
  | cons r1 r2 =>
    cases r2 with
    | cons r2 r3 =>
      cases r3
      obtain ⟨k1, a, us, rfl, f1, rs1⟩ := rep_sq r1 q1
      obtain ⟨k2, b, ws, rfl, f2, rs2⟩ := rep_sq r2 q2
      exact ⟨k1, k2, a, b, us, ws, rfl, f1.sq, f2.sq, k _ env1 H1 _ e1 S1.right (s1.lessR fun a ha => roots_app_sub a ha) (items_zipS hn f1 rs1 f2 rs2) p⟩
end
end TL

/-! V19: x[:-k:-1] of a list: its last k - 1, the last one first -/
namespace TL
open PySem PySem.Spec PyProof.Rows L2
theorem rvk_run {α : Type} (l : List α) : ∀ c : Nat, c ≤ l.length → ((List.range c).map fun j => l.length - 1 - j).filterMap (l.toArray[·]?) = l.reverse.take c
  | 0, _ => by simp
  | c + 1, h => by
    rw [List.range_succ, List.map_append, List.filterMap_append, rvk_run l c (by omega), List.take_add_one]
    congr 1
    have h1 : l.length - 1 - c < l.length := by omega
    have h2 : c < l.reverse.length := by rw [List.length_reverse]; omega
    simp only [List.map_cons, List.map_nil, List.filterMap_cons, List.filterMap_nil, List.getElem?_toArray, List.getElem?_eq_getElem h1, List.getElem?_eq_getElem h2, List.getElem_reverse]
    rfl
theorem rvk_pick (l : List Value) (k : Nat) (hk : 1 ≤ k) : slicePick l.toArray none (some (-(k : Int))) (some (-1)) = (l.reverse.take (k - 1)).toArray := by
  have hb : sliceBounds none (some (-(k : Int))) (some (-1)) l.toArray.size = ((l.length : Int) - 1, max (-1) ((l.length : Int) - k), -1) := by
    have h1 : -(k : Int) < 0 := by omega
    simp only [sliceBounds, Option.getD_some, h1, if_true, show ¬ (-1 : Int) > 0 by decide, if_false, List.size_toArray]
    congr 2
    omega
  unfold slicePick
  rw [hb]
  congr 1
  unfold sliceRange
  simp only [show ¬ (-1 : Int) > 0 by decide, if_false]
  have hc : (if (l.length : Int) - 1 > max (-1) ((l.length : Int) - k) then ((l.length : Int) - 1 - max (-1) ((l.length : Int) - k) - -1 - 1) / (- -1) else 0).toNat = min l.length (k - 1) := by
    have e1 : (- -1 : Int) = 1 := by decide
    rw [e1, Int.ediv_one]
    split <;> omega
  rw [hc]
  have hm : (List.range (min l.length (k - 1))).map (fun j : Nat => ((l.length : Int) - 1 + -1 * (j : Int)).toNat) = (List.range (min l.length (k - 1))).map fun j => l.length - 1 - j := by
    apply List.map_congr_left
    intro j hj
    rw [List.mem_range] at hj
    omega
  rw [hm, rvk_run l _ (Nat.min_le_left _ _)]
  by_cases h : k - 1 ≤ l.length
  · rw [Nat.min_eq_right h]
  · rw [Nat.min_eq_left (by omega), List.take_of_length_le (by rw [List.length_reverse]; exact Nat.le_refl _), List.take_of_length_le (by rw [List.length_reverse]; omega)]
def rRvk (K : PySem.W.Frag) (k : Nat) : V → Hp → VK → Prop := fun x H Q => ∃ a xs, x = .ref a ∧ SqL K H a xs ∧ ∀ p, H p = none → Q (.ref p) (upd H p (.lst (xs.reverse.take (k - 1))))
theorem Vals_take : ∀ {xs : List V} {us : List Value} (n : Nat), Vals xs us → Vals (xs.take n) (us.take n)
  | _, _, 0, _ => .nil
  | _, _, _ + 1, .nil => .nil
  | _, _, n + 1, .cons h t => .cons h (Vals_take n t)
theorem pe_rvk {X : Cx} {e : Expr} {te : TE} {k j j2 : Nat} {p1 p2 p3 p4 p5 pos : Pos} (hk : 1 ≤ k) (he : PE X e te) :
    PE X (.Subscript e (.Slice none (some (.UnaryOp .USub (.Constant (.int (k : Int)) j p1) p2)) (some (.UnaryOp .USub (.Constant (.int 1) j2 p3) p4)) p5) pos) (fun σ H Q => te σ H fun x H1 => rRvk X.K k x H1 Q) := by
  refine ⟨fun pins s σ H Q I h => ?_⟩
  refine Subscript_ (thn (he.run pins s σ H _ I h) fun v s1 ⟨x, H1, I1, r1, a, xs, ex, hx, q⟩ => ?_)
  subst ex
  cases r1
  have hst : PO X (some (.UnaryOp .USub (.Constant (.int 1) j2 p3) p4)) (tPart (tUn (rU fun i => .int (-i)) (tC (.int 1)))) := po_some (pe_un un_neg pe_int)
  have hhi : PO X (some (.UnaryOp .USub (.Constant (.int (k : Int)) j p1) p2)) (tPart (tUn (rU fun i => .int (-i)) (tC (.int (k : Int))))) := po_some (pe_un un_neg pe_int)
  refine wpAny_Slice (thn (po_none.run pins s1 σ H1 (fun o H2 => o = none ∧ H2 = H1) I1 ⟨rfl, rfl⟩) fun vl s2 ⟨l, H2, I2, pl, el, e2⟩ => ?_)
  subst el e2
  refine thn (hhi.run pins s2 σ H2 (fun o H3 => o = some (-(k : Int)) ∧ H3 = H2) I2 ⟨k, rfl, -(k : Int), rfl, rfl, rfl⟩) fun vu s3 ⟨u, H3, I3, pu, eu, e3⟩ => ?_
  subst eu e3
  refine thn (hst.run pins s3 σ H3 (fun o H4 => o = some (-1) ∧ H4 = H3) I3 ⟨1, rfl, -1, rfl, rfl, rfl⟩) fun vs s4 ⟨o, H4, I4, ps, eo, e4⟩ => ?_
  subst eo e4
  have I5 : L2.Inv X pins σ H4 { s4 with heap := s4.heap.push { cls := .type "slice", data := .fields #[vl, vu, vs] } } := I4.kept (t' := s4.toks) fun b ob q => Heap.get?_push_of_some _ q
  obtain ⟨its, r, ht, hz⟩ := I5.list hx
  have hlen := r.length
  refine tail_any (ops := [.ref a, .ref s4.heap.objs.size]) ht.isList.typeIs (PySem.slot_list_getitem.lookup) ?_ (by with_unfolding_all rfl)
  refine wpAny_getItem_list_slice ht.isList (Heap.IsSliceOf.new _ vl vu vs) pl pu ps (by decide) ?_ (by rw [List.size_toArray]; omega)
  rw [rvk_pick its k hk]
  refine ⟨.ref _, _, I5.laid (t' := s4.toks) (o := .lst (xs.reverse.take (k - 1))) (fun b ob q => Heap.get?_push_of_some _ q) (Nat.le_refl _) ?_, rfl, q _ (I5.hok.fresh (Nat.le_refl _))⟩
  refine ⟨?_, _, 0, Vals_take (k - 1) r.reverse, Heap.get?_push_size _ rfl⟩
  have : (xs.reverse.take (k - 1)).length ≤ xs.length := by rw [List.length_take, List.length_reverse]; omega
  omega
def sRvk (k : Nat) : D → (Val → Prop) → Prop
  | .lst xs, P => P ⟨true, .lst (xs.reverse.take (k - 1))⟩
  | _, _ => False
theorem ul_rvk {K : PySem.W.Frag} {mg : Str → Option Value} (k : Nat) : UnL K mg (rRvk K k) (sRvk k) := by
  intro hot H x dx P Q hh rx q kk
  cases dx <;> simp only [sRvk] at q <;> try exact q.elim
  obtain ⟨a, vs, rfl, h1, r1⟩ := rx.lst
  exact ⟨a, vs, rfl, h1, fun p n => post_lst hh kk n (Reps.take _ (Reps.reverse r1)) q⟩
end TL

/-! V20: x is True of any thing; texts by <=; in a sequence of any data -/
namespace TL
open PySem PySem.Spec PyProof.Rows L2
section
variable {K : PySem.W.Frag} {mg : Str → Option Value} {X : Cx}
/-! #### is True -/
def noBl : V → Bool
  | .non => true | .int _ => true | .str _ => true | .ref _ => true | _ => false
def rIsO (neg : Bool) : R2 := fun x y H Q => ∃ b, y = .bl b ∧ noBl x = true ∧ Q (.bl neg) H
theorem noBl_ne {x : V} {v : Value} (h : noBl x = true) (r : RelV x v) (b : Bool) : v ≠ .bool b ∧ plainIs v (.bool b) = true := by
  cases x <;> first | cases h | skip
  · obtain rfl : v = Value.none := r
    exact ⟨fun z => (nomatch z), rfl⟩
  · obtain ⟨t, rfl⟩ := r
    exact ⟨fun z => (nomatch z), rfl⟩
  · obtain ⟨t, rfl⟩ := r
    exact ⟨fun z => (nomatch z), rfl⟩
  · cases r
    exact ⟨fun z => (nomatch z), rfl⟩
theorem or_isO : OpR X (compareOp .Is) (rIsO false) := by
  intro pins s σ H x y v u Q I rx ry h
  obtain ⟨b, rfl, hx, q⟩ := h
  cases (show u = Value.bool b from ry)
  obtain ⟨n, p⟩ := noBl_ne hx rx b
  exact wpAny_is_other p n ⟨.bl false, H, I, rfl, q⟩
theorem or_isnO : OpR X (compareOp .IsNot) (rIsO true) := by
  intro pins s σ H x y v u Q I rx ry h
  obtain ⟨b, rfl, hx, q⟩ := h
  cases (show u = Value.bool b from ry)
  obtain ⟨n, p⟩ := noBl_ne hx rx b
  exact wpAny_isNot_other p n ⟨.bl true, H, I, rfl, q⟩
def oddB : D → Bool
  | .non => true | .int _ => true | .str _ => true | .lst _ => true | .tup _ => true | _ => false
def sIsO (neg : Bool) : S2
  | x, .bl _, P => oddB x = true ∧ P (fz (.bl neg))
  | _, _, _ => False
theorem bl_isO (neg : Bool) : BinL K mg (rIsO neg) (sIsO neg) := by
  intro hot H x y dx dy P Q hh rx ry q k
  cases dy <;> simp only [sIsO] at q <;> try exact q.elim
  refine ⟨_, ry.bl, ?_, post_fz hh k (.bl _) q.2⟩
  cases dx <;> first | (exact (Bool.false_ne_true q.1).elim) | skip
  · obtain rfl := rx.non; rfl
  · obtain rfl := rx.int; rfl
  · obtain ⟨rfl, _⟩ := rx.str; rfl
  · obtain ⟨a, vs, rfl, _⟩ := rx.lst; rfl
  · obtain ⟨a, vs, rfl, _⟩ := rx.tup; rfl
/-! #### texts by <= -/
def rLeAll : R2 := fun x y H Q => rI0 (fun i j => .bl (decide (i ≤ j))) x y H Q ∨ ∃ i j, x = .str i ∧ y = .str j ∧ Q (.bl (!decide (j.cps.toList < i.cps.toList))) H
theorem or_leA : OpR X (compareOp .LtE) rLeAll := OpR.or op_le op_le_str
def sLeS : S2
  | .int i, .int j, P => P (fz (.bl (decide (i ≤ j))))
  | .str s, .str t, P => P (fz (.bl (!decide (t.cps.toList < s.cps.toList))))
  | _, _, _ => False
theorem bl_leA : BinL K mg rLeAll sLeS := by
  intro hot H x y dx dy P Q hh rx ry q k
  cases dx <;> cases dy <;> simp only [sLeS] at q <;> try exact q.elim
  · exact .inl ⟨_, _, rx.int, ry.int, post_fz hh k (.bl _) q⟩
  · exact .inr ⟨_, _, rx.str.1, ry.str.1, post_fz hh k (.bl _) q⟩
/-! #### in, of any data -/
mutual
theorem plain_toPy : ∀ (d : D) (p : PyData), toPy d = some p → p.plain = true
  | .non, _, h => by cases h; rfl
  | .bl _, _, h => by cases h; rfl
  | .int _, _, h => by cases h; rfl
  | .str _, _, h => by cases h; rfl
  | .lst xs, p, h => by
    cases e : toPys xs with
    | none => simp [toPy, e] at h
    | some ps =>
      simp [toPy, e] at h
      subst h
      exact plains_toPy xs ps e
  | .tup xs, p, h => by
    cases e : toPys xs with
    | none => simp [toPy, e] at h
    | some ps =>
      simp [toPy, e] at h
      subst h
      exact plains_toPy xs ps e
  | .dic _ _, _, h => nomatch h
  | .fn _, _, h => nomatch h
  | .lse _, _, h => nomatch h
  | .own _ _, _, h => nomatch h
  | .ldc _ _, _, h => nomatch h
  | .box _, _, h => nomatch h
theorem plains_toPy : ∀ (ds : List D) (ps : List PyData), toPys ds = some ps → PyData.plainAll ps = true
  | [], _, h => by cases h; rfl
  | d :: ds, ps, h => by
    cases e1 : toPy d with
    | none => simp [toPys, e1] at h
    | some p =>
      cases e2 : toPys ds with
      | none => simp [toPys, e1, e2] at h
      | some qs =>
        simp [toPys, e1, e2] at h
        subst h
        simp only [PyData.plainAll, plain_toPy d p e1, plains_toPy ds qs e2, Bool.and_self]
end
theorem any_toPys {x : D} {p : PyData} (hx : toPy x = some p) : ∀ {ds : List D} {ps : List PyData}, toPys ds = some ps → (ps.any fun y => PyData.eqv y p) = inD x ds
  | [], _, h => by cases h; rfl
  | d :: ds, ps, h => by
    cases e1 : toPy d with
    | none => simp [toPys, e1] at h
    | some q =>
      cases e2 : toPys ds with
      | none => simp [toPys, e1, e2] at h
      | some qs =>
        simp [toPys, e1, e2] at h
        subst h
        have := any_toPys hx e2
        unfold inD at this ⊢
        rw [List.any_cons, List.any_cons, this, eqv_toPy d x q p e1 hx]
def rInP (K : PySem.W.Frag) (neg : Bool) : R2 := fun x y H Q => ∃ d ps tp, Dp K H x d ∧ Dp K H y (if tp = true then .tuple ps else .list ps) ∧ d.plain = true ∧ PyData.plainAll ps = true ∧ min (PyData.depthAll ps) d.depth ≤ 60 ∧ Q (.bl (if neg then !(ps.any fun y => PyData.eqv y d) else ps.any fun y => PyData.eqv y d)) H
theorem or_inP (hu : X.A.units + 64 < cLine) : OpR X (compareOp .In) (rInP X.K false) := by
  intro pins s σ H x y v u Q I rx ry h
  obtain ⟨d, ps, tp, hd, he, sd, se, hm, q⟩ := h
  obtain ⟨as, r1⟩ := Dp.reads I d x v hd rx
  obtain ⟨bs, r2⟩ := Dp.reads I _ y u he ry
  cases tp with
  | true => exact SeqAt.in_tuple_data r2 r1 se sd (by omega) ⟨.bl _, H, I, rfl, q⟩
  | false => exact SeqAt.in_list_data r2 r1 se sd (by omega) ⟨.bl _, H, I, rfl, q⟩
theorem or_ninP (hu : X.A.units + 64 < cLine) : OpR X (compareOp .NotIn) (rInP X.K true) := by
  intro pins s σ H x y v u Q I rx ry h
  obtain ⟨d, ps, tp, hd, he, sd, se, hm, q⟩ := h
  obtain ⟨as, r1⟩ := Dp.reads I d x v hd rx
  obtain ⟨bs, r2⟩ := Dp.reads I _ y u he ry
  cases tp with
  | true => exact SeqAt.notIn_tuple_data r2 r1 se sd (by omega) ⟨.bl _, H, I, rfl, q⟩
  | false => exact SeqAt.notIn_list_data r2 r1 se sd (by omega) ⟨.bl _, H, I, rfl, q⟩
def sInP (neg : Bool) : S2
  | x, .lst xs, P => pure' x = true ∧ pures xs = true ∧ depthDs xs ≤ 60 ∧ P (fz (.bl (if neg then !inD x xs else inD x xs)))
  | x, .tup xs, P => pure' x = true ∧ pures xs = true ∧ depthDs xs ≤ 60 ∧ P (fz (.bl (if neg then !inD x xs else inD x xs)))
  | _, _, _ => False
theorem bl_inP (neg : Bool) : BinL K mg (rInP K neg) (sInP neg) := by
  intro hot H x y dx dy P Q hh rx ry q k
  have key : ∀ (xs : List D) (tp : Bool), dy = (if tp = true then .tup xs else .lst xs) → pure' dx = true → pures xs = true → depthDs xs ≤ 60 → P (fz (.bl (if neg then !inD dx xs else inD dx xs))) → rInP K neg x y H Q := by
    intro xs tp hdy p1 p2 p3 p
    obtain ⟨d, e1⟩ := toPy_pure dx p1
    have hy : pure' dy = true := by subst hdy; cases tp <;> exact p2
    obtain ⟨e, e2⟩ := toPy_pure dy hy
    obtain ⟨h1, c1⟩ := rx.dp e1
    obtain ⟨h2, c2⟩ := ry.dp e2
    have hps : ∃ ps, toPys xs = some ps ∧ e = (if tp = true then .tuple ps else .list ps) := by
      subst hdy
      cases h : toPys xs with
      | none => cases tp <;> simp [toPy, h] at e2
      | some ps => cases tp <;> simp [toPy, h] at e2 <;> exact ⟨ps, rfl, e2.symm⟩
    obtain ⟨ps, e3, rfl⟩ := hps
    refine ⟨d, ps, tp, h1, h2, plain_toPy _ _ e1, plains_toPy _ _ e3, ?_, ?_⟩
    · have hd : PyData.depth (.list ps) = depthD (.lst xs) := depth_toPy _ _ (by simp [toPy, e3])
      simp only [PyData.depth, depthD] at hd
      omega
    · rw [any_toPys e1 e3]
      exact post_fz hh k (.bl _) p
  cases dy <;> first | (cases dx <;> exact q.elim) | skip
  · rename_i xs
    have q : pure' dx = true ∧ pures xs = true ∧ depthDs xs ≤ 60 ∧ P (fz (.bl (if neg then !inD dx xs else inD dx xs))) := by cases dx <;> exact q
    exact key xs false rfl q.1 q.2.1 q.2.2.1 q.2.2.2
  · rename_i xs
    have q : pure' dx = true ∧ pures xs = true ∧ depthDs xs ≤ 60 ∧ P (fz (.bl (if neg then !inD dx xs else inD dx xs))) := by cases dx <;> exact q
    exact key xs true rfl q.1 q.2.1 q.2.2.1 q.2.2.2
end
end TL

/-! V21: sorted(set(x)) of texts -/
namespace TL
open PySem PySem.Spec PyProof.Rows L2
/-! ### sets of texts -/
def keyX (e : Int × Value) : Str := match e.2 with
  | .str k _ => k
  | _ => Str.empty
def EntX (w : World) (e : Int × Value) : Prop := ∃ k u, e.2 = Value.str k u ∧ e.1 = hashStr w k
/-- the set at a has just the texts L, each once -/
def SetX (w : World) (h : Heap) (a : Addr) (L : List Str) : Prop := ∃ ob es ep tb, h.get? a = some ob ∧ ob.ExactSet ∧ ob.data = .set es ep tb ∧ (∀ e ∈ es.toList, EntX w e) ∧ (es.toList.map keyX).Perm L ∧ L.Nodup ∧ es.size < scanBound ∧
  tb.fits es.size = true ∧ Ris tb.place.toList ∧ (w.params.followText "set-order" = true ∨ tb.led = true)
theorem SetX.moved {w : World} {h g : Heap} {a : Addr} {L : List Str} (R : SetX w h a L) (k : ∀ ob, h.get? a = some ob → g.get? a = some ob) : SetX w g a L := by
  obtain ⟨ob, es, ep, tb, e1, e2⟩ := R
  exact ⟨ob, es, ep, tb, k ob e1, e2⟩
section
variable {P : Program} {w : World}
theorem strK_is (k : Str) (u : Tok) : (PySem.strKind P w).is k (.str k u) = true := PySem.strKind_is P w k u
theorem strK_at {k : Str} {v : Value} (h : (PySem.strKind P w).is k v = true) : ∃ u, v = .str k u := Value.isStrOf_shape h
theorem goodX_is {e : Int × Value} (g : EntX w e) (k : Str) : (PySem.strKind P w).is k e.2 = true ↔ keyX e = k := by
  obtain ⟨x, u, e1, _⟩ := g
  unfold keyX
  rw [e1]
  constructor
  · intro z
    obtain ⟨v, e2⟩ := strK_at z
    injection e2
  · intro z
    obtain rfl : x = k := z
    exact strK_is _ _
theorem goodX_els {l : List (Int × Value)} (g : ∀ e ∈ l, EntX w e) : ElemsOf (PySem.strKind P w) l := fun e he => by
  obtain ⟨k, u, e1, e2⟩ := g e he
  exact ⟨⟨k, by rw [e1]; exact strK_is k u, e2⟩, by rw [e1]; rfl⟩
theorem goodX_mem {l : List (Int × Value)} (g : ∀ e ∈ l, EntX w e) (k : Str) : k ∈ l.map keyX ↔ ∃ e ∈ l, (PySem.strKind P w).is k e.2 = true := by
  rw [List.mem_map]
  exact ⟨fun ⟨e, m, z⟩ => ⟨e, m, (goodX_is (P := P) (g e m) k).2 z⟩, fun ⟨e, m, z⟩ => ⟨e, m, (goodX_is (P := P) (g e m) k).1 z⟩⟩
end
section
variable {P : Program} {w : World} {A : Around} {E : Value → Shared → Prop} {s : Shared} {a : Addr} {L : List Str}
theorem setX_tail {g : Bool → Sem Unit} (hg : ∀ (b : Bool) (t1 : Shared) (N : Unit → Shared → Prop), N () t1 → wpAny (model P w) A (g b) N E t1)
    {ob : Obj} {es : Array (Int × Value)} {ep : Nat} {tb : SetTable} (e1 : s.heap.get? a = some ob) (ex : ob.ExactSet) (e2 : ob.data = .set es ep tb)
    {fs : Array (Int × Value)} {tc : SetTable} {M : List Str} (f1 : ∀ e ∈ fs.toList, EntX w e) (f2 : (fs.toList.map keyX).Perm M) (f3 : M.Nodup) (f4 : fs.size < scanBound) (f5 : tc.fits fs.size = true) (f6 : Ris tc.place.toList)
    (f7 : w.params.followText "set-order" = true ∨ tc.led = true) {dm : Bool} {N : Option Bool → Shared → Prop}
    (q : ∀ h', Heap.SameBut a s.heap h' → SetX w h' a M → N (some true) { s with heap := h' }) :
    wpAny (model P w) A (do
        storeSet a fs tc
        if (!dm && tc.tooFull) = true then do
            g (relayAll tc fs (SetTable.grown fs.size)).2.2
            storeSet a (relayAll tc fs (SetTable.grown fs.size)).1 (relayAll tc fs (SetTable.grown fs.size)).2.1
            pure (some true)
          else pure (some true)) N E s := by
  refine wpAny_bind (wpAny_storeSet_of e1 e2 ?_ (fits_of_scanBound f4))
  have at1 := store_at (es' := fs) (t' := tc) e1 e2
  have b1 := Heap.SameBut.update s.heap a (Obj.putSet fs tc)
  split
  · have z1 := relayAll_perm tc fs (SetTable.grown fs.size)
    have z2 := relayAll_fits tc fs (SetTable.grown fs.size)
    have z3 := relayAll_ris tc fs (SetTable.grown fs.size)
    have z4 := relayAll_led tc fs (SetTable.grown fs.size)
    generalize relayAll tc fs (SetTable.grown fs.size) = Z at z1 z2 z3 z4 ⊢
    obtain ⟨gs, td, gv⟩ := Z
    dsimp only at z1 z2 z3 z4 ⊢
    have sz : gs.size = fs.size := by rw [← Array.length_toList, z1.length_eq, Array.length_toList]
    have lt : gs.size < scanBound := by omega
    refine wpAny_bind (hg _ _ _ ?_)
    refine wpAny_bind (wpAny_storeSet_of at1 rfl ?_ (fits_of_scanBound lt))
    have at2 := store_at (es' := gs) (t' := td) at1 rfl
    refine wpAny_pure (q _ (b1.trans (Heap.SameBut.update _ a _)) ?_)
    exact ⟨_, gs, _, td, at2, ex, rfl, fun e he => f1 e (z1.mem_iff.mp he), (z1.map keyX).trans f2, f3, lt, z2, z3, f7.imp id fun z => by rw [z4]; exact z⟩
  · exact wpAny_pure (q _ b1 ⟨_, fs, _, tc, at1, ex, rfl, f1, f2, f3, f4, f5, f6, f7⟩)
def addX (L : List Str) (k : Str) : List Str := if k ∈ L then L else k :: L
theorem setX_add {k : Str} {u : Tok} {N : Bool → Shared → Prop} (R : SetX w s.heap a L) (room : L.length + 1 < scanBound)
    (q : ∀ b h', Heap.SameBut a s.heap h' → SetX w h' a (addX L k) → N b { s with heap := h' }) :
    wpAny (model P w) A (setAddHashed a (.str k u) ((PySem.strKind P w).hash k)) N E s := by
  obtain ⟨ob, es, ep, tb, e1, ex, e2, f1, f2, f3, f4, f5, f6, f7⟩ := R
  have ik : (PySem.strKind P w).is k (.str k u) = true := strK_is k u
  have sc : (Value.str k u).scannable = true := rfl
  have els : ElemsOf (PySem.strKind P w) es.toList := goodX_els f1
  have szL : es.size = L.length := by
    have z := f2.length_eq
    rw [List.length_map, Array.length_toList] at z
    exact z
  unfold setAddHashed setAddHashedIn
  refine wpAny_holding (wpAny_bind (wpAny_setState_of e1 e2 f5 ?_))
  dsimp only
  rw [byScan_of sc f4 els]
  simp only [↓reduceIte]
  unfold setAddByScan
  refine wpAny_bind (wpAny_bind (wpAny_rule ?_))
  refine wpAny_bind (wpAny_setScan_of ik e1 e2 f5 els ?_)
  cases fi : List.findIdx? (fun e => (PySem.strKind P w).is k e.2) es.toList with
  | some j =>
    dsimp only
    obtain ⟨hj, pj, _⟩ := List.findIdx?_eq_some_iff_getElem.mp fi
    have inL : k ∈ L := f2.mem_iff.mp ((goodX_mem (P := P) f1 k).2 ⟨es.toList[j], List.getElem_mem hj, pj⟩)
    refine wpAny_pure (wpAny_pure ?_)
    have z := q false s.heap (Heap.SameBut.refl a s.heap) (by unfold addX; rw [if_pos inL]; exact ⟨ob, es, ep, tb, e1, ex, e2, f1, f2, f3, f4, f5, f6, f7⟩)
    exact z
  | none =>
    dsimp only
    have no : k ∉ es.toList.map keyX := fun z => by
      obtain ⟨e, m, y⟩ := (goodX_mem (P := P) f1 k).1 z
      have c := List.findIdx?_eq_none_iff.mp fi e m
      rw [y] at c
      cases c
    have noL : k ∉ L := fun z => no (f2.mem_iff.mpr z)
    have gw : ∀ (b : Bool) {t1 : Shared} {N' : Unit → Shared → Prop}, N' () t1 → wpAny (model P w) A (match b with | true => rule "set.scan.the-table-gave-way" | false => pure ()) N' E t1 := by
      intro b t1 N' z
      cases b
      · exact wpAny_pure z
      · exact wpAny_rule z
    have y1 := layNew_perm tb es ((PySem.strKind P w).hash k) (.str k u)
    have y2 := layNew_fits tb es ((PySem.strKind P w).hash k) (.str k u)
    have y3 := layNew_ris tb es ((PySem.strKind P w).hash k) (.str k u) f6
    have y4 := layNew_led tb es ((PySem.strKind P w).hash k) (.str k u)
    generalize layNew tb es ((PySem.strKind P w).hash k) (.str k u) = Z at y1 y2 y3 y4 ⊢
    obtain ⟨fs, tc, dm, gv⟩ := Z
    dsimp only at y1 y2 y3 y4 ⊢
    rw [Array.toList_push] at y1
    have pc : fs.toList.Perm (((PySem.strKind P w).hash k, Value.str k u) :: es.toList) := y1.trans (List.perm_append_singleton _ _)
    have pk : (fs.toList.map keyX).Perm (k :: es.toList.map keyX) := pc.map keyX
    have g1 : ∀ e ∈ fs.toList, EntX w e := fun e he => by
      rcases List.mem_cons.mp (pc.mem_iff.mp he) with z | z
      · rw [z]; exact ⟨k, u, rfl, rfl⟩
      · exact f1 e z
    have eL : addX L k = k :: L := by unfold addX; rw [if_neg noL]
    have g2 : (fs.toList.map keyX).Perm (addX L k) := by rw [eL]; exact pk.trans (f2.cons k)
    have g3 : (addX L k).Nodup := by rw [eL]; exact List.nodup_cons.mpr ⟨noL, f3⟩
    have sz : fs.size = L.length + 1 := by rw [← Array.length_toList, pc.length_eq, List.length_cons, Array.length_toList, szL]
    have g4 : fs.size < scanBound := by omega
    have g7 : w.params.followText "set-order" = true ∨ tc.led = true := f7.imp id fun z => by rw [y4]; exact z
    refine wpAny_bind (gw _ ?_)
    split
    · refine wpAny_bind ?_
      rw [hashByValue_scannable 8 sc]
      refine wpAny_pure ?_
      refine setX_tail (M := addX L k) ?_ e1 ex e2 g1 g2 g3 g4 ?_ ?_ ?_ ?_
      · intro b t1 N' z
        cases b
        · exact wpAny_pure z
        · exact wpAny_rule z
      · split
        · exact y2
        · exact SetTable.fits_plain_off y2
      · split <;> exact y3
      · split <;> exact g7
      · intro h' sb r; dsimp only; exact wpAny_pure (q _ h' sb r)
    · refine wpAny_bind (wpAny_pure ?_)
      simp only [↓reduceIte]
      refine setX_tail (M := addX L k) ?_ e1 ex e2 g1 g2 g3 g4 y2 y3 g7 ?_
      · intro b t1 N' z
        cases b
        · exact wpAny_pure z
        · exact wpAny_rule z
      · intro h' sb r; dsimp only; exact wpAny_pure (q _ h' sb r)
end
/-- what the set has got from a row of texts -/
def addsX (ss : List Str) : List Str := ss.foldl addX []
theorem addX_len (L : List Str) (k : Str) : (addX L k).length ≤ L.length + 1 := by
  unfold addX
  split
  · omega
  · rw [List.length_cons]; exact Nat.le_refl _
theorem foldX_len : ∀ (ss L : List Str), (ss.foldl addX L).length ≤ L.length + ss.length
  | [], L => Nat.le_refl _
  | k :: ss, L => by
    have a := foldX_len ss (addX L k)
    have b := addX_len L k
    rw [List.foldl_cons, List.length_cons]
    omega
theorem addsX_next {ss : List Str} {i : Nat} {x : Str} (h : ss[i]? = some x) : addsX (ss.take (i + 1)) = addX (addsX (ss.take i)) x := by
  unfold addsX
  rw [List.take_add_one, h, List.foldl_append]
  rfl
theorem addX_nd {L : List Str} (h : L.Nodup) (k : Str) : (addX L k).Nodup := by
  unfold addX
  split
  · exact h
  · rename_i c
    exact List.nodup_cons.mpr ⟨c, h⟩
theorem foldX_nd : ∀ (ss L : List Str), L.Nodup → (ss.foldl addX L).Nodup
  | [], _, h => h
  | k :: ss, L, h => foldX_nd ss _ (addX_nd h k)
theorem addX_mem {L : List Str} {k x : Str} : x ∈ addX L k ↔ x = k ∨ x ∈ L := by
  unfold addX
  split
  · rename_i c
    exact ⟨.inr, fun z => z.elim (fun e => e ▸ c) id⟩
  · exact List.mem_cons
theorem foldX_mem : ∀ (ss L : List Str) (x : Str), x ∈ ss.foldl addX L ↔ x ∈ L ∨ x ∈ ss
  | [], L, x => by simp
  | k :: ss, L, x => by
    rw [List.foldl_cons, foldX_mem ss _ x, addX_mem, List.mem_cons]
    constructor
    · rintro ((z | z) | z)
      · exact .inr (.inl z)
      · exact .inl z
      · exact .inr (.inr z)
    · rintro (z | z | z)
      · exact .inl (.inr z)
      · exact .inl (.inl z)
      · exact .inr z
section
variable {P : Program} {w : World} {A : Around} {E : Value → Shared → Prop} {s : Shared}
theorem newX {h : Heap} {a : Addr} (e : h.get? a = some { cls := .type "set", dict := none, data := .set #[] 0 (.fresh 0 0 (!w.params.followText "set-order")) }) : SetX w h a [] := by
  refine ⟨_, #[], 0, _, e, ⟨rfl, rfl, rfl⟩, rfl, (fun e he => by simp at he), List.Perm.refl _, List.nodup_nil, by decide, (by rfl), List.Pairwise.nil, ?_⟩
  show _ ∨ (!w.params.followText "set-order") = true
  cases w.params.followText "set-order"
  · exact .inr rfl
  · exact .inl rfl
theorem updX {I : Addr} {fp wr : List Addr} {G : Array GenState → Array GenState → Prop} {n : Nat} {Pv : Nat → Value → Prop} {Sg : Nat → Shared → Prop} {N : Result → Shared → Prop}
    (W : WalksS P w A.in1 I fp wr G n Pv Sg) (S : Addr) (nS : S ∉ fp) (ss : List Str) (en : n = ss.length) (hb : ss.length + 1 < scanBound) (hv : ∀ i v, Pv i v → ∃ k u, ss[i]? = some k ∧ v = .str k u) :
    ∀ (m i : Nat) (s : Shared), n - i = m → i ≤ n → Sg i s → SetX w s.heap S (addsX (ss.take i)) →
      (∀ s', Moved (S :: wr) G s s' → SetX w s'.heap S (addsX ss) → N (.ok (.ret .none)) s') →
      codeAny (model P w) A (.builtin "set.update.loop" ⟨[.ref S, .ref I], []⟩) N s := by
  have nw : S ∉ wr := fun z => nS (W.sub _ z)
  have up : ∀ b ∈ wr, b ∈ S :: wr := fun b z => List.mem_cons_of_mem _ z
  intro m
  induction m with
  | zero =>
    intro i s em li st R q
    obtain rfl : i = n := by omega
    refine codeAny_builtin F.entry_set_update_loop ?_
    rw [Around.under_plainId F.plain_set_update_loop _]
    show wpAny _ A.in1 (pyNext (.ref I) >>= _) _ _ s
    refine wpAny_bind (W.done s _ _ st fun s' mv => ?_)
    show wpAny _ A.in1 (ret Value.none) _ _ s'
    rw [show ss.take i = ss from List.take_of_length_le (by omega)] at R
    exact wpAny_pure (q s' (mv.mono up) (R.moved fun ob e => mv.heap S ob nw e))
  | succ m ih =>
    intro i s em li st R q
    have lt : i < n := by omega
    refine codeAny_builtin F.entry_set_update_loop ?_
    rw [Around.under_plainId F.plain_set_update_loop _]
    show wpAny _ A.in1 (pyNext (.ref I) >>= _) _ _ s
    refine wpAny_bind (W.item i s _ _ lt st fun v s' pv st' mv => ?_)
    obtain ⟨x, u, ex, rfl⟩ := hv i v pv
    have R1 : SetX w s'.heap S (addsX (ss.take i)) := R.moved fun ob e => mv.heap S ob nw e
    show wpAny _ A.in1 (holding [Value.str x u] (setAdd S (.str x u)) >>= _) _ _ s'
    refine wpAny_bind (wpAny_holding ?_)
    unfold setAdd
    refine wpAny_holding ?_
    refine wpAny_bind ((PySem.strKind P w).pyHash (k := x) (strK_is _ _) ?_)
    have ln : (addsX (ss.take i)).length ≤ i := by
      have z := foldX_len (ss.take i) []
      rw [List.length_take] at z
      simp at z
      exact Nat.le_trans z (Nat.min_le_left _ _)
    refine setX_add (s := { s' with toks := s'.toks + 1 }) R1 (by omega) fun b h' sb R2 => ?_
    rw [← addsX_next ex] at R2
    refine wpAny_pure ⟨plainId_quiet F.plain_set_update_loop _, ih (i + 1) _ (by omega) lt (W.frame _ s' _ _ st' (Nat.le_succ _) fun c hc ob e => ?_) R2 fun t' mv2 R3 => ?_⟩
    · have z := sb.2 c (fun y : c = S => nS (by rw [← y]; exact hc))
      rw [z]; exact e
    · refine q t' (Moved.trans W.gtrans ((mv.mono up).then_heap (Nat.le_succ _) fun c ob hc e => ?_) mv2) R3
      have z := sb.2 c (fun y : c = S => hc (by rw [y]; exact List.mem_cons_self))
      rw [z]; exact e
end
end TL

/-! V22: set(x) of texts -/
namespace TL
open PySem PySem.Spec PyProof.Rows L2
theorem strs_nth : ∀ {us : List Value} {ss : List Str} {i : Nat} {v : Value}, StrsAre us ss → us[i]? = some v → ∃ k u, ss[i]? = some k ∧ v = .str k u
  | _, _, i, v, .nil, e => by simp at e
  | _, _, 0, v, .cons n t r, e => by
    simp at e
    exact ⟨_, t, rfl, e.symm⟩
  | _, _, i + 1, v, .cons n t r, e => by
    obtain ⟨k, u, e1, e2⟩ := strs_nth (i := i) r (by simpa using e)
    exact ⟨k, u, by simpa using e1, e2⟩
abbrev setOb (w : World) : Obj := { cls := .type "set", dict := none, data := .set #[] 0 (.fresh 0 0 (!w.params.followText "set-order")) }

set_option maxRecDepth 100000 in
set_option maxHeartbeats 3200000 in
/-- set(x), x a list of texts -/
theorem setX_list {P : Program} {w : World} {A : Around} {E : Value → Shared → Prop} {s : Shared} {l : Addr} {its : Array Value} (ss : List Str) {N : Value → Shared → Prop} (hd : A.handled = none) (hl : s.heap.IsList l its) (hi : StrsAre its.toList ss) (hb : ss.length + 1 < scanBound)
    (q : ∀ (g : Heap) (tk : Nat), SetX w g s.heap.objs.size (addsX ss) → (∀ b ob, s.heap.get? b = some ob → g.get? b = some ob) → N (.ref s.heap.objs.size) { s with heap := g, toks := tk }) :
    wpAny (model P w) A (call (.type "set") [.ref l]) N E s := by
  have sz : its.size = ss.length := by
    have z := hi.length
    rw [Array.length_toList] at z
    exact z
  obtain ⟨mc, mt, mro⟩ := F.called_set.mro
  have made := F.called_set.made
  have isub := F.called_set.sub
  refine wpAny_call (codeAny_of_tree ?_)
  show wpAny _ _ (callAny (.type "set") _) _ _ _
  refine wpAny_pure ⟨Code.quiet_builtin _ (by decide +kernel), codeAny_builtin F.entry_type_call ?_⟩
  rw [Around.under_plain (weight_type_call_type "set" [.ref l] []) rfl]
  have c1 := F.called_set.notType
  have c2 := F.called_set.canCreate
  have c3 := F.typeCall_set_1 (.ref l)
  repeat (any_goals (first | assumption | wp_step))
  refine codeAny_mono (code_set_led1 (.ref l) (E := E) (Q₁ := fun v t1 => v = .ref s.heap.objs.size ∧ t1 = { s with heap := s.heap.push (setOb w) }) ⟨rfl, rfl⟩) fun r t1 hr => ?_
  cases r with
  | error e => exact hr
  | ok fl =>
    cases fl with
    | ret v =>
      obtain ⟨rfl, rfl⟩ := hr
      have atS : (s.heap.push (setOb w)).get? s.heap.objs.size = some (setOb w) := Heap.get?_push_size _ rfl
      have tyS : Shared.TypeIs { s with heap := s.heap.push (setOb w) } (.ref s.heap.objs.size) "set" := ⟨_, atS, rfl⟩
      have li := F.called_set.init.lookup
      have bi := F.called_set.init.bind (.ref s.heap.objs.size)
      repeat (any_goals (first | assumption | wp_step))
      refine codeAny_mono (codeAny_call_builtin (R := wants (fun r t2 => r = .none ∧ ∃ g tk, t2 = { s with heap := g, toks := tk } ∧ SetX w g s.heap.objs.size (addsX ss) ∧
          (∀ b ob, s.heap.get? b = some ob → g.get? b = some ob)) E) F.called_set.init.plain F.entry_set_init (check_set_init_1 tyS ?_)) fun r2 t2 hr2 => ?_
      · obtain ⟨ol, al, cl, nl, dl⟩ := hl
        obtain ⟨x1, x2, x3, x4⟩ := ol
        simp only at cl dl
        subst cl; subst dl
        have al2 : (s.heap.push (setOb w)).get? l = some { cls := .type "list", dict := x2, data := .seq its nl, slots := x4 } := Heap.get?_push_of_some _ al
        have n1 := F.sub_list_set
        have n2 := F.sub_list_frozenset
        have n3 : (Value.type "list" == Value.type "dict") = false := by decide
        have al3 : (s.heap.push (setOb w)).IsList l its := ⟨_, al2, rfl, nl, rfl⟩
        unfold Builtin.«set.__init__» noKeywords Builtin.Frozenset.updateFrom
        generalize ePI : pyIter = PI
        wp_walk
        subst ePI
        refine wpAny_pyIter_list al3 ?_
        refine wpAny_bind (wpAny_runValue ?_)
        have lS : l < s.heap.objs.size := Heap.lt_size al
        have d3 : A.in1.in1.in1.handled = none := by simp [hd]
        have eI : (s.heap.push (setOb w)).objs.size = s.heap.objs.size + 1 := Heap.size_push ..
        have neI : l ≠ (s.heap.push (setOb w)).objs.size := Nat.ne_of_lt (by rw [eI]; exact Nat.lt_succ_of_lt lS)
        have nS : s.heap.objs.size ∉ [(s.heap.push (setOb w)).objs.size, l] := by
          rw [eI]
          intro z
          rcases List.mem_cons.mp z with z | z
          · exact absurd z (Nat.ne_of_lt (Nat.lt_succ_self _))
          · exact absurd (List.mem_singleton.mp z) (Nat.ne_of_gt lS)
        have vs : ∀ (i : Nat) (v : Value), its[i]? = some v → ∃ k u, ss[i]? = some k ∧ v = .str k u := fun i v e => by
          have e2 : its.toList[i]? = some v := by rw [Array.getElem?_toList]; exact e
          exact strs_nth hi e2
        refine updX ((Walks.list d3 _ l neI its).toS) s.heap.objs.size nS ss sz hb vs (its.size - 0) 0 _ (by omega) (Nat.zero_le _)
          ⟨⟨_, Heap.get?_push_size _ rfl, rfl, rfl⟩, (al3.push _)⟩ ?_ ?_
        · exact newX (Heap.get?_push_of_some _ atS)
        · intro s' mv R
          obtain ⟨g, g2, d', tk', os'⟩ := s'
          have eg : g2 = s.gens := mv.gens
          have ed : d' = s.drawn := mv.drawn
          have eo : os' = s.os := mv.os
          subst eg; subst ed; subst eo
          show wpAny _ _ _ _ _ _
          refine wpAny_pure ?_
          show wpAny _ _ (ret Value.none) _ _ _
          refine wpAny_pure ⟨rfl, g, tk', rfl, R, fun b ob e => ?_⟩
          have lb : b < s.heap.objs.size := Heap.lt_size e
          refine mv.heap b ob (fun z => ?_) (Heap.get?_push_of_some _ (Heap.get?_push_of_some _ e))
          rcases List.mem_cons.mp z with z | z
          · exact absurd z (Nat.ne_of_lt lb)
          · exact absurd ((List.mem_singleton.mp z).trans eI) (Nat.ne_of_lt (Nat.lt_succ_of_lt lb))
      · cases r2 with
        | error e => exact hr2
        | ok fl2 =>
          cases fl2 with
          | ret r =>
            obtain ⟨rfl, g, tk, rfl, R, kp⟩ := hr2
            repeat (any_goals (first | assumption | wp_step))
            exact q _ _ R kp
          | _ => exact hr2.elim
    | _ => exact hr.elim

set_option maxRecDepth 100000 in
set_option maxHeartbeats 3200000 in
/-- set(x), x a tuple of texts -/
theorem setX_tuple {P : Program} {w : World} {A : Around} {E : Value → Shared → Prop} {s : Shared} {l : Addr} {its : Array Value} (ss : List Str) {N : Value → Shared → Prop} (hd : A.handled = none) (hl : s.heap.IsTuple l its) (hi : StrsAre its.toList ss) (hb : ss.length + 1 < scanBound)
    (q : ∀ (g : Heap) (tk : Nat), SetX w g s.heap.objs.size (addsX ss) → (∀ b ob, s.heap.get? b = some ob → g.get? b = some ob) → N (.ref s.heap.objs.size) { s with heap := g, toks := tk }) :
    wpAny (model P w) A (call (.type "set") [.ref l]) N E s := by
  have sz : its.size = ss.length := by
    have z := hi.length
    rw [Array.length_toList] at z
    exact z
  obtain ⟨mc, mt, mro⟩ := F.called_set.mro
  have made := F.called_set.made
  have isub := F.called_set.sub
  refine wpAny_call (codeAny_of_tree ?_)
  show wpAny _ _ (callAny (.type "set") _) _ _ _
  refine wpAny_pure ⟨Code.quiet_builtin _ (by decide +kernel), codeAny_builtin F.entry_type_call ?_⟩
  rw [Around.under_plain (weight_type_call_type "set" [.ref l] []) rfl]
  have c1 := F.called_set.notType
  have c2 := F.called_set.canCreate
  have c3 := F.typeCall_set_1 (.ref l)
  repeat (any_goals (first | assumption | wp_step))
  refine codeAny_mono (code_set_led1 (.ref l) (E := E) (Q₁ := fun v t1 => v = .ref s.heap.objs.size ∧ t1 = { s with heap := s.heap.push (setOb w) }) ⟨rfl, rfl⟩) fun r t1 hr => ?_
  cases r with
  | error e => exact hr
  | ok fl =>
    cases fl with
    | ret v =>
      obtain ⟨rfl, rfl⟩ := hr
      have atS : (s.heap.push (setOb w)).get? s.heap.objs.size = some (setOb w) := Heap.get?_push_size _ rfl
      have tyS : Shared.TypeIs { s with heap := s.heap.push (setOb w) } (.ref s.heap.objs.size) "set" := ⟨_, atS, rfl⟩
      have li := F.called_set.init.lookup
      have bi := F.called_set.init.bind (.ref s.heap.objs.size)
      repeat (any_goals (first | assumption | wp_step))
      refine codeAny_mono (codeAny_call_builtin (R := wants (fun r t2 => r = .none ∧ ∃ g tk, t2 = { s with heap := g, toks := tk } ∧ SetX w g s.heap.objs.size (addsX ss) ∧
          (∀ b ob, s.heap.get? b = some ob → g.get? b = some ob)) E) F.called_set.init.plain F.entry_set_init (check_set_init_1 tyS ?_)) fun r2 t2 hr2 => ?_
      · obtain ⟨ol, al, cl, nl, dl⟩ := hl
        obtain ⟨x1, x2, x3, x4⟩ := ol
        simp only at cl dl
        subst cl; subst dl
        have al2 : (s.heap.push (setOb w)).get? l = some { cls := .type "tuple", dict := x2, data := .seq its nl, slots := x4 } := Heap.get?_push_of_some _ al
        have n1 := F.sub_tuple_set
        have n2 := F.sub_tuple_frozenset
        have n3 : (Value.type "tuple" == Value.type "dict") = false := by decide
        have al3 : (s.heap.push (setOb w)).IsTuple l its := ⟨_, al2, rfl, nl, rfl⟩
        unfold Builtin.«set.__init__» noKeywords Builtin.Frozenset.updateFrom
        generalize ePI : pyIter = PI
        wp_walk
        subst ePI
        refine wpAny_pyIter_tuple al3 ?_
        refine wpAny_bind (wpAny_runValue ?_)
        have lS : l < s.heap.objs.size := Heap.lt_size al
        have d3 : A.in1.in1.in1.handled = none := by simp [hd]
        have eI : (s.heap.push (setOb w)).objs.size = s.heap.objs.size + 1 := Heap.size_push ..
        have neI : l ≠ (s.heap.push (setOb w)).objs.size := Nat.ne_of_lt (by rw [eI]; exact Nat.lt_succ_of_lt lS)
        have nS : s.heap.objs.size ∉ [(s.heap.push (setOb w)).objs.size, l] := by
          rw [eI]
          intro z
          rcases List.mem_cons.mp z with z | z
          · exact absurd z (Nat.ne_of_lt (Nat.lt_succ_self _))
          · exact absurd (List.mem_singleton.mp z) (Nat.ne_of_gt lS)
        have vs : ∀ (i : Nat) (v : Value), its[i]? = some v → ∃ k u, ss[i]? = some k ∧ v = .str k u := fun i v e => by
          have e2 : its.toList[i]? = some v := by rw [Array.getElem?_toList]; exact e
          exact strs_nth hi e2
        refine updX ((Walks.tuple d3 _ l neI its).toS) s.heap.objs.size nS ss sz hb vs (its.size - 0) 0 _ (by omega) (Nat.zero_le _)
          ⟨⟨_, Heap.get?_push_size _ rfl, rfl, rfl⟩, (al3.push _)⟩ ?_ ?_
        · exact newX (Heap.get?_push_of_some _ atS)
        · intro s' mv R
          obtain ⟨g, g2, d', tk', os'⟩ := s'
          have eg : g2 = s.gens := mv.gens
          have ed : d' = s.drawn := mv.drawn
          have eo : os' = s.os := mv.os
          subst eg; subst ed; subst eo
          show wpAny _ _ _ _ _ _
          refine wpAny_pure ?_
          show wpAny _ _ (ret Value.none) _ _ _
          refine wpAny_pure ⟨rfl, g, tk', rfl, R, fun b ob e => ?_⟩
          have lb : b < s.heap.objs.size := Heap.lt_size e
          refine mv.heap b ob (fun z => ?_) (Heap.get?_push_of_some _ (Heap.get?_push_of_some _ e))
          rcases List.mem_cons.mp z with z | z
          · exact absurd z (Nat.ne_of_lt lb)
          · exact absurd ((List.mem_singleton.mp z).trans eI) (Nat.ne_of_lt (Nat.lt_succ_of_lt lb))
      · cases r2 with
        | error e => exact hr2
        | ok fl2 =>
          cases fl2 with
          | ret r =>
            obtain ⟨rfl, g, tk, rfl, R, kp⟩ := hr2
            repeat (any_goals (first | assumption | wp_step))
            exact q _ _ R kp
          | _ => exact hr2.elim
    | _ => exact hr.elim
end TL

/-! V23: sorted(set(x)) of texts, as a term -/
namespace TL
open PySem PySem.Spec PyProof.Rows L2
def leX (a b : Str) : Bool := leS (.str a) (.str b)
theorem leX_eq (a b : Str) : leX a b = decide (a.cps.toList ≤ b.cps.toList) := by
  have h := congrFun (congrFun (PySem.W.dataLe_str (fun x : Str => x)) a) b
  exact h
theorem leX_tr (a b c : Str) (h1 : leX a b = true) (h2 : leX b c = true) : leX a c = true := (PySem.W.sortLe_total (PyProof.Rows.listOrd PyProof.Rows.itemOrd) false (fun p : Str => PySem.W.keyToks (.str p))).trans a b c h1 h2
theorem leX_to (a b : Str) : (leX a b || leX b a) = true := by
  rw [Bool.or_eq_true]
  exact (PySem.W.sortLe_total (PyProof.Rows.listOrd PyProof.Rows.itemOrd) false (fun p : Str => PySem.W.keyToks (.str p))).total a b
theorem leX_anti {a b : Str} (h1 : leX a b = true) (h2 : leX b a = true) : a = b := by
  have e1 : (!(listOrd itemOrd).blt (PySem.W.keyToks (.str b)) (PySem.W.keyToks (.str a))) = true := h1
  have e2 : (!(listOrd itemOrd).blt (PySem.W.keyToks (.str a)) (PySem.W.keyToks (.str b))) = true := h2
  have e := (listOrd itemOrd).total _ _ (by simpa using e2) (by simpa using e1)
  have e3 : [(Sum.inr a.cps.toList : Int ⊕ List Nat)] = [Sum.inr b.cps.toList] := e
  simp only [List.cons.injEq, Sum.inr.injEq, and_true] at e3
  exact PySem.W.str_of_cps e3
/-- ascending, each once -/
def usort (ss : List Str) : List Str := (addsX ss).mergeSort leX
theorem leX_uniq : ∀ {l m : List Str}, l.Perm m → l.Pairwise (fun a b => leX a b = true) → m.Pairwise (fun a b => leX a b = true) → l = m
  | [], m, p, _, _ => (List.nil_perm.mp p).symm ▸ rfl
  | a :: l, m, p, h1, h2 => by
    cases m with
    | nil => exact absurd p.symm (by simp)
    | cons b m =>
      have e : a = b := by
        rcases List.mem_cons.mp (p.mem_iff.mp List.mem_cons_self) with z | z
        · exact z
        · rcases List.mem_cons.mp (p.mem_iff.mpr List.mem_cons_self) with y | y
          · exact y.symm
          · exact leX_anti ((List.pairwise_cons.mp h1).1 b y) ((List.pairwise_cons.mp h2).1 a z)
      subst e
      rw [leX_uniq (List.perm_cons a |>.mp p) (List.pairwise_cons.mp h1).2 (List.pairwise_cons.mp h2).2]
theorem msX_congr {l m : List Str} (p : l.Perm m) : l.mergeSort leX = m.mergeSort leX :=
  leX_uniq ((List.mergeSort_perm _ _).trans (p.trans (List.mergeSort_perm _ _).symm)) (List.pairwise_mergeSort leX_tr leX_to l) (List.pairwise_mergeSort leX_tr leX_to m)
theorem usort_pw (ss : List Str) : (usort ss).Pairwise fun a b => leX a b = true := List.pairwise_mergeSort leX_tr leX_to _
theorem usort_nd (ss : List Str) : (usort ss).Nodup := (List.mergeSort_perm _ _).nodup_iff.mpr (foldX_nd ss [] List.nodup_nil)
theorem usort_mem (ss : List Str) (x : Str) : x ∈ usort ss ↔ x ∈ ss := by
  rw [show (x ∈ usort ss) ↔ x ∈ addsX ss from (List.mergeSort_perm _ _).mem_iff]
  unfold addsX
  rw [foldX_mem]
  simp
theorem usort_len (ss : List Str) : (usort ss).length ≤ ss.length := by
  have h := foldX_len ss []
  rw [show (usort ss).length = (addsX ss).length from (List.mergeSort_perm _ _).length_eq]
  unfold addsX
  simpa using h
/-- a list is its own usort just where it goes up strictly -/
theorem usort_self (ss : List Str) : ss = usort ss ↔ ss.Pairwise fun a b => a.cps.toList < b.cps.toList := by
  have key : ∀ l : List Str, l.Pairwise (fun a b => leX a b = true) → l.Nodup → l.Pairwise fun a b => a.cps.toList < b.cps.toList := by
    intro l
    induction l with
    | nil => intro _ _; exact .nil
    | cons x l ih =>
      intro h d
      obtain ⟨h1, h2⟩ := List.pairwise_cons.mp h
      obtain ⟨d1, d2⟩ := List.nodup_cons.mp d
      refine List.pairwise_cons.mpr ⟨fun y hy => ?_, ih h2 d2⟩
      have a := h1 y hy
      rw [leX_eq, decide_eq_true_eq] at a
      rcases List.le_iff_lt_or_eq.mp a with z | z
      · exact z
      · exact absurd (PySem.W.str_of_cps z) (fun e => d1 (e ▸ hy))
  constructor
  · intro e
    rw [e]
    exact key _ (usort_pw ss) (usort_nd ss)
  · intro h
    have nd : ss.Nodup := h.imp fun {a b} z e => by
      rw [e] at z
      exact absurd z (List.lt_irrefl _)
    refine leX_uniq ?_ (h.imp fun {a b} z => by rw [leX_eq, decide_eq_true_eq]; exact List.le_of_lt z) (usort_pw ss)
    rw [List.perm_ext_iff_of_nodup nd (usort_nd ss)]
    exact fun x => (usort_mem ss x).symm
/-! ### sorted(set) -/
section
variable {P : Program} {w : World} {A : Around} {E : Value → Shared → Prop} {s : Shared} {a : Addr} {L : List Str}
theorem strs_good : ∀ {us : List Value}, (∀ v ∈ us, ∃ k u, v = Value.str k u) → ∃ ks, StrsAre us ks
  | [], _ => ⟨[], .nil⟩
  | v :: us, h => by
    obtain ⟨k, u, rfl⟩ := h v List.mem_cons_self
    obtain ⟨ks, r⟩ := strs_good fun x hx => h x (List.mem_cons_of_mem _ hx)
    exact ⟨k :: ks, .cons k u r⟩
theorem strs_key : ∀ {us : List Value} {ks : List Str}, StrsAre us ks → us.map (fun v => keyX (0, v)) = ks
  | _, _, .nil => rfl
  | _, _, .cons k u r => by rw [List.map_cons, strs_key r]; rfl
theorem strs_each : ∀ {us : List Value} {ks : List Str}, StrsAre us ks → PySem.W.EachIs (fun v (k : Str) => ∃ u, v = Value.str k u) us ks
  | _, _, .nil => .nil
  | _, _, .cons k u r => .cons ⟨u, rfl⟩ (strs_each r)
theorem strs_back : ∀ {us : List Value} {ks : List Str}, PySem.W.EachIs (fun v (k : Str) => ∃ u, v = Value.str k u) us ks → StrsAre us ks
  | _, _, .nil => .nil
  | _, _, .cons ⟨u, e⟩ r => by subst e; exact .cons _ u (strs_back r)
theorem sortX (R : SetX w s.heap a L) (hd : A.handled = none) (hu : A.units + 64 < cLine) {N : Value → Shared → Prop}
    (q : ∀ s' p (out : List Value) (c : Nat), (∀ b ob, s.heap.get? b = some ob → s'.heap.get? b = some ob) → s'.gens = s.gens → s'.os = s.os → s.heap.objs.size ≤ p →
      s'.heap.get? p = some (seqObj "list" out.toArray c) → StrsAre out (L.mergeSort leX) → N (.ref p) s') :
    wpAny (model P w) A (call (.builtin "sorted") [.ref a]) N E s := by
  obtain ⟨ob, es, ep, tb, e1, ex, e2, f1, f2, f3, f4, f5, f6, f7⟩ := R
  refine Calls.call_function_entry kind_sorted plain_sorted entry_sorted (args_sorted1 _) ?_
  unfold Builtin.«sorted»
  refine wpAny_bind (m := checkCount "sorted" 1 1 _) (wpAny_pure ?_)
  refine wpAny_bind (collect_set (A := A.in1) hd ⟨ob, e1, ex.1, e2⟩ f5 f4 f6 f7 fun t1 vs k1 hz g1 o1 pm => ?_)
  have all : ∀ v ∈ vs, ∃ k u, v = Value.str k u := fun v hv => by
    obtain ⟨e, he, z⟩ := List.mem_map.mp (pm.mem_iff.mp hv)
    obtain ⟨k, u, y, _⟩ := f1 e he
    exact ⟨k, u, by rw [← z]; exact y⟩
  obtain ⟨ks, rk⟩ := strs_good all
  have pk : ks.Perm L := by
    have z := pm.map (fun v => keyX (0, v))
    rw [strs_key rk, List.map_map] at z
    refine z.trans ?_
    have e : es.toList.map ((fun v => keyX (0, v)) ∘ fun e : Int × Value => e.2) = es.toList.map keyX := List.map_congr_left fun e _ => rfl
    rw [e]
    exact f2
  have lk : ks.length = vs.length := rk.length.symm
  have lv : vs.length = es.size := by
    rw [pm.length_eq, List.length_map, Array.length_toList]
  have l5 : vs.length < scanBound := by rw [lv]; exact f4
  have lsz : vs.length ≤ sizeLine := by
    rw [sizeLine_eq]
    unfold scanBound at l5
    omega
  refine wpAny_bind (wpAny_newList ?_ lsz)
  have atL : (t1.heap.push (seqObj "list" vs.toArray 0)).get? t1.heap.objs.size = some (seqObj "list" vs.toArray 0) := Heap.get?_push_size _ rfl
  refine wpAny_bind (wpAny_holding ?_)
  refine PySem.W.list_sort_data (A := A.in1) (s := { t1 with heap := t1.heap.push (seqObj "list" vs.toArray 0) }) (bs := ks) (enc := fun k => .str k) (R := fun v (k : Str) => ∃ u, v = Value.str k u) atL (strs_each rk)
    ((strs_each rk).mono fun v k ⟨u, z⟩ => by subst z; exact ⟨[], .str _ _, fun z => nomatch z⟩) ?_ (.inr fun d hd => ?_) (by rw [lk]; exact lsz) (fun k hk => ?_) fun out ho eo => ?_
  · intro d hd d' hd'
    obtain ⟨x, _, rfl⟩ := List.mem_map.mp hd
    obtain ⟨y, _, rfl⟩ := List.mem_map.mp hd'
    rfl
  · obtain ⟨x, _, rfl⟩ := List.mem_map.mp hd
    exact ⟨fun z => (nomatch (show PyData.str x = .none from z)), fun _ z => (nomatch (show PyData.str x = .tuple _ from z))⟩
  · have h4 : A.in1.units ≤ A.units + 1 := Nat.le_refl _
    have h5 : (PyData.str k).depth ≤ 1 := by simp [PyData.depth]
    omega
  · have e3 : ks.mergeSort (PySem.W.dataLe false fun k : Str => PyData.str k) = L.mergeSort leX := msX_congr pk
    rw [e3] at eo
    obtain ⟨c, hc⟩ := sortedHeap_at (vs := vs) (out := out.toArray) atL
    refine wpAny_pure ⟨_, rfl, q _ t1.heap.objs.size out c (fun b u e => ?_) g1 o1 hz hc (strs_back eo)⟩
    have z := k1 b u e
    have lt := Heap.lt_size z
    show (sortedHeap (t1.heap.push (seqObj "list" vs.toArray 0)) t1.heap.objs.size vs out.toArray).get? b = some u
    rw [sortedHeap_old (Nat.ne_of_lt lt) (by rw [size_push']; exact Nat.lt_succ_of_lt lt)]
    exact Heap.get?_push_of_some _ z
end
/-! ### the terms -/
def SetXO (w : World) (a : Addr) (L : List Str) : HO := .ext fun h => SetX w h a L
theorem setXO_new {P : Program} {w : World} {H : Hp} {h : Heap} {a : Addr} {L : List Str} (R : SetX w h a L) : ObjOk P w H h a (SetXO w a L) := by
  obtain ⟨ob, e1⟩ : ∃ ob, h.get? a = some ob := by
    obtain ⟨ob, _, _, _, e, _⟩ := R
    exact ⟨ob, e⟩
  exact ⟨R, ⟨ob, e1⟩, fun h1 h2 p k => SetX.moved p k⟩
section
variable {X : Cx}
def rSetXs (K : PySem.W.Frag) (w : World) : List V → Hp → VK → Prop := fun xs H Q => ∃ (l : Addr) (ss : List Str), xs = [V.ref l] ∧ (SqL K H l (ss.map V.str) ∨ SqT K H l (ss.map V.str)) ∧ ss.length + 1 < scanBound ∧ ∀ p, H p = none → Q (.ref p) (upd H p (SetXO w p (addsX ss)))
theorem cr_setXs (hc : X.calm = true) : CallR X (.type "set") (rSetXs X.K X.w) := by
  intro pins s σ H xs us Q I r h
  obtain ⟨l, ss, rfl, hl, hb, q⟩ := h
  obtain rfl := Vals.ref1 r
  have go : ∀ (g : Heap) (tk : Nat), SetX X.w g s.heap.objs.size (addsX ss) → (∀ b ob, s.heap.get? b = some ob → g.get? b = some ob) → ∃ x H', L2.Inv X pins σ H' { s with heap := g, toks := tk } ∧ RelV x (.ref s.heap.objs.size) ∧ Q x H' := fun g tk R k =>
    ⟨.ref s.heap.objs.size, upd H s.heap.objs.size (SetXO X.w s.heap.objs.size (addsX ss)), I.laid (t' := tk) k (Nat.le_refl _) (setXO_new R), rfl, q _ (I.hok.fresh (Nat.le_refl _))⟩
  rcases hl with hl | hl
  · obtain ⟨its, rv, pl, hz⟩ := I.list hl
    exact setX_list ss (I.ok.hd hc) pl.isList (by simpa using strs_of_vals rv) hb go
  · obtain ⟨its, rv, pl, hz⟩ := I.tuple hl
    exact setX_tuple ss (I.ok.hd hc) pl (by simpa using strs_of_vals rv) hb go
def rSortX (w : World) : List V → Hp → VK → Prop := fun vs H Q => ∃ (a : Addr) (L : List Str), vs = [V.ref a] ∧ H a = some (SetXO w a L) ∧ L.length ≤ 4096 ∧ ∀ p, H p = none → Q (.ref p) (upd H p (.lst ((L.mergeSort leX).map V.str)))
theorem cr_sortX (hc : X.calm = true) (hu : X.A.units + 64 < cLine) : CallR X (.builtin "sorted") (rSortX X.w) := by
  intro pins s σ H vs us Q I r h
  obtain ⟨a, L, rfl, ha, hL, q⟩ := h
  have R : SetX X.w s.heap a L := (I.hok a _ ha).1
  obtain rfl := Vals.ref1 r
  refine sortX R (I.ok.hd hc) hu fun s' p out c k g o hp hg ho => ?_
  have hn : H p = none := I.hok.fresh hp
  have hv : Vals ((L.mergeSort leX).map V.str) out := vals_of_strs ho
  have hlen : ((L.mergeSort leX).map V.str).length ≤ sizeLine := by
    rw [List.length_map, (List.mergeSort_perm _ _).length_eq, sizeLine_eq]
    omega
  have J : L2.Inv X pins σ (upd H p (.lst ((L.mergeSort leX).map V.str))) { s with heap := s'.heap, gens := s'.gens, drawn := s'.drawn, toks := s'.toks } :=
    I.call (ch := []) (Un.laid k hp hn) (I.hok.laid k hp ⟨hlen, out, c, hv, hg⟩) (by rw [g]; exact I.bare) (fun _ z => nomatch z)
  have e : s' = { s with heap := s'.heap, gens := s'.gens, drawn := s'.drawn, toks := s'.toks } := by
    cases s'
    cases s
    cases o
    rfl
  rw [e]
  exact ⟨.ref p, _, J, rfl, q p hn⟩
/-- sorted(set(x)) -/
def rSst (K : PySem.W.Frag) (w : World) : V → Hp → VK → Prop := fun x H Q => rSetXs K w [x] H fun y H1 => rSortX w [y] H1 Q
end
def sSst : S1
  | .lst xs, P => ∃ ss, unStrs xs = some ss ∧ ss.length ≤ 4000 ∧ P ⟨true, .lst ((usort ss).map .str)⟩
  | .tup xs, P => ∃ ss, unStrs xs = some ss ∧ ss.length ≤ 4000 ∧ P ⟨true, .lst ((usort ss).map .str)⟩
  | _, _ => False
section
variable {K : PySem.W.Frag} {mg : Str → Option Value} {hot : Pr} {H : Hp}
theorem strs_reps : ∀ {ss : List Str}, (∀ x ∈ ss, PyData.strOk x = true) → Reps K mg hot H (ss.map V.str) (ss.map .str)
  | [], _ => .nil
  | s :: ss, h => .cons (.str _ (h s List.mem_cons_self)) (strs_reps fun x hx => h x (List.mem_cons_of_mem _ hx))
theorem usort_post {hot : Pr} {H : Hp} {P : Val → Prop} {Q : VK} (hh : ∀ a, hot a → H a ≠ none) (k : PostF K mg hot H P Q) {ss : List Str} (ok : ∀ x ∈ ss, PyData.strOk x = true) (q : P ⟨true, .lst ((usort ss).map .str)⟩) {p p2 : Addr} {o : HO} (n : H p = none) (n2 : upd H p o p2 = none) :
    Q (.ref p2) (upd (upd H p o) p2 (.lst ((usort ss).map V.str))) := by
  have n0 : H p2 = none := by
    by_cases e : p2 = p
    · rw [e]; exact n
    · rw [upd_ne e] at n2; exact n2
  have rr : Reps K mg hot (upd H p o) ((usort ss).map V.str) ((usort ss).map .str) := strs_reps fun x hx => ok x ((usort_mem ss x).mp hx)
  refine k _ ⟨true, .lst ((usort ss).map .str)⟩ _ (StR.new_lst (hot_upd hh) n2 rr) ?_ q
  have s1 : Step [] H [] (upd H p o) := ⟨fun b u e _ => by rw [upd_ne (ne_of_none e n)]; exact e, (fun b hb => by cases hb), fun b e => by
    by_cases z : b = p
    · rw [z, upd_same]; simp
    · rw [upd_ne z]; exact e⟩
  exact s1.trans (Step.new_lst n2)
theorem ul_sst (w : World) : UnL K mg (rSst K w) sSst := by
  intro hot H x dx P Q hh rx q k
  cases dx <;> simp only [sSst] at q <;> try exact q.elim
  · obtain ⟨ss, e, hl, q⟩ := q
    obtain rfl := unStrs_eq e
    obtain ⟨a, vs, rfl, h1, r1⟩ := rx.lst
    obtain ⟨rfl, ok⟩ := r1.strs
    refine ⟨a, ss, rfl, .inl h1, by unfold scanBound; omega, fun p n => ⟨p, addsX ss, rfl, upd_same, ?_, fun p2 n2 => usort_post hh k ok q n n2⟩⟩
    have z := foldX_len ss []
    simp only [List.length_nil, Nat.zero_add] at z
    unfold addsX
    omega
  · obtain ⟨ss, e, hl, q⟩ := q
    obtain rfl := unStrs_eq e
    obtain ⟨a, vs, rfl, h1, r1⟩ := rx.tup
    obtain ⟨rfl, ok⟩ := r1.strs
    refine ⟨a, ss, rfl, .inr h1, by unfold scanBound; omega, fun p n => ⟨p, addsX ss, rfl, upd_same, ?_, fun p2 n2 => usort_post hh k ok q n n2⟩⟩
    have z := foldX_len ss []
    simp only [List.length_nil, Nat.zero_add] at z
    unfold addsX
    omega
end
end TL

/-! V24: x.upper(), x.strip(signs) -/
namespace TL
open PySem PySem.Spec PyProof.Rows L2
def sStrp : SM
  | .str a, [.str b], P => a.length ≤ 16777216 ∧ P (fz (.str (Txt.stripChars a b)))
  | _, _, _ => False
def rStrp : V → List V → Hp → VK → Prop := fun x xs H Q => ∃ a b, x = .str a ∧ xs = [.str b] ∧ a.length ≤ sizeLine ∧ Q (.str (Txt.stripChars a b)) H
theorem mt_strp {X : Cx} : MtR X "str.strip" rStrp := mt_stripChars
theorem ok_strip (g : Nat → Bool) (l r : Bool) (x : Str) (h : PyData.strOk x = true) : PyData.strOk (Txt.stripBy g l r x) = true := by
  unfold Txt.stripBy
  split
  · exact h
  · unfold PyData.strOk at h ⊢
    rw [← Array.all_toList, List.all_eq_true] at h ⊢
    intro c hc
    refine h c ?_
    have h2 : c ∈ (x.cps.extract (PySem.stripLo g l x) (PySem.stripHi g r x (PySem.stripLo g l x))).toList := hc
    rw [Array.toList_extract] at h2
    rw [List.extract_eq_take_drop] at h2
    exact List.mem_of_mem_drop (List.mem_of_mem_take h2)
def sUpr : S1
  | .str a, P => a.length ≤ 5592405 ∧ PyData.strOk (Txt.upper a) = true ∧ P (fz (.str (Txt.upper a)))
  | _, _ => False
def rUpr (K : PySem.W.Frag) : V → Hp → VK → Prop := fun x H Q => tyV K "str" x H ∧ ∃ a, x = .str a ∧ ([] : List V) = [] ∧ a.length ≤ 5592405 ∧ Q (.str (Txt.upper a)) H
section
variable {K : PySem.W.Frag} {mg : Str → Option Value}
theorem ml_strp : MethL K mg rStrp sStrp := by
  intro hot H x xs dx ds P Q hh rx rs q k
  unfold sStrp at q
  split at q
  · obtain ⟨h1, q⟩ := q
    obtain ⟨rfl, ok⟩ := rx.str
    obtain ⟨y, rfl, ry⟩ := rs.one
    obtain ⟨rfl, ok2⟩ := ry.str
    exact ⟨_, _, rfl, rfl, by rw [slen]; exact h1, post_fz hh k (.str _ (ok_strip _ _ _ _ ok)) q⟩
  · exact q.elim
theorem ul_upr : UnL K mg (rUpr K) sUpr := by
  intro hot H x dx P Q hh rx q k
  cases dx <;> simp only [sUpr] at q <;> try exact q.elim
  obtain ⟨h1, h2, q⟩ := q
  obtain ⟨rfl, ok⟩ := rx.str
  exact ⟨rfl, _, rfl, rfl, h1, post_fz hh k (.str _ h2) q⟩
end
end TL

/-! V25: sorted of a tuple of alike data -/
namespace TL
open PySem PySem.Spec PyProof.Rows L2
def rSortedTup (K : PySem.W.Frag) : List V → Hp → VK → Prop := fun vs H Q => ∃ (a : Addr) (bs : List (V × PyData)), vs = [V.ref a] ∧ SqT K H a (bs.map (·.1)) ∧ (∀ b ∈ bs, Dp K H b.1 b.2) ∧ PySem.W.AllAlike (bs.map (·.2)) ∧ PySem.W.Sortable (bs.map (·.2)) ∧ (∀ b ∈ bs, b.2.depth ≤ 20) ∧
  ∀ p, H p = none → Q (.ref p) (upd H p (.lst ((bs.mergeSort (PySem.W.dataLe false (·.2))).map (·.1))))
section
variable {X : Cx}
theorem cr_sortedTup (hu : X.A.units + 64 < cLine) : CallR X (.builtin "sorted") (rSortedTup X.K) := by
  intro pins s σ H vs us Q I r h
  obtain ⟨a, bs, rfl, hs, hd, hal, hso, hdp, q⟩ := h
  obtain ⟨its, rv, ⟨o, ho, hc, n, hdat⟩, hz⟩ := I.tuple hs
  obtain ⟨u, rfl, ru⟩ := vals1 r
  obtain rfl : u = Value.ref a := ru
  have hlb : its.length = bs.length := by
    have := rv.length
    rw [List.length_map] at this
    exact this.symm
  have hlen : its.length ≤ sizeLine := by
    rw [List.length_map] at hz
    omega
  refine Calls.call_function_entry kind_sorted plain_sorted entry_sorted (args_sorted1 _) ?_
  unfold Builtin.«sorted»
  refine wpAny_bind (m := checkCount "sorted" 1 1 _) (wpAny_pure ?_)
  refine wpAny_bind (wpAny_collect_seq a (.inr rfl) ho hc hdat (fun g hk => ?_) (by rw [List.size_toArray]; exact hlen))
  have e0 : its.toArray.toList = its := by simp
  rw [e0]
  have J : L2.Inv X pins σ H { s with heap := g } := I.kept (t' := s.toks) hk
  refine wpAny_bind (wpAny_newList ?_ hlen)
  have atL : (g.push (seqObj "list" its.toArray 0)).get? g.objs.size = some (seqObj "list" its.toArray 0) := Heap.get?_push_size _ rfl
  have up : ∀ b ob, g.get? b = some ob → (g.push (seqObj "list" its.toArray 0)).get? b = some ob := fun b ob e => Heap.get?_push_of_some _ e
  obtain ⟨e1, e2⟩ := each_zip J rv hd
  refine wpAny_bind (wpAny_holding ?_)
  refine PySem.W.list_sort_data (A := X.A.in1) (s := { s with heap := g.push (seqObj "list" its.toArray 0) }) atL e1 (e2.mono fun v b ⟨as, rd⟩ => ⟨as, PyProof.Rows.Reads.keeps up rd, fun hm => absurd (Reads.there rd _ hm) (Nat.lt_irrefl _)⟩) hal hso (by rw [← hlb]; exact hlen) (fun b hb => ?_) fun out ho2 eo => ?_
  · have h4 : X.A.in1.units ≤ X.A.units + 1 := Nat.le_refl _
    have := hdp b hb
    omega
  · obtain ⟨c, hL⟩ := sortedHeap_at (vs := its) (out := out.toArray) atL
    have hv := each_vals eo
    refine wpAny_pure ⟨_, rfl, .ref g.objs.size, upd H g.objs.size (.lst ((bs.mergeSort (PySem.W.dataLe false (·.2))).map (·.1))), J.laid (t' := s.toks) (fun b ob e => ?_) (Nat.le_refl _) ⟨?_, _, c, hv, hL⟩, rfl, q _ (J.hok.fresh (Nat.le_refl _))⟩
    · have lt := Heap.lt_size e
      rw [sortedHeap_old (Nat.ne_of_lt lt) (by rw [size_push']; exact Nat.lt_succ_of_lt lt)]
      exact up b ob e
    · rw [List.length_map, (List.mergeSort_perm _ _).length_eq, ← hlb]
      exact hlen
def rSortedAny (K : PySem.W.Frag) : List V → Hp → VK → Prop := fun vs H Q => rSortedDat K vs H Q ∨ rSortedTup K vs H Q
theorem cr_sortedAny (hu : X.A.units + 64 < cLine) : CallR X (.builtin "sorted") (rSortedAny X.K) := by
  intro pins s σ H vs us Q I r h
  rcases h with h | h
  · exact cr_sortedDat hu pins s σ H vs us Q I r h
  · exact cr_sortedTup hu pins s σ H vs us Q I r h
end
def sSortedA : SN
  | [.lst xs], P => okSort xs = true ∧ P ⟨true, .lst (sortD xs)⟩
  | [.tup xs], P => okSort xs = true ∧ P ⟨true, .lst (sortD xs)⟩
  | _, _ => False
section
variable {K : PySem.W.Frag} {mg : Str → Option Value}
theorem cl_sortedA : CallL K mg (rSortedAny K) sSortedA := by
  intro hot H xs ds P Q hh rx q k
  unfold sSortedA at q
  split at q
  · exact .inl (cl_sorted1 hot H xs _ P Q hh rx q k)
  · obtain ⟨x, rfl, r⟩ := rx.one
    obtain ⟨ok, q⟩ := q
    obtain ⟨a, vs, rfl, hs, r1⟩ := r.tup
    obtain ⟨ts, rfl, rfl, rt⟩ := Reps.triples r1
    obtain ⟨o1, o2, o3, o4⟩ := okSort_data ok
    obtain ⟨s1, s2⟩ := sort_trip (ts := ts)
    refine .inr ⟨a, ts.map fun t => (t.1, pyT t.2), rfl, by rw [List.map_map]; exact hs, fun b hb => ?_, by rw [List.map_map]; rw [List.map_map] at o2; exact o2, by rw [List.map_map]; rw [List.map_map] at o3; exact o3, fun b hb => ?_, fun p n => ?_⟩
    · obtain ⟨t, ht, rfl⟩ := List.mem_map.mp hb
      exact (Rep.dp _ _ _ (rt t ht) (toPy_T (pures_mem o1 _ (List.mem_map.mpr ⟨t, ht, rfl⟩)))).1
    · obtain ⟨t, ht, rfl⟩ := List.mem_map.mp hb
      exact o4 _ (List.mem_map.mpr ⟨t, ht, rfl⟩)
    · rw [s1]
      refine post_lst hh k n (reps_of (ts := ts.mergeSort fun a b => leS a.2 b.2) fun t ht => rt t ((List.mergeSort_perm _ _).mem_iff.mp ht)) ?_
      rw [← s2]
      exact q
  · exact q.elim
end
end TL

/-! T12: a small language of the code's shapes, what each shape wants, and a check that code has the shape -/
namespace TL
open PySem PySem.Spec PyProof.Rows L2

/-! ### slices, with their parts -/
abbrev WO := EnvD → (Option Int → EnvD → Prop) → Prop
def wNoPart : WO := fun env P => P none env
def wPart (t : WE) : WO := fun env P => t env fun val env1 => ∃ i, val.d = .int i ∧ P (some i) env1
section
variable (K : PySem.W.Frag) (mg : Str → Option Value)
def liftO (t : WO) : TO := fun σ H Q => ∃ (oh : Pr) (τ : Lay) (env : EnvD) (P : Option Int → EnvD → Prop), σ.length = env.length ∧ StR K mg oh H (τ ++ σ.zip env) ∧ t env P ∧
  ∀ b env' H', σ.length = env'.length → StR K mg oh H' (τ ++ σ.zip env') → Step (τ ++ σ.zip env) H (τ ++ σ.zip env') H' → P b env' → Q b H'
end
section
variable {K : PySem.W.Frag} {mg : Str → Option Value} {X : Cx} {e : Expr}
theorem POimp {e : Option Expr} {t t' : TO} (h : PO X e t) (q : ∀ σ H Q, t' σ H Q → t σ H Q) : PO X e t' := ⟨fun pins s σ H Q I w => h.run pins s σ H Q I (q σ H Q w)⟩
theorem po_noneD : PO X none (liftO K mg wNoPart) := POimp po_none fun σ H Q w => by
  obtain ⟨oh, τ, env, P, e0, S, t, k⟩ := w
  exact k none env H e0 S Step.refl t
theorem po_someD {t : WE} (h : PE X e (liftE K mg t)) : PO X (some e) (liftO K mg (wPart t)) := POimp (po_some h) fun σ H Q w => by
  obtain ⟨oh, τ, env, P, e0, S, t, k⟩ := w
  refine ⟨oh, τ, env, _, e0, S, t, fun v val env1 H1 e1 S1 s1 ⟨i, hi, p⟩ => ⟨i, S1.head.to_int hi, k (some i) env1 H1 e1 S1.tail ?_ p⟩⟩
  exact s1.lessR fun a ha => roots_cons_sub a ha
def wCut (ta : WX) (tl th : WO) : WE := fun env P => ta env fun oa env1 => tl env1 fun lo env2 => th env2 fun hi env3 => ∃ x, oa.res env3 = some x ∧ sCut lo hi x fun val => P val env3
theorem cut_lift {ta : WX} {tl th : WO} {σ : L2.St} {H : Hp} {Q : VK} (h : liftE K mg (wCut ta tl th) σ H Q) : tSl (rCut K) (liftX K mg ta) (liftO K mg tl) (liftO K mg th) σ H Q := by
  obtain ⟨oh, τ, env, P, e0, S, t, k⟩ := h
  refine ⟨oh, τ, env, _, e0, S, t, fun va oa env1 H1 e1 a1 S1 s1 t1 => ?_⟩
  refine ⟨oh, oa.cell va :: τ, env1, _, e1, S1, t1, fun lo env2 H2 e2 S2 s2 t2 => ?_⟩
  refine ⟨oh, oa.cell va :: τ, env2, _, e2, S2, t2, fun hi env3 H3 e3 S3 s3 ⟨x, rx, q⟩ => ?_⟩
  have hA : ∀ {L : Lay}, roots ([oa.cell va] ++ L) = roots L := by intro L; exact roots_cell
  have hA2 : ∀ {L : Lay}, hotL oh ([oa.cell va] ++ L) = hotL oh L := by intro L; unfold hotL; rw [hA]
  have S3' : StR K mg oh H3 ([oa.cell va] ++ (τ ++ σ.zip env3)) := S3
  refine ul_cut lo hi _ H3 va x _ Q (fun a ha => S3'.right.hot_there ha) (opd_reads e3 hA2 S3' a1 (by simp) rx) q fun v val H4 T st p => ?_
  obtain ⟨S4, s4⟩ := over_cells hA S3' (s1.trans (s2.trans s3)) T st
  exact k v val env3 H4 e3 S4 s4 p
end

/-! ### items and membership, of sequences and of dicts -/
def sIxA : S2 := fun x y P => sIx x y P ∨ sIxDic x y P
def rIxA (K : PySem.W.Frag) : R2 := fun x y H Q => rIx K x y H Q ∨ rIxDic x y H Q
def sInA (neg : Bool) : S2 := fun x y P => sIn neg x y P ∨ sInDic neg x y P
def rInA (K : PySem.W.Frag) (neg : Bool) : R2 := fun x y H Q => rInAll K neg x y H Q ∨ rInDic neg x y H Q
theorem bl_ixA {K : PySem.W.Frag} {mg : Str → Option Value} : BinL K mg (rIxA K) sIxA := BinL.or bl_ix bl_ixDic
theorem bl_inA {K : PySem.W.Frag} {mg : Str → Option Value} (neg : Bool) : BinL K mg (rInA K neg) (sInA neg) := BinL.or (bl_in neg) (bl_inDic neg)
def sInB (neg : Bool) : S2 := fun x y P => sInA neg x y P ∨ sInP neg x y P
def rInB (K : PySem.W.Frag) (neg : Bool) : R2 := fun x y H Q => rInA K neg x y H Q ∨ rInP K neg x y H Q
theorem bl_inB {K : PySem.W.Frag} {mg : Str → Option Value} (neg : Bool) : BinL K mg (rInB K neg) (sInB neg) := BinL.or (bl_inA neg) (bl_inP neg)
def sIsX (neg : Bool) : S2 := fun x y P => sIsA neg x y P ∨ sIsO neg x y P
def rIsX : R2 := fun x y H Q => rIsA x y H Q ∨ rIsO false x y H Q
def rIsNX : R2 := fun x y H Q => rIsNA x y H Q ∨ rIsO true x y H Q
theorem bl_isX {K : PySem.W.Frag} {mg : Str → Option Value} : BinL K mg rIsX (sIsX false) := BinL.or bl_isA (bl_isO false)
theorem bl_isNX {K : PySem.W.Frag} {mg : Str → Option Value} : BinL K mg rIsNX (sIsX true) := BinL.or bl_isNA (bl_isO true)
/-! ### constants, operators -/
inductive Cn where
  | non | bl (b : Bool) | int (i : Int) | str (s : Str)
  deriving DecidableEq
def Cn.d : Cn → D
  | .non => .non | .bl b => .bl b | .int i => .int i | .str s => .str s
inductive BO where
  | add | sub | mul | div | mod | pow
  deriving DecidableEq
inductive CO where
  | lt | le | gt | ge | eq | ne | is | isnot | isin | notin
  deriving DecidableEq
inductive BF where
  | len | abs | int | list | tuple | all | any | repr | divmod | max | min | sum | sorted | str | dict
  deriving DecidableEq
def BO.op : BO → Operator
  | .add => .Add | .sub => .Sub | .mul => .Mult | .div => .FloorDiv | .mod => .Mod | .pow => .Pow
def BO.s : BO → S2
  | .add => sAdd | .sub => sSub | .mul => sMulA | .div => sDivA | .mod => sMod | .pow => sPow
def BO.r (K : PySem.W.Frag) : BO → R2
  | .add => rAddAll K | .sub => rI0 fun i j => .int (i - j) | .mul => rMulA | .div => rI CDivW fun i j => .int (i / j)
  | .mod => rI (fun _ j => 0 < j) fun i j => .int (i % j) | .pow => rI CPow fun i j => .int (i ^ j.toNat)
def CO.op : CO → CmpOp
  | .lt => .Lt | .le => .LtE | .gt => .Gt | .ge => .GtE | .eq => .Eq | .ne => .NotEq | .is => .Is | .isnot => .IsNot | .isin => .In | .notin => .NotIn
def CO.s : CO → S2
  | .lt => sLt | .le => sLeS | .gt => sGt | .ge => sGe | .eq => sEq false | .ne => sEq true | .is => sIsX false | .isnot => sIsX true | .isin => sInB false | .notin => sInB true
def CO.r (K : PySem.W.Frag) : CO → R2
  | .lt => rLtAll | .le => rLeAll | .gt => rI0 fun i j => .bl (decide (j < i)) | .ge => rI0 fun i j => .bl (decide (j ≤ i))
  | .eq => rEqX K false | .ne => rEqX K true | .is => rIsX | .isnot => rIsNX
  | .isin => rInB K false | .notin => rInB K true
def BF.nm : BF → Str
  | .len => "len" | .abs => "abs" | .int => "int" | .list => "list" | .tuple => "tuple" | .all => "all" | .any => "any" | .repr => "repr" | .divmod => "divmod" | .max => "max" | .min => "min" | .sum => "sum" | .sorted => "sorted" | .str => "str" | .dict => "dict"
def BF.s : BF → SN
  | .len => sLen | .abs => sAbs | .int => sIntOf | .list => sList | .tuple => sTuple | .all => sAll | .any => sAny | .repr => sRepr | .divmod => sDivmod | .max => sMax | .min => sMin | .sum => sSum | .sorted => sSortedA | .str => sStr | .dict => sDict
def bnames : List Str := ["len", "abs", "int", "list", "tuple", "all", "any", "repr", "range", "enumerate", "zip", "sorted", "set", "max", "min", "sum", "divmod", "isinstance", "str", "bool", "dict", "reversed", "type"]
theorem BF.nm_mem (f : BF) : f.nm ∈ bnames := by cases f <;> decide +kernel

inductive Mth where
  | join | strip
  deriving DecidableEq
def Mth.nm : Mth → Str
  | .join => "join" | .strip => "strip"
def Mth.T : Mth → String
  | .join => "str" | .strip => "str"
def Mth.s : Mth → SM
  | .join => sJoin | .strip => sStrp
inductive Mut where
  | rev | clear | pop | popAt | ins | app
  deriving DecidableEq
def Mut.nm : Mut → Str
  | .rev => "reverse" | .clear => "clear" | .pop => "pop" | .popAt => "pop" | .ins => "insert" | .app => "append"
def Mut.ar : Mut → Nat
  | .rev => 0 | .clear => 0 | .pop => 0 | .popAt => 1 | .ins => 2 | .app => 1
def Mut.s : Mut → SMu
  | .rev => suRev | .clear => suClear | .pop => suPop | .popAt => suPopAt | .ins => suIns | .app => suApp
/-! ### shapes -/
mutual
inductive Tg where
  | name (i : Nat) | ix (i j : Nat) | tup (r : Tgs)
inductive Tgs where
  | nil | cons (a : Tg) (r : Tgs) | star (i : Nat)
end
mutual
inductive M where
  | cst (c : Cn) | var (i : Nat) | glb (k : Nat) | tup (a : Ms) | lst (a : Ms)
  | bin (o : BO) (a b : M) | cmp (o : CO) (a b : M) | neg (a : M) | ix (a b : M) | cut (a : M) (lo hi : Mo)
  | bf (f : BF) (a : Ms) | call (k : Nat) (a : As) | callk (k : Nat) (p q : Ms)
  | bop (conj : Bool) (a : Ms) | not (a : M) | ifx (c : T) (a b : M)
  | lc (own : List (Str × Nat)) (it : I) (g : Tg) (c : T) (e : M)
  | lc2 (own : List (Str × Nat)) (it : I) (g : Tg) (c : T) (vs1 : List Nat) (it1 : I) (g1 : Tg) (c1 : T) (e : M)
  | dnew | dg1 (a b : M) | dg2 (a b c : M) | isi (ts : List TyN) (tp : Bool) (a : M) | rev (a : M) | lrg (a : M) | gix (k : Nat) (b : M) | callv (i : Nat) (a : As) | meth (m : Mth) (o : M) (a : Ms) | mutm (m : Mut) (i : Nat) (a : Ms) | dp1 (i : Nat) (a : M) | dp2 (i : Nat) (a b : M) | sdi (a : M) | lrep (a : Ms) (b : M) | disp (a b : Ms) | opx (a : M) | tupb (a : As) | mutb (m : Mut) (i j : Nat) (a : Ms) | callr (k : Nat) (a : Ms) | chain (o o' : CO) (a b c : M) | bdn | opv (i : Nat) | sda (i : Nat) (k n a : M) | gin (k : Nat) (neg : Bool) (b : M) | ext (i : Nat) (a : M) | rvk (a : M) (k : Nat) | dge (a b : M) | sst (a : M) | upr (a : M)
inductive Ms where
  | nil | cons (a : M) (r : Ms)
inductive Mo where
  | no | so (a : M)
inductive As where
  | nil | lend (i : Nat) (r : As) | mv (i : Nat) (r : As) | own (a : M) (r : As) | fro (a : M) (r : As)
inductive T where
  | yes | val (a : M) | gin (k : Nat) (neg : Bool) (b : M) | cmp (o : CO) (a b : M) | chain (o o' : CO) (a b c : M) | not (t : T) | bop (conj : Bool) (ts : Ts)
inductive Ts where
  | nil | cons (t : T) (r : Ts)
inductive I where
  | seq (a : M) | rng1 (a : M) | rng2 (a b : M) | enu (a : M) | zip (a b : M) | zip3 (a b c : M) | keys (i : Nat) | zips (a b : M)
end
mutual
inductive S where
  | asg (g : Tg) (e : M) | par (is : List Nat) (a : As) | parT (is : List Nat) (a : As) | setI (i : Nat) (ix e : M) | aug (i : Nat) (o : BO) (e : M) | app (i : Nat) (e : M) | exp (e : M)
  | iff (c : T) (a b : Ss) | loop (it : I) (g : Tg) (b : Ss) | ret (e : M) | retv (i : Nat) | retn | brk | cont | pass | nev
inductive Ss where
  | nil | cons (a : S) (r : Ss)
end

/-! ### what shapes want -/
structure FE where
  n : Nat
  t : DSpec
  x : Str
structure KE where
  n : Nat
  npos : Nat
  nk : Nat
  perm : List Nat
  dD : List D
  t : DSpec
structure Gm where
  fs : List FE
  cs : List D
  kw : List KE
  ds : List (List (Str × D))
def findFE (x : Str) : List FE → Option FE
  | [] => none
  | f :: fs => if x = f.x then some f else findFE x fs
def wCallV (fs : List FE) (i : Nat) (ts : WAs) : WE := fun env P => ∃ o x f, env[i]? = some (some ⟨o, .fn x⟩) ∧ findFE x fs = some f ∧ wCallF f.n f.t ts env P
def isiS : List TyN → Bool → S1
  | [t], false => sIsi t
  | ts, _ => sIsiT ts
theorem isiS_t (ts : List TyN) : isiS ts true = sIsiT ts := by
  cases ts with
  | nil => rfl
  | cons t ts => cases ts <;> rfl
theorem isiS_1 (t : TyN) : isiS [t] false = sIsi t := rfl
def gW : Tg → WG
  | .name i => gwName i
  | .ix i j => gwIx i j
  | .tup r => if st r then gwTupS (len r) (gWs r) else gwTup (len r) (gWs r)
where
  gWs : Tgs → WGs
  | .nil => gwNil
  | .cons a r => gwCons (gW a) (gWs r)
  | .star i => gwStL i
  len : Tgs → Nat
  | .nil => 0
  | .cons _ r => len r + 1
  | .star _ => 0
  st : Tgs → Bool
  | .nil => false
  | .cons _ r => st r
  | .star _ => true
def opX (m : M) (t : WE) : WX := match m with
  | .var i => wVarX i
  | _ => wTm t
def bad1 : WE := fun _ _ => False
mutual
def wM (G : Gm) : M → WE
  | .cst c => wC c.d
  | .var i => wVar i
  | .glb k => match G.cs[k]? with | some d => wC d | none => bad1
  | .tup a => wTup (wFs G a)
  | .lst a => wLst (wFs G a)
  | .bin o a b => wBin o.s (opX a (wM G a)) (opX b (wM G b))
  | .cmp o a b => wBin o.s (opX a (wM G a)) (opX b (wM G b))
  | .neg a => wUn sNeg (opX a (wM G a))
  | .ix a b => wBin sIxA (opX a (wM G a)) (opX b (wM G b))
  | .cut a lo hi => wCut (opX a (wM G a)) (wOo G lo) (wOo G hi)
  | .bf f a => wCall f.s (wXs G a)
  | .call k a => match G.fs[k]? with | some f => wCallF f.n f.t (wAs G a) | none => bad1
  | .callk k p q => match G.kw[k]? with | some f => wCallK f.n f.npos f.nk f.perm f.dD f.t (wFs G p) (wFs G q) | none => bad1
  | .bop c a => wBo G c a
  | .not a => wNotV (wM G a)
  | .ifx c a b => wIf (wT G c) (wM G a) (wM G b)
  | .lc own it g c e => wLc (wI G it) (own.map (·.2)) (gW g) (wT G c) (wM G e)
  | .lc2 own it g c vs1 it1 g1 c1 e => wLc2 (wI G it) (own.map (·.2)) (gW g) (wT G c) (wI G it1) vs1 (gW g1) (wT G c1) (wM G e)
  | .isi ts tp a => wUn (isiS ts tp) (opX a (wM G a))
  | .dnew => wDnew
  | .ext i a => wExt i (wM G a)
  | .gin k neg b => match G.ds[k]? with | some tab => wGin neg tab (opX b (wM G b)) | none => bad1
  | .bdn => wBnew
  | .opv i => wOpv i
  | .sda i k n a => wSda suApp i (wM G k) (wM G n) (wXcons (wTm (wM G a)) wXnil)
  | .dg1 a b => wDget1 (opX a (wM G a)) (opX b (wM G b))
  | .dg2 a b c => wDget2 (opX a (wM G a)) (opX b (wM G b)) (opX c (wM G c))
  | .rev a => wUn sRev (opX a (wM G a))
  | .rvk a k => wUn (sRvk k) (opX a (wM G a))
  | .dge a b => wDget1 (opX a (wM G a)) (opX b (wM G b))
  | .lrg a => wUn sLrg (opX a (wM G a))
  | .chain o o' a b c => wChain o.s o'.s (opX a (wM G a)) (opX b (wM G b)) (opX c (wM G c))
  | .gix k b => match G.ds[k]? with | some tab => wGix tab (opX b (wM G b)) | none => bad1
  | .callv i a => wCallV G.fs i (wAs G a)
  | .meth m o a => wMeth m.T m.s (opX o (wM G o)) (wXs G a)
  | .mutm m i a => wMut "list" m.s i (wFs G a)
  | .dp1 i a => wDpop1 i (opX a (wM G a))
  | .dp2 i a b => wDpop2 i (opX a (wM G a)) (opX b (wM G b))
  | .sdi a => wUn sSortIt (opX a (wM G a))
  | .sst a => wUn sSst (opX a (wM G a))
  | .upr a => wUn sUpr (opX a (wM G a))
  | .lrep a b => wLrep (wFs G a) (opX b (wM G b))
  | .disp a b => wDisp ((wMl G a).zip (wMl G b))
  | .opx a => wOpx (wM G a)
  | .tupb a => wTupB (wAs G a)
  | .mutb m i j a => wMutB m.s i j (wFs G a)
  | .callr k a => match G.fs[k]? with | some f => wCallR f.n f.t (wXs G a) | none => bad1
def wMl (G : Gm) : Ms → List WE
  | .nil => []
  | .cons a r => wM G a :: wMl G r
def wXs (G : Gm) : Ms → WXs
  | .nil => wXnil
  | .cons a r => wXcons (opX a (wM G a)) (wXs G r)
def wFs (G : Gm) : Ms → WXs
  | .nil => wXnil
  | .cons a r => wXcons (wTm (wM G a)) (wFs G r)
def wBo (G : Gm) (c : Bool) : Ms → WE
  | .nil => bad1
  | .cons a r => match r with
    | .nil => wM G a
    | _ => if c then wAndV (wM G a) (wBo G c r) else wOrV (wM G a) (wBo G c r)
def wOo (G : Gm) : Mo → WO
  | .no => wNoPart
  | .so a => wPart (wM G a)
def wAs (G : Gm) : As → WAs
  | .nil => wAnil
  | .lend i r => wAcons (wLs i) (wAs G r)
  | .mv i r => wAcons (wMv i) (wAs G r)
  | .own a r => wAcons (wOwn (wM G a)) (wAs G r)
  | .fro a r => wAcons (wFro (wM G a)) (wAs G r)
def wT (G : Gm) : T → WT
  | .yes => wYes
  | .val a => wTru (opX a (wM G a))
  | .cmp o a b => wTB (wBin o.s (opX a (wM G a)) (opX b (wM G b)))
  | .gin k neg b => match G.ds[k]? with | some tab => wTB (wGin neg tab (opX b (wM G b))) | none => wTB bad1
  | .chain o o' a b c => wTB (wChain o.s o'.s (opX a (wM G a)) (opX b (wM G b)) (opX c (wM G c)))
  | .not t => wNotT (wT G t)
  | .bop c ts => wTs G c ts
def wTs (G : Gm) (c : Bool) : Ts → WT
  | .nil => fun _ _ => False
  | .cons t r => match r with
    | .nil => wT G t
    | _ => if c then wAndT (wT G t) (wTs G c r) else wOrT (wT G t) (wTs G c r)
def wI (G : Gm) : I → WI
  | .seq a => wiSeqA (wM G a)
  | .rng1 a => wiRng1 (wXcons (wTm (wM G a)) wXnil)
  | .rng2 a b => wiRng2 (wXcons (wTm (wM G a)) (wXcons (wTm (wM G b)) wXnil))
  | .enu a => wiEnumA (wXcons (wTm (wM G a)) wXnil)
  | .zip a b => wiZipA (wXcons (wTm (wM G a)) (wXcons (wTm (wM G b)) wXnil))
  | .zips a b => wiZipS (wXcons (wTm (wM G a)) (wXcons (wTm (wM G b)) wXnil))
  | .zip3 a b c => wiZip3 (wXcons (wTm (wM G a)) (wXcons (wTm (wM G b)) (wXcons (wTm (wM G c)) wXnil)))
  | .keys i => wiKeys i
end
def augOp : BO → Bool
  | .pow => false
  | _ => true
def BO.ra (K : PySem.W.Frag) : BO → R2
  | .add => rI0 fun i j => .int (i + j) | .mul => rI CMul fun i j => .int (i * j)
  | o => o.r K
def sAddI : S2
  | .int i, .int j, P => P (fz (.int (i + j)))
  | _, _, _ => False
def BO.sa : BO → S2
  | .add => sAddI | .mul => sMul
  | o => o.s
mutual
def wS (G : Gm) : S → WS
  | .asg g e => wsAsg (wM G e) (gW g)
  | .par is a => wsPar is (wAs G a)
  | .parT is a => wsPar is (wAs G a)
  | .setI i ix e => wsSetA i (wM G e) (wM G ix)
  | .aug i o e => wsAug i o.sa (wM G e)
  | .app i e => wsApp i (wM G e)
  | .exp e => wsExp (wM G e)
  | .iff c a b => wsIf (wT G c) (wSs G a) (wSs G b)
  | .loop it g b => wsFor (wI G it) (gW g) (wSs G b)
  | .ret e => wsRet (wM G e)
  | .retv i => wsRetV i
  | .retn => wsRetN
  | .brk => wsBk
  | .cont => wsCt
  | .pass => wsNil
  | .nev => fun _ _ => False
def wSs (G : Gm) : Ss → WS
  | .nil => wsNil
  | .cons a r => wsSeq (wS G a) (wSs G r)
end
end TL

/-! T13: the check that code has a shape -/
namespace TL
open PySem PySem.Spec PyProof.Rows L2

structure Tb where
  N : List Str
  fn : List Str
  cn : List Str
  kw : List (Str × Nat × List Str)
  dn : List Str

def asCst : Expr → Option Cn
  | .Constant .none _ _ => some .non
  | .Constant (.bool b) _ _ => some (.bl b)
  | .Constant (.int i) _ _ => some (.int i)
  | .Constant (.str s) _ _ => some (.str s)
  | _ => none
def asName : Expr → Option Str
  | .Name x _ => some x
  | _ => none
def asTup : Expr → Option (List Expr)
  | .Tuple es _ _ => some es
  | _ => none
def asLst : Expr → Option (List Expr)
  | .List es _ => some es
  | _ => none
def asBin : Expr → Option (Expr × Operator × Expr)
  | .BinOp a o b _ => some (a, o, b)
  | _ => none
def asCmp : Expr → Option (Expr × CmpOp × Expr)
  | .Compare a [o] [b] _ => some (a, o, b)
  | _ => none
def asUn : Expr → Option (UnaryOp × Expr)
  | .UnaryOp o a _ => some (o, a)
  | _ => none
def asSub : Expr → Option (Expr × Expr)
  | .Subscript a b _ => some (a, b)
  | _ => none
def asSl : Expr → Option (Option Expr × Option Expr)
  | .Slice lo hi none _ => some (lo, hi)
  | _ => none
def asCall : Expr → Option (Str × List Expr × List Keyword)
  | .Call (.Name x _) es ks _ => some (x, es, ks)
  | _ => none
def asBool : Expr → Option (BoolOp × List Expr)
  | .BoolOp o es _ => some (o, es)
  | _ => none
def asIf : Expr → Option (Expr × Expr × Expr)
  | .IfExp c a b _ => some (c, a, b)
  | _ => none
structure LcP where
  elt : Expr
  tg : Expr
  iter : Expr
  ifs : List Expr
  scope : Scope
def asChain : Expr → Option (Expr × CmpOp × Expr × CmpOp × Expr)
  | .Compare a [o, o'] [b, c] _ => some (a, o, b, o', c)
  | _ => none
def asRev : Expr → Option Expr
  | .Subscript a (.Slice none none (some (.UnaryOp .USub (.Constant (.int i) _ _) _)) _) _ => if i == 1 then some a else none
  | _ => none
def asRvk : Expr → Option (Expr × Nat)
  | .Subscript a (.Slice none (some (.UnaryOp .USub (.Constant (.int i) _ _) _)) (some (.UnaryOp .USub (.Constant (.int j) _ _) _)) _) _ => if j == 1 && decide (1 ≤ i) then some (a, i.toNat) else none
  | _ => none
def asGetE : Expr → Option (Expr × Expr × Pos × Pos)
  | .Call (.Attribute (.Call (.Name f q) (a0 :: as) ks fp) n ap) [e] [] cp => if n == "get" && ap.endLine == cp.line then some (.Call (.Name f q) (a0 :: as) ks fp, e, ap, cp) else none
  | _ => none
def asGet1 : Expr → Option (Str × Expr × Pos × Pos)
  | .Call (.Attribute (.Name x _) n ap) [e] [] cp => if n == "get" && ap.endLine == cp.line then some (x, e, ap, cp) else none
  | _ => none
def asGet2 : Expr → Option (Str × Expr × Expr × Pos × Pos)
  | .Call (.Attribute (.Name x _) n ap) [e, f] [] cp => if n == "get" && ap.endLine == cp.line then some (x, e, f, ap, cp) else none
  | _ => none
structure MeP where
  o : Expr
  nm : Str
  es : List Expr
  ap : Pos
  cp : Pos
def asMeth : Expr → Option MeP
  | .Call (.Attribute o n ap) es [] cp => if ap.endLine == cp.line then some ⟨o, n, es, ap, cp⟩ else none
  | _ => none
/-- its attribute is looked up of its value, nothing else -/
def baseOk : Expr → Bool
  | .Name _ _ => true
  | .Constant _ _ _ => true
  | _ => false
def asStar : Expr → Option Str
  | .Starred (.Name x _) _ => some x
  | _ => none
def unSome : List (Option Expr) → Option (List Expr)
  | [] => some []
  | some e :: r => match unSome r with | some es => some (e :: es) | none => none
  | none :: _ => none
def asDict : Expr → Option (List Expr × List Expr)
  | .Dict ks vs _ => match unSome ks with | some es => some (es, vs) | none => none
  | _ => none
theorem unSome_eq : ∀ {l : List (Option Expr)} {es : List Expr}, unSome l = some es → l = es.map some
  | [], _, h => by cases h; rfl
  | some e :: r, es, h => by
    unfold unSome at h
    split at h
    · rename_i x hx
      cases h
      rw [unSome_eq hx]; rfl
    · cases h
  | none :: _, _, h => by cases h
theorem asDict_eq {e : Expr} {x} (h : asDict e = some x) : ∃ p, e = .Dict (x.1.map some) x.2 p := by
  unfold asDict at h
  split at h
  · split at h
    · rename_i hx
      cases h
      exact ⟨_, by rw [unSome_eq hx]⟩
    · cases h
  · cases h
def isDnew : Expr → Bool
  | .Dict [] [] _ => true
  | _ => false
def asLrg : Expr → Option (Str × Str × Expr)
  | .Call (.Name x _) [.Call (.Name y _) [e] [] _] [] _ => some (x, y, e)
  | _ => none
def asLc : Expr → Option LcP
  | .ListComp elt [⟨tg, iter, ifs, 0⟩] scope _ => some ⟨elt, tg, iter, ifs, scope⟩
  | _ => none
structure LcP2 where
  elt : Expr
  tg : Expr
  iter : Expr
  ifs : List Expr
  tg1 : Expr
  iter1 : Expr
  ifs1 : List Expr
  scope : Scope
def asLc2 : Expr → Option LcP2
  | .ListComp elt [⟨tg, iter, ifs, 0⟩, ⟨tg1, iter1, ifs1, 0⟩] scope _ => some ⟨elt, tg, iter, ifs, tg1, iter1, ifs1, scope⟩
  | _ => none
theorem asLc2_eq {e : Expr} {x} (h : asLc2 e = some x) : ∃ p, e = .ListComp x.elt [⟨x.tg, x.iter, x.ifs, 0⟩, ⟨x.tg1, x.iter1, x.ifs1, 0⟩] x.scope p := by
  unfold asLc2 at h
  split at h <;> first | (cases h; exact ⟨_, rfl⟩) | cases h
section
variable {e : Expr}
theorem asCst_eq {c : Cn} (h : asCst e = some c) : ∃ k p, e = .Constant (match c with | .non => .none | .bl b => .bool b | .int i => .int i | .str s => .str s) k p := by
  unfold asCst at h
  split at h <;> first | (cases h; exact ⟨_, _, rfl⟩) | cases h
theorem asName_eq {x : Str} (h : asName e = some x) : ∃ p, e = .Name x p := by
  unfold asName at h
  split at h <;> first | (cases h; exact ⟨_, rfl⟩) | cases h
theorem asTup_eq {x : List Expr} (h : asTup e = some x) : ∃ k p, e = .Tuple x k p := by
  unfold asTup at h
  split at h <;> first | (cases h; exact ⟨_, _, rfl⟩) | cases h
theorem asLst_eq {x : List Expr} (h : asLst e = some x) : ∃ p, e = .List x p := by
  unfold asLst at h
  split at h <;> first | (cases h; exact ⟨_, rfl⟩) | cases h
theorem asBin_eq {x} (h : asBin e = some x) : ∃ p, e = .BinOp x.1 x.2.1 x.2.2 p := by
  unfold asBin at h
  split at h <;> first | (cases h; exact ⟨_, rfl⟩) | cases h
theorem asCmp_eq {x} (h : asCmp e = some x) : ∃ p, e = .Compare x.1 [x.2.1] [x.2.2] p := by
  unfold asCmp at h
  split at h <;> first | (cases h; exact ⟨_, rfl⟩) | cases h
theorem asUn_eq {x} (h : asUn e = some x) : ∃ p, e = .UnaryOp x.1 x.2 p := by
  unfold asUn at h
  split at h <;> first | (cases h; exact ⟨_, rfl⟩) | cases h
theorem asSub_eq {x} (h : asSub e = some x) : ∃ p, e = .Subscript x.1 x.2 p := by
  unfold asSub at h
  split at h <;> first | (cases h; exact ⟨_, rfl⟩) | cases h
theorem asSl_eq {x} (h : asSl e = some x) : ∃ p, e = .Slice x.1 x.2 none p := by
  unfold asSl at h
  split at h <;> first | (cases h; exact ⟨_, rfl⟩) | cases h
theorem asCall_eq {x} (h : asCall e = some x) : ∃ q p, e = .Call (.Name x.1 q) x.2.1 x.2.2 p := by
  unfold asCall at h
  split at h <;> first | (cases h; exact ⟨_, _, rfl⟩) | cases h
theorem asBool_eq {x} (h : asBool e = some x) : ∃ p, e = .BoolOp x.1 x.2 p := by
  unfold asBool at h
  split at h <;> first | (cases h; exact ⟨_, rfl⟩) | cases h
theorem asIf_eq {x} (h : asIf e = some x) : ∃ p, e = .IfExp x.1 x.2.1 x.2.2 p := by
  unfold asIf at h
  split at h <;> first | (cases h; exact ⟨_, rfl⟩) | cases h
theorem asChain_eq {x} (h : asChain e = some x) : ∃ p, e = .Compare x.1 [x.2.1, x.2.2.2.1] [x.2.2.1, x.2.2.2.2] p := by
  unfold asChain at h
  split at h <;> first | (cases h; exact ⟨_, rfl⟩) | cases h
theorem asRev_eq {x} (h : asRev e = some x) : ∃ k p1 p2 p3 p, e = .Subscript x (.Slice none none (some (.UnaryOp .USub (.Constant (.int 1) k p1) p2)) p3) p := by
  unfold asRev at h
  split at h
  · split at h
    · rename_i c
      have c := beq_iff_eq.mp c
      subst c
      cases h
      exact ⟨_, _, _, _, _, rfl⟩
    · cases h
  · cases h
theorem asRvk_eq {x} (h : asRvk e = some x) : (∃ k k2 p1 p2 p3 p4 p5 p, e = .Subscript x.1 (.Slice none (some (.UnaryOp .USub (.Constant (.int (x.2 : Int)) k p1) p2)) (some (.UnaryOp .USub (.Constant (.int 1) k2 p3) p4)) p5) p) ∧ 1 ≤ x.2 := by
  unfold asRvk at h
  split at h
  · split at h
    · rename_i a i _ _ _ j _ _ _ _ _ c
      simp only [Bool.and_eq_true, beq_iff_eq, decide_eq_true_eq] at c
      obtain ⟨rfl, c2⟩ := c
      cases h
      have e1 : ((i.toNat : Nat) : Int) = i := by omega
      refine ⟨⟨_, _, _, _, _, _, _, _, by show _ = Expr.Subscript a (.Slice none (some (.UnaryOp .USub (.Constant (.int ((i.toNat : Nat) : Int)) _ _) _)) _ _) _; rw [e1]⟩, by show 1 ≤ i.toNat; omega⟩
    · cases h
  · cases h
theorem asGetE_eq {x} (h : asGetE e = some x) : (∃ f q a0 as ks fp, x.1 = .Call (.Name f q) (a0 :: as) ks fp) ∧ e = .Call (.Attribute x.1 "get" x.2.2.1) [x.2.1] [] x.2.2.2 ∧ (x.2.2.1.endLine == x.2.2.2.line) = true := by
  unfold asGetE at h
  split at h
  · split at h
    · rename_i c
      simp only [Bool.and_eq_true, beq_iff_eq] at c
      cases h
      obtain ⟨rfl, c2⟩ := c
      exact ⟨⟨_, _, _, _, _, _, rfl⟩, rfl, by simpa using c2⟩
    · cases h
  · cases h
def asStrict : List Keyword → Bool
  | [⟨some n, .Constant (.bool true) _ _, _⟩] => decide (n = Str.ofString "strict")
  | _ => false
theorem asStrict_eq {ks : List Keyword} (h : asStrict ks = true) : ∃ j cp kp, ks = [⟨some (Str.ofString "strict"), .Constant (.bool true) j cp, kp⟩] := by
  unfold asStrict at h
  split at h
  · rename_i n j cp kp
    have h := of_decide_eq_true h
    subst h
    exact ⟨_, _, _, rfl⟩
  · cases h
theorem asGet1_eq {x} (h : asGet1 e = some x) : ∃ q, e = .Call (.Attribute (.Name x.1 q) "get" x.2.2.1) [x.2.1] [] x.2.2.2 ∧ (x.2.2.1.endLine == x.2.2.2.line) = true := by
  unfold asGet1 at h
  split at h
  · split at h
    · rename_i c
      simp only [Bool.and_eq_true, beq_iff_eq] at c
      cases h
      obtain ⟨rfl, c2⟩ := c
      exact ⟨_, rfl, by simpa using c2⟩
    · cases h
  · cases h
theorem asGet2_eq {x} (h : asGet2 e = some x) : ∃ q, e = .Call (.Attribute (.Name x.1 q) "get" x.2.2.2.1) [x.2.1, x.2.2.1] [] x.2.2.2.2 ∧ (x.2.2.2.1.endLine == x.2.2.2.2.line) = true := by
  unfold asGet2 at h
  split at h
  · split at h
    · rename_i c
      simp only [Bool.and_eq_true, beq_iff_eq] at c
      cases h
      obtain ⟨rfl, c2⟩ := c
      exact ⟨_, rfl, by simpa using c2⟩
    · cases h
  · cases h
theorem asMeth_eq {x} (h : asMeth e = some x) : e = .Call (.Attribute x.o x.nm x.ap) x.es [] x.cp ∧ (x.ap.endLine == x.cp.line) = true := by
  unfold asMeth at h
  split at h
  · split at h
    · rename_i c
      cases h
      exact ⟨rfl, c⟩
    · cases h
  · cases h
theorem asStar_eq {x} (h : asStar e = some x) : ∃ p q, e = .Starred (.Name x p) q := by
  unfold asStar at h
  split at h <;> first | (cases h; exact ⟨_, _, rfl⟩) | cases h
theorem isDnew_eq (h : isDnew e = true) : ∃ p, e = .Dict [] [] p := by
  unfold isDnew at h
  split at h <;> first | exact ⟨_, rfl⟩ | cases h
theorem asLrg_eq {x} (h : asLrg e = some x) : ∃ p q r s, e = .Call (.Name x.1 p) [.Call (.Name x.2.1 q) [x.2.2] [] r] [] s := by
  unfold asLrg at h
  split at h <;> first | (cases h; exact ⟨_, _, _, _, rfl⟩) | cases h
theorem asLc_eq {x} (h : asLc e = some x) : ∃ p, e = .ListComp x.elt [⟨x.tg, x.iter, x.ifs, 0⟩] x.scope p := by
  unfold asLc at h
  split at h <;> first | (cases h; exact ⟨_, rfl⟩) | cases h
end
def noSlice : Expr → Bool
  | .Slice _ _ _ _ => false
  | _ => true
def noSet : Expr → Bool
  | .Set _ _ _ => false
  | _ => true
/-- its truth is its value's -/
def plainT : Expr → Bool
  | .UnaryOp _ _ _ => false
  | .BoolOp _ _ _ => false
  | .IfExp _ _ _ _ => false
  | .Compare _ _ _ _ => false
  | .NamedExpr _ _ _ => false
  | _ => true
theorem noSlice_ok {b : Expr} (h : noSlice b = true) : PlainIx b := fun o i => by
  cases b <;> first | rfl | cases h
theorem noSet_it {b : Expr} {env : Env} (h : noSet b = true) : ∀ x, foldedSetIterable b env x = pure x := fun x => by
  cases b <;> first | rfl | cases h
theorem noSet_beh {b : Expr} {o : CmpOp} (h : noSet b = true) : behindInMarks o b = false := by
  cases b <;> first | rfl | cases h
theorem plainT_ok {a : Expr} {env : Env} (h : plainT a = true) : ∀ whole, isTrue a env whole = (do let v ← whole; standAt a.pos; holding [v] (truthy v)) := fun whole => by
  cases a <;> first | rfl | cases h
def visC (sc : Scope) (x : Str) : Bool := match sc.names.lookup x with
  | some .local => true
  | some .cell => true
  | some .free => true
  | _ => false
def globC (sc : Scope) (x : Str) : Bool := match sc.names.lookup x with
  | some .globalImplicit => true
  | _ => false
def storeC (sc raw : Scope) (x : Str) : Bool := match sc.names.lookup x with
  | some .local => true
  | some .cell => match raw.names.lookup x with
    | some .cell => true
    | _ => false
  | _ => false
theorem visC_ok {sc : Scope} {x : Str} (h : visC sc x = true) : Vis sc x := by
  unfold visC at h
  split at h
  · exact .inl (by assumption)
  · exact .inr (.inl (by assumption))
  · exact .inr (.inr (by assumption))
  · cases h
theorem globC_ok {sc : Scope} {x : Str} (h : globC sc x = true) : sc.names.lookup x = some .globalImplicit := by
  unfold globC at h
  split at h
  · assumption
  · cases h
theorem storeC_ok {sc raw : Scope} {x : Str} (h : storeC sc raw x = true) : Loc sc x ∧ (raw.names.lookup x = some .cell ∨ sc.names.lookup x = some .local) := by
  unfold storeC at h
  split at h
  · rename_i e; exact ⟨.inl e, .inr e⟩
  · rename_i e
    split at h
    · rename_i e2; exact ⟨.inr e, .inl e2⟩
    · cases h
  · cases h
def plainN (x : Str) : Bool := !(x == ("__debug__" : Str)) && !(x == ("__classdict__" : Str)) && !(x == ("__name__" : Str))
theorem plainN_ok {x : Str} (h : plainN x = true) : (x == ("__debug__" : Str)) = false ∧ (x == ("__classdict__" : Str)) = false ∧ x ≠ ("__name__" : Str) := by
  unfold plainN at h
  simp only [Bool.and_eq_true, Bool.not_eq_true'] at h
  exact ⟨h.1.1, h.1.2, fun e => by have := h.2; rw [e] at this; simp at this⟩
def cnOk : Cn → Bool
  | .str s => PyData.strOk s
  | _ => true
def kwNames : List Keyword → List (Option Str) := fun l => l.map (·.arg)
def tyC (sc : Scope) (t : TyN) (e : Expr) : Bool := match asName e with
  | some x => decide (x = (t.nm : Str)) && globC sc x
  | none => false
def tysC (sc : Scope) : List TyN → List Expr → Bool
  | [], [] => true
  | t :: ts, e :: es => tyC sc t e && tysC sc ts es
  | _, _ => false
def isiC (sc : Scope) (ts : List TyN) (tp : Bool) (e : Expr) : Bool := match ts, tp with
  | [t], false => tyC sc t e
  | t :: ts, true => match asTup e with | some es => tysC sc (t :: ts) es && decide ((t :: ts).length < 100) | none => false
  | _, _ => false
def isAnd : BoolOp → Bool
  | .And => true
  | .Or => false
mutual
def ckG (B : Tb) (ok : Nat → Bool) : Tg → Scope → Scope → Expr → Bool
  | .name i, sc, raw, e => match asName e with | some x => decide (B.N[i]? = some x) && storeC sc raw x && ok i | none => false
  | .ix i j, sc, raw, e => match asSub e with | some x => (match asName x.1 with | some z => decide (B.N[i]? = some z) && visC sc z && plainN z | none => false) && decide (asCst x.2 = some (.int j)) | none => false
  | .tup r, sc, raw, e => match asTup e with | some es => ckGs B ok r sc raw es | none => false
def ckGs (B : Tb) (ok : Nat → Bool) : Tgs → Scope → Scope → List Expr → Bool
  | .nil, _, _, es => es.isEmpty
  | .cons a r, sc, raw, es => match es with
    | [] => false
    | e :: es => ckG B ok a sc raw e && noStar e && ckGs B ok r sc raw es
  | .star i, sc, raw, es => match es with
    | [e] => match asStar e with | some x => decide (B.N[i]? = some x) && storeC sc raw x && ok i | none => false
    | _ => false
end
mutual
def ckM (B : Tb) : M → Scope → Scope → Expr → Bool
  | .cst c, _, _, e => decide (asCst e = some c) && cnOk c
  | .var i, sc, _, e => match asName e with | some x => decide (B.N[i]? = some x) && visC sc x && plainN x | none => false
  | .glb k, sc, _, e => match asName e with | some x => decide (B.cn[k]? = some x) && globC sc x && plainN x | none => false
  | .tup a, sc, raw, e => match asTup e with | some es => ckMs B a sc raw es | none => false
  | .lst a, sc, raw, e => match asLst e with | some es => ckMs B a sc raw es | none => false
  | .bin o a b, sc, raw, e => match asBin e with | some x => decide (x.2.1 = o.op) && ckM B a sc raw x.1 && ckM B b sc raw x.2.2 | none => false
  | .cmp o a b, sc, raw, e => match asCmp e with | some x => decide (x.2.1 = o.op) && ckM B a sc raw x.1 && ckM B b sc raw x.2.2 && noSet x.2.2 | none => false
  | .neg a, sc, raw, e => match asUn e with | some x => decide (x.1 = .USub) && ckM B a sc raw x.2 | none => false
  | .ix a b, sc, raw, e => match asSub e with | some x => ckM B a sc raw x.1 && ckM B b sc raw x.2 && noSlice x.2 | none => false
  | .cut a lo hi, sc, raw, e => match asSub e with
    | some x => match asSl x.2 with | some y => ckM B a sc raw x.1 && ckO B lo sc raw y.1 && ckO B hi sc raw y.2 | none => false
    | none => false
  | .bf f a, sc, raw, e => match asCall e with | some x => decide (x.1 = f.nm) && globC sc x.1 && x.2.2.isEmpty && !x.2.1.isEmpty && ckMs B a sc raw x.2.1 | none => false
  | .call k a, sc, raw, e => match asCall e with | some x => decide (B.fn[k]? = some x.1) && globC sc x.1 && plainN x.1 && x.2.2.isEmpty && ckA B a sc raw x.2.1 | none => false
  | .callk k p q, sc, raw, e => match asCall e with
    | some x => match B.kw[k]? with
      | some y => decide (y.1 = x.1) && globC sc x.1 && plainN x.1 && decide (x.2.2.map (·.arg) = y.2.2.map some) && decide (x.2.1.length = y.2.1) && ckMs B p sc raw x.2.1 && ckK B q sc raw x.2.2
      | none => false
    | none => false
  | .bop c a, sc, raw, e => match asBool e with | some x => decide (isAnd x.1 = c) && ckBo B a sc raw x.2 | none => false
  | .not a, sc, raw, e => match asUn e with | some x => decide (x.1 = .Not) && ckM B a sc raw x.2 | none => false
  | .ifx c a b, sc, raw, e => match asIf e with | some x => ckT B c sc raw x.1 && ckM B a sc raw x.2.1 && ckM B b sc raw x.2.2 | none => false
  | .lc own it g c m, sc, raw, e => match asLc e with
    | some x => blkC B.N sc x.scope own && ckI B it sc raw x.tg x.iter && noSet x.iter && ckG B (fun i => decide (i ∈ own.map (·.2))) g (relS x.scope sc) x.scope x.tg && (match x.ifs with | [] => (match c with | .yes => true | _ => false) | [i] => ckT B c (relS x.scope sc) x.scope i | _ => false) &&
      ckM B m (relS x.scope sc) x.scope x.elt
    | none => false
  | .lc2 own it g c vs1 it1 g1 c1 m, sc, raw, e => match asLc2 e with
    | some x => blkC B.N sc x.scope own && ckI B it sc raw x.tg x.iter && noSet x.iter && ckG B (fun i => decide (i ∈ own.map (·.2))) g (relS x.scope sc) x.scope x.tg && (match x.ifs with | [] => (match c with | .yes => true | _ => false) | [i] => ckT B c (relS x.scope sc) x.scope i | _ => false) &&
      ckM B m (relS x.scope sc) x.scope x.elt &&
      (ckI B it1 (relS x.scope sc) x.scope x.tg1 x.iter1 && noSet x.iter1 && ckG B (fun i => decide (i ∈ vs1)) g1 (relS x.scope sc) x.scope x.tg1 && (match x.ifs1 with | [] => (match c1 with | .yes => true | _ => false) | [i] => ckT B c1 (relS x.scope sc) x.scope i | _ => false) && vs1.all fun i => decide (i ∈ own.map (·.2)))
    | none => false
  | .isi ts tp a, sc, raw, e => match asCall e with
    | some x => decide (x.1 = "isinstance") && globC sc x.1 && x.2.2.isEmpty && (match x.2.1 with | [y, z] => ckM B a sc raw y && noStar y && noStar z && isiC sc ts tp z | _ => false)
    | none => false
  | .dnew, _, _, e => isDnew e
  | .ext i a, sc, raw, e => match asMeth e with
    | some x => decide (x.nm = "extend") && (match asName x.o with | some z => decide (B.N[i]? = some z) && visC sc z && plainN z | none => false) && (match x.es with | [a1] => ckM B a sc raw a1 && noStar a1 | _ => false)
    | none => false
  | .gin k neg b, sc, raw, e => match asCmp e with
    | some x => decide (x.2.1 = if neg then .NotIn else .In) && ckM B b sc raw x.1 && (match asName x.2.2 with | some d => decide (B.dn[k]? = some d) && globC sc d && plainN d | none => false)
    | none => false
  | .bdn, _, _, e => isDnew e
  | .opv i, sc, _, e => match asName e with | some x => decide (B.N[i]? = some x) && visC sc x && plainN x | none => false
  | .sda i k n a, sc, raw, e => match asMeth e with
    | some x => decide (x.nm = "append") && (match asMeth x.o with
        | some y => decide (y.nm = "setdefault") && (match asName y.o with | some z => decide (B.N[i]? = some z) && visC sc z && plainN z | none => false) && (match y.es with | [k1, n1] => ckM B k sc raw k1 && noStar k1 && ckM B n sc raw n1 && noStar n1 | _ => false)
        | none => false) && (match x.es with | [a1] => ckM B a sc raw a1 && noStar a1 | _ => false)
    | none => false
  | .opx a, sc, raw, e => (asCall e).isSome && ckM B a sc raw e
  | .tupb a, sc, raw, e => match asTup e with | some es => ckA B a sc raw es | none => false
  | .mutb m i j a, sc, raw, e => match asMeth e with
    | some x => decide (x.nm = m.nm) && (match asSub x.o with | some y => (match asName y.1 with | some z => decide (B.N[i]? = some z) && visC sc z && plainN z | none => false) && decide (asCst y.2 = some (.int j)) | none => false) && decide (x.es.length = m.ar) && ckMs B a sc raw x.es
    | none => false
  | .callr k a, sc, raw, e => match asCall e with | some x => decide (B.fn[k]? = some x.1) && globC sc x.1 && plainN x.1 && x.2.2.isEmpty && !x.2.1.isEmpty && ckMs B a sc raw x.2.1 | none => false
  | .disp a b, sc, raw, e => match asDict e with | some x => ckMs B a sc raw x.1 && ckMs B b sc raw x.2 && decide (x.1.length = x.2.length) && !x.1.isEmpty && decide (x.1.length ≤ 15) | none => false
  | .dg1 a b, sc, raw, e => match asGet1 e with
    | some x => (match a with | .var i => decide (B.N[i]? = some x.1) && visC sc x.1 && plainN x.1 | _ => false) && ckM B b sc raw x.2.1 && noStar x.2.1
    | none => false
  | .dg2 a b c, sc, raw, e => match asGet2 e with
    | some x => (match a with | .var i => decide (B.N[i]? = some x.1) && visC sc x.1 && plainN x.1 | _ => false) && ckM B b sc raw x.2.1 && noStar x.2.1 && ckM B c sc raw x.2.2.1 && noStar x.2.2.1
    | none => false
  | .rvk a k, sc, raw, e => match asRvk e with | some x => decide (x.2 = k) && ckM B a sc raw x.1 | none => false
  | .dge a b, sc, raw, e => match asGetE e with | some x => ckM B a sc raw x.1 && ckM B b sc raw x.2.1 && noStar x.2.1 | none => false
  | .rev a, sc, raw, e => match asRev e with | some x => ckM B a sc raw x | none => false
  | .lrg a, sc, raw, e => match asLrg e with | some x => decide (x.1 = "list") && globC sc x.1 && decide (x.2.1 = "range") && globC sc x.2.1 && ckM B a sc raw x.2.2 && noStar x.2.2 | none => false
  | .chain o o' a b c, sc, raw, e => match asChain e with | some x => decide (x.2.1 = o.op) && decide (x.2.2.2.1 = o'.op) && ckM B a sc raw x.1 && ckM B b sc raw x.2.2.1 && ckM B c sc raw x.2.2.2.2 && noSet x.2.2.1 && noSet x.2.2.2.2 | none => false
  | .gix k b, sc, raw, e => match asSub e with
    | some x => match asName x.1 with | some d => decide (B.dn[k]? = some d) && globC sc d && plainN d && ckM B b sc raw x.2 && noSlice x.2 | none => false
    | none => false
  | .callv i a, sc, raw, e => match asCall e with | some x => decide (B.N[i]? = some x.1) && visC sc x.1 && plainN x.1 && x.2.2.isEmpty && !x.2.1.isEmpty && ckA B a sc raw x.2.1 | none => false
  | .meth m o a, sc, raw, e => match asMeth e with | some x => decide (x.nm = m.nm) && baseOk x.o && ckM B o sc raw x.o && decide (x.es.length < 29) && !x.es.isEmpty && ckMs B a sc raw x.es | none => false
  | .mutm m i a, sc, raw, e => match asMeth e with
    | some x => decide (x.nm = m.nm) && (match asName x.o with | some z => decide (B.N[i]? = some z) && visC sc z && plainN z | none => false) && decide (x.es.length = m.ar) && ckMs B a sc raw x.es
    | none => false
  | .dp1 i a, sc, raw, e => match asMeth e with
    | some x => decide (x.nm = "pop") && (match asName x.o with | some z => decide (B.N[i]? = some z) && visC sc z && plainN z | none => false) && (match x.es with | [y] => ckM B a sc raw y && noStar y | _ => false)
    | none => false
  | .dp2 i a b, sc, raw, e => match asMeth e with
    | some x => decide (x.nm = "pop") && (match asName x.o with | some z => decide (B.N[i]? = some z) && visC sc z && plainN z | none => false) && (match x.es with | [y, z] => ckM B a sc raw y && noStar y && ckM B b sc raw z && noStar z | _ => false)
    | none => false
  | .sdi a, sc, raw, e => match asCall e with
    | some x => decide (x.1 = "sorted") && globC sc x.1 && x.2.2.isEmpty && (match x.2.1 with
      | [y] => (match asMeth y with | some z => decide (z.nm = "items") && baseOk z.o && z.es.isEmpty && ckM B a sc raw z.o | none => false)
      | _ => false)
    | none => false
  | .sst a, sc, raw, e => match asCall e with
    | some x => decide (x.1 = "sorted") && globC sc x.1 && x.2.2.isEmpty && (match x.2.1 with
      | [y] => (match asCall y with | some z => decide (z.1 = "set") && globC sc z.1 && z.2.2.isEmpty && (match z.2.1 with | [w] => ckM B a sc raw w && noStar w | _ => false) | none => false)
      | _ => false)
    | none => false
  | .upr a, sc, raw, e => match asMeth e with | some z => decide (z.nm = "upper") && baseOk z.o && z.es.isEmpty && ckM B a sc raw z.o | none => false
  | .lrep a b, sc, raw, e => match asBin e with
    | some x => decide (x.2.1 = .Mult) && (match asLst x.1 with | some es => ckMs B a sc raw es | none => false) && ckM B b sc raw x.2.2
    | none => false
def ckMs (B : Tb) : Ms → Scope → Scope → List Expr → Bool
  | .nil, _, _, es => es.isEmpty
  | .cons a r, sc, raw, es => match es with
    | [] => false
    | e :: es => ckM B a sc raw e && noStar e && ckMs B r sc raw es
def ckK (B : Tb) : Ms → Scope → Scope → List Keyword → Bool
  | .nil, _, _, es => es.isEmpty
  | .cons a r, sc, raw, es => match es with
    | [] => false
    | e :: es => ckM B a sc raw e.value && ckK B r sc raw es
def ckBo (B : Tb) : Ms → Scope → Scope → List Expr → Bool
  | .nil, _, _, _ => false
  | .cons a r, sc, raw, es => match es with
    | [] => false
    | e :: es => match r with
      | .nil => ckM B a sc raw e && es.isEmpty
      | _ => ckM B a sc raw e && !es.isEmpty && ckBo B r sc raw es
def ckO (B : Tb) : Mo → Scope → Scope → Option Expr → Bool
  | .no, _, _, o => o.isNone
  | .so a, sc, raw, o => match o with | some e => ckM B a sc raw e | none => false
def ckA (B : Tb) : As → Scope → Scope → List Expr → Bool
  | .nil, _, _, es => es.isEmpty
  | .lend i r, sc, raw, es => match es with
    | [] => false
    | e :: es => (match asName e with | some x => decide (B.N[i]? = some x) && visC sc x && plainN x | none => false) && ckA B r sc raw es
  | .mv i r, sc, raw, es => match es with
    | [] => false
    | e :: es => (match asName e with | some x => decide (B.N[i]? = some x) && visC sc x && plainN x | none => false) && ckA B r sc raw es
  | .own a r, sc, raw, es => match es with
    | [] => false
    | e :: es => ckM B a sc raw e && noStar e && ckA B r sc raw es
  | .fro a r, sc, raw, es => match es with
    | [] => false
    | e :: es => ckM B a sc raw e && noStar e && ckA B r sc raw es
def ckT (B : Tb) : T → Scope → Scope → Expr → Bool
  | .yes, _, _, _ => false
  | .val a, sc, raw, e => ckM B a sc raw e && plainT e
  | .cmp o a b, sc, raw, e => match asCmp e with | some x => decide (x.2.1 = o.op) && ckM B a sc raw x.1 && ckM B b sc raw x.2.2 && noSet x.2.2 | none => false
  | .gin k neg b, sc, raw, e => match asCmp e with
    | some x => decide (x.2.1 = if neg then .NotIn else .In) && ckM B b sc raw x.1 && (match asName x.2.2 with | some d => decide (B.dn[k]? = some d) && globC sc d && plainN d | none => false)
    | none => false
  | .chain o o' a b c, sc, raw, e => match asChain e with | some x => decide (x.2.1 = o.op) && decide (x.2.2.2.1 = o'.op) && ckM B a sc raw x.1 && ckM B b sc raw x.2.2.1 && ckM B c sc raw x.2.2.2.2 && noSet x.2.2.1 && noSet x.2.2.2.2 | none => false
  | .not t, sc, raw, e => match asUn e with | some x => decide (x.1 = .Not) && ckT B t sc raw x.2 | none => false
  | .bop c ts, sc, raw, e => match asBool e with | some x => decide (isAnd x.1 = c) && ckTs B ts sc raw x.2 | none => false
def ckTs (B : Tb) : Ts → Scope → Scope → List Expr → Bool
  | .nil, _, _, _ => false
  | .cons a r, sc, raw, es => match es with
    | [] => false
    | e :: es => match r with
      | .nil => ckT B a sc raw e && es.isEmpty
      | _ => ckT B a sc raw e && !es.isEmpty && ckTs B r sc raw es
def ckI (B : Tb) : I → Scope → Scope → Expr → Expr → Bool
  | .seq a, sc, raw, _, e => ckM B a sc raw e
  | .rng1 a, sc, raw, _, e => match asCall e with | some x => decide (x.1 = "range") && globC sc x.1 && x.2.2.isEmpty && (match x.2.1 with | [y] => ckM B a sc raw y && noStar y | _ => false) | none => false
  | .rng2 a b, sc, raw, _, e => match asCall e with | some x => decide (x.1 = "range") && globC sc x.1 && x.2.2.isEmpty && (match x.2.1 with | [y, z] => ckM B a sc raw y && noStar y && ckM B b sc raw z && noStar z | _ => false) | none => false
  | .enu a, sc, raw, tg, e => match asCall e with | some x => decide (x.1 = "enumerate") && globC sc x.1 && x.2.2.isEmpty && (asTup tg).isSome && (match x.2.1 with | [y] => ckM B a sc raw y && noStar y | _ => false) | none => false
  | .zip a b, sc, raw, tg, e => match asCall e with | some x => decide (x.1 = "zip") && globC sc x.1 && x.2.2.isEmpty && (asTup tg).isSome && (match x.2.1 with | [y, z] => ckM B a sc raw y && noStar y && ckM B b sc raw z && noStar z | _ => false) | none => false
  | .zips a b, sc, raw, tg, e => match asCall e with | some x => decide (x.1 = "zip") && globC sc x.1 && asStrict x.2.2 && (asTup tg).isSome && (match x.2.1 with | [y, z] => ckM B a sc raw y && noStar y && ckM B b sc raw z && noStar z | _ => false) | none => false
  | .zip3 a b c, sc, raw, tg, e => match asCall e with | some x => decide (x.1 = "zip") && globC sc x.1 && x.2.2.isEmpty && (asTup tg).isSome && (match x.2.1 with | [y, z, u] => ckM B a sc raw y && noStar y && ckM B b sc raw z && noStar z && ckM B c sc raw u && noStar u | _ => false) | none => false
  | .keys i, sc, raw, tg, e => match asName e with | some x => decide (B.N[i]? = some x) && visC sc x && plainN x | none => false
end
end TL

/-! T14: code that has the shape keeps what the shape wants: expressions -/
namespace TL
open PySem PySem.Spec PyProof.Rows L2

structure GoodX (X : Cx) (B : Tb) (G : Gm) (sc raw : Scope) : Prop where
  sc : X.env.scope = sc
  N : X.N = B.N
  nd : X.N.Nodup
  raw : ∀ x, raw.names.lookup x = some .cell → X.fn x = true
  calm : X.calm = true
  gd : X.A.guards = some []
  un : X.A.units + 64 < cLine
  xe : X.xe = fun _ _ => False
  fn : ∀ (k : Nat) (x : Str) (f : FE), B.fn[k]? = some x → G.fs[k]? = some f → ∃ kk ad fd ps, X.mg x = some (.ref ad) ∧ FnT X.prog X.w X.K X.mg X.base kk ad fd ps (spT X.K X.mg f.n f.t) ∧ Room kk X.A ∧ PySem.W.keepIn X.K (.ref ad) = true ∧ Binds X.K fd ps []
  cn : ∀ (k : Nat) (x : Str) (d : D), B.cn[k]? = some x → G.cs[k]? = some d → ∃ v u, X.mg x = some u ∧ RelV v u ∧ ∀ hot H, Rep X.K X.mg hot H v d
  kw : ∀ (k : Nat) (y : Str × Nat × List Str) (e : TL.KE), B.kw[k]? = some y → G.kw[k]? = some e → ∃ kk ad fd ps dU dV, X.mg y.1 = some (.ref ad) ∧ FnT X.prog X.w X.K X.mg X.base kk ad fd ps (spT X.K X.mg e.n e.t) ∧ Room kk X.A ∧ PySem.W.keepIn X.K (.ref ad) = true ∧ KB X.K fd ps y.2.1 y.2.2 e.perm dU ∧ Vals dV dU ∧
    (∀ hot H, Reps X.K X.mg hot H dV e.dD) ∧ e.npos = y.2.1 ∧ e.nk = y.2.2.length
  bn : ∀ x ∈ bnames, X.mg x = none
  fx : ∀ (k : Nat) (f : FE), G.fs[k]? = some f → B.fn[k]? = some f.x
  dn : ∀ (k : Nat) (x : Str) (tab : List (Str × D)), B.dn[k]? = some x → G.ds[k]? = some tab → ∃ a, X.mg x = some (.ref a) ∧ (∀ s d, lookS s tab = some d → ∃ v, KDct X.K X.w a s v ∧ ∀ hot H, Rep X.K X.mg hot H v d) ∧ TabK X.K X.w a tab
theorem GoodX.blk {X : Cx} {B : Tb} {G : Gm} {sc raw : Scope} (g : GoodX X B G sc raw) (s : Shared) (H : Hp) (scope : Scope) (cl : List (Str × Addr)) (C : Addr) (fp : List Addr) :
    GoodX (X.blk s H scope (compEnvC scope cl C X.env) fp) B G (relS scope sc) scope := by
  refine ⟨?_, g.N, g.nd, fun x h => ?_, g.calm, g.gd, g.un, rfl, g.fn, g.cn, g.kw, g.bn, g.fx, g.dn⟩
  · rw [← g.sc]; rfl
  · show (scope.names.lookup x == some .cell) = true
    rw [h]; rfl

section
variable {X : Cx} {B : Tb} {G : Gm} {sc raw : Scope}
theorem PEimpL {e : Expr} {t t' : TE} (h : PE X e t) (q : ∀ σ H Q, σ.length = X.N.length → t' σ H Q → t σ H Q) : PE X e t' := ⟨fun pins s σ H Q I w => h.run pins s σ H Q I (q σ H Q I.len w)⟩
theorem GoodX.gl (g : GoodX X B G sc raw) {x : Str} (h : globC sc x = true) : Gl X x := by
  show X.env.scope.names.lookup x = _
  rw [g.sc]; exact globC_ok h
theorem GoodX.vis (g : GoodX X B G sc raw) {x : Str} (h : visC sc x = true) : Vis X.env.scope x := by rw [g.sc]; exact visC_ok h
theorem GoodX.var (g : GoodX X B G sc raw) {x : Str} {i : Nat} {p : Pos} (h : (decide (B.N[i]? = some x) && visC sc x && plainN x) = true) : PE X (.Name x p) (tVar i) := by
  simp only [Bool.and_eq_true, decide_eq_true_eq] at h
  obtain ⟨a, b, c⟩ := plainN_ok h.2
  exact pe_var (by rw [g.N]; exact h.1.1) (g.vis h.1.2) a b
theorem opX_ok {e : Expr} {m : M} {t : WE} (h : PE X e (liftE X.K X.mg t)) (hv : ∀ i, m = .var i → ∃ x p, e = .Name x p ∧ PE X (.Name x p) (tVar i)) : PE X e (liftX X.K X.mg (opX m t)) := by
  unfold opX
  split
  · rename_i i
    obtain ⟨x, p, rfl, h2⟩ := hv i rfl
    exact px_var h2
  · exact px_tm h
theorem ck_var (g : GoodX X B G sc raw) {e : Expr} {m : M} (h : ckM B m sc raw e = true) : ∀ i, m = .var i → ∃ x p, e = .Name x p ∧ PE X (.Name x p) (tVar i) := by
  intro i hi
  subst hi
  unfold ckM at h
  split at h
  · rename_i x hx
    obtain ⟨p, rfl⟩ := asName_eq hx
    exact ⟨x, p, rfl, g.var h⟩
  · cases h
theorem ckMs_ns (B : Tb) : ∀ (a : Ms) (sc raw : Scope) (es : List Expr), ckMs B a sc raw es = true → es.all noStar = true
  | .nil, sc, raw, es, h => by
    unfold ckMs at h
    rw [List.isEmpty_iff.mp h]; rfl
  | .cons a r, sc, raw, es, h => by
    unfold ckMs at h
    split at h
    · cases h
    · simp only [Bool.and_eq_true] at h
      rw [List.all_cons, h.1.2, ckMs_ns B r sc raw _ h.2]; rfl
theorem ckA_ns (B : Tb) : ∀ (a : As) (sc raw : Scope) (es : List Expr), ckA B a sc raw es = true → es.all noStar = true
  | .nil, sc, raw, es, h => by
    unfold ckA at h
    rw [List.isEmpty_iff.mp h]; rfl
  | .lend i r, sc, raw, es, h => by
    unfold ckA at h
    split at h
    · cases h
    · simp only [Bool.and_eq_true] at h
      split at h
      · rename_i x hx
        obtain ⟨p, rfl⟩ := asName_eq hx
        rw [List.all_cons, ckA_ns B r sc raw _ h.2]; rfl
      · cases h.1
  | .mv i r, sc, raw, es, h => by
    unfold ckA at h
    split at h
    · cases h
    · simp only [Bool.and_eq_true] at h
      split at h
      · rename_i x hx
        obtain ⟨p, rfl⟩ := asName_eq hx
        rw [List.all_cons, ckA_ns B r sc raw _ h.2]; rfl
      · cases h.1
  | .own a r, sc, raw, es, h => by
    unfold ckA at h
    split at h
    · cases h
    · simp only [Bool.and_eq_true] at h
      rw [List.all_cons, h.1.2, ckA_ns B r sc raw _ h.2]; rfl
  | .fro a r, sc, raw, es, h => by
    unfold ckA at h
    split at h
    · cases h
    · simp only [Bool.and_eq_true] at h
      rw [List.all_cons, h.1.2, ckA_ns B r sc raw _ h.2]; rfl
theorem ns_any {es : List Expr} {env : Env} {pos : Pos} (h : es.all noStar = true) : (backTo pos (starEach es env)).any (·.1) = false := by
  unfold backTo
  rw [List.any_map]
  induction es with
  | nil => rfl
  | cons e es ih =>
    rw [List.all_cons, Bool.and_eq_true] at h
    rw [star_of h.1, List.any_cons, ih h.2]; rfl
theorem kws_names {ks : List Keyword} {env : Env} {pos : Pos} {l : List Str} (h : ks.map (·.arg) = l.map some) :
    (backToKw pos (keywordEach ks env)).all (·.1.isSome) = true ∧ (backToKw pos (keywordEach ks env)).filterMap (·.1) = l ∧ (backToKw pos (keywordEach ks env)).any (·.1.isNone) = false := by
  induction ks generalizing l with
  | nil =>
    cases l with
    | nil => exact ⟨rfl, rfl, rfl⟩
    | cons x l => cases h
  | cons k ks ih =>
    cases l with
    | nil => cases h
    | cons x l =>
      obtain ⟨nm, v, p⟩ := k
      simp only [List.map_cons, List.cons.injEq] at h
      obtain ⟨rfl, h⟩ := h
      obtain ⟨a, b, c⟩ := ih h
      refine ⟨?_, ?_, ?_⟩
      · show ((some x).isSome && (backToKw pos (keywordEach ks env)).all (·.1.isSome)) = true
        rw [a]; rfl
      · show x :: (backToKw pos (keywordEach ks env)).filterMap (·.1) = _
        rw [b]
      · show ((some x).isNone || (backToKw pos (keywordEach ks env)).any (·.1.isNone)) = false
        rw [c]; rfl
theorem bo_ok (o : BO) : OpR X (binaryOp o.op) (o.r X.K) ∧ BinL X.K X.mg (o.r X.K) o.s := by
  cases o
  · exact ⟨or_add, bl_add⟩
  · exact ⟨op_sub, bl_sub⟩
  · exact ⟨or_mulA, bl_mulA⟩
  · exact ⟨op_fdivW, bl_divA⟩
  · exact ⟨op_mod, bl_mod⟩
  · exact ⟨op_pow, bl_pow⟩
theorem co_ok (hu : X.A.units + 64 < cLine) (o : CO) : OpR X (compareOp o.op) (o.r X.K) ∧ BinL X.K X.mg (o.r X.K) o.s := by
  cases o
  · exact ⟨or_lt, bl_lt⟩
  · exact ⟨or_leA, bl_leA⟩
  · exact ⟨op_gt, bl_gt⟩
  · exact ⟨op_ge, bl_ge⟩
  · exact ⟨or_eq hu, bl_eq false⟩
  · exact ⟨or_ne hu, bl_eq true⟩
  · exact ⟨OpR.or or_isA or_isO, bl_isX⟩
  · exact ⟨OpR.or or_isNA or_isnO, bl_isNX⟩
  · exact ⟨OpR.or (OpR.or or_in (op_inDic (by omega))) (or_inP hu), bl_inB false⟩
  · exact ⟨OpR.or (OpR.or or_notin (op_notinDic (by omega))) (or_ninP hu), bl_inB true⟩
theorem bf_ok (g : GoodX X B G sc raw) (f : BF) {p pos : Pos} {e : Expr} {es : List Expr} {ts : WXs} (hg : Gl X f.nm) (ha : PA X (e :: es) (liftXs X.K X.mg ts)) (hn : (e :: es).all noStar = true) :
    PE X (.Call (.Name f.nm p) (e :: es) [] pos) (liftE X.K X.mg (wCall f.s ts)) := by
  have hm : X.mg f.nm = none := g.bn _ f.nm_mem
  rw [List.all_cons, Bool.and_eq_true] at hn
  have he := star_of (es := es) (env := X.env) hn.1
  have hp := ns_any (env := X.env) (pos := pos) hn.2
  have dn : f.nm ≠ ("__name__" : Str) := by cases f <;> decide +kernel
  have dd : (f.nm == ("__debug__" : Str)) = false := by cases f <;> decide +kernel
  cases f
  · exact PEimp (pe_callB cr_len hg hm PySem.boot_len ha dn dd he hp) fun σ H Q w => call_lift cl_len w
  · exact PEimp (pe_callB call_abs hg hm PyProof.Rows.boot_abs ha dn dd he hp) fun σ H Q w => call_lift cl_abs w
  · exact PEimp (pe_callTy call_int1 hg hm PyProof.Rows.boot_int ha dn dd he hp) fun σ H Q w => call_lift cl_int w
  · exact PEimp (pe_callTy call_list_of hg hm PyProof.Rows.boot_list ha dn dd he hp) fun σ H Q w => call_lift cl_list w
  · exact PEimp (pe_callTy call_tupleN hg hm PyProof.Rows.boot_tuple ha dn dd he hp) fun σ H Q w => call_lift cl_tuple w
  · exact PEimp (pe_callB (cr_all g.calm) hg hm PyProof.Rows.boot_all ha dn dd he hp) fun σ H Q w => call_lift cl_all w
  · exact PEimp (pe_callB (cr_any g.calm) hg hm PyProof.Rows.boot_any ha dn dd he hp) fun σ H Q w => call_lift cl_any w
  · exact PEimp (pe_callB (cr_repr g.gd g.un) hg hm PyProof.Rows.boot_repr ha dn dd he hp) fun σ H Q w => call_lift cl_repr w
  · exact PEimp (pe_callB call_divmodN hg hm PyProof.Rows.boot_divmod ha dn dd he hp) fun σ H Q w => call_lift cl_divmod w
  · exact PEimp (pe_callB (cr_maxA g.calm) hg hm (by decide +kernel) ha dn dd he hp) fun σ H Q w => call_lift cl_max w
  · exact PEimp (pe_callB (cr_minA g.calm) hg hm (by decide +kernel) ha dn dd he hp) fun σ H Q w => call_lift cl_min w
  · exact PEimp (pe_callB (cr_sum g.calm) hg hm (by decide +kernel) ha dn dd he hp) fun σ H Q w => call_lift cl_sum w
  · exact PEimp (pe_callB (cr_sortedAny g.un) hg hm (by decide +kernel) ha dn dd he hp) fun σ H Q w => call_lift cl_sortedA w
  · exact PEimp (pe_callTy cr_strA hg hm (by decide +kernel) ha dn dd he hp) fun σ H Q w => call_lift cl_str w
  · exact PEimp (pe_callTy (cr_dictA g.calm) hg hm (by decide +kernel) ha dn dd he hp) fun σ H Q w => call_lift cl_dict w
mutual
theorem okG {ok : Nat → Bool} {lent : List Nat} (hl : ∀ i, ok i = true → i ∉ lent) : ∀ (t : Tg) {X : Cx} {sc raw : Scope} {e : Expr}, GoodX X B G sc raw → ckG B ok t sc raw e = true → PG X e (liftG X.K X.mg lent (gW t))
  | .name i, X, sc, raw, e, g, h => by
    unfold ckG at h
    split at h
    · rename_i x hx
      obtain ⟨p, rfl⟩ := asName_eq hx
      simp only [Bool.and_eq_true, decide_eq_true_eq] at h
      obtain ⟨a, b⟩ := storeC_ok h.1.2
      refine PGimp (pg_name g.nd (by rw [g.N]; exact h.1.1) (by rw [g.sc]; exact a) ?_) fun v σ H Q w => gname_lift (hl i h.2) w
      rw [g.sc]
      exact b.imp (g.raw x) id
    · cases h
  | .ix i j, X, sc, raw, e, g, h => by
    unfold ckG at h
    split at h
    · rename_i x hx
      obtain ⟨q, rfl⟩ := asSub_eq hx
      obtain ⟨y1, y2⟩ := x
      simp only [Bool.and_eq_true, decide_eq_true_eq] at h
      obtain ⟨h1, h2⟩ := h
      split at h1
      · rename_i z hz
        obtain ⟨q2, rfl⟩ := asName_eq hz
        obtain ⟨k, p, rfl⟩ := asCst_eq h2
        exact PGimp (pg_sub (g.var (by simpa using h1)) pe_int set_list) fun v σ H Q w => gix_lift w
      · cases h1
    · cases h
  | .tup r, X, sc, raw, e, g, h => by
    unfold ckG at h
    split at h
    · rename_i es hx
      obtain ⟨k, p, rfl⟩ := asTup_eq hx
      unfold gW
      by_cases hs : gW.st r = true
      · rw [if_pos hs]
        obtain ⟨a, b⟩ := okGS hl r g hs h
        exact pg_starD g.calm a b
      · rw [if_neg hs]
        obtain ⟨a, b, c⟩ := okGs hl r g (by simpa using hs) h
        have := pg_tupD (k := k) (pos := p) g.calm a b
        rw [c] at this
        exact this
    · cases h
theorem okGs {ok : Nat → Bool} {lent : List Nat} (hl : ∀ i, ok i = true → i ∉ lent) : ∀ (t : Tgs) {X : Cx} {sc raw : Scope} {es : List Expr}, GoodX X B G sc raw → gW.st t = false → ckGs B ok t sc raw es = true → PGs X es (liftGs X.K X.mg lent (gW.gWs t)) ∧ es.all noStar = true ∧ es.length = gW.len t
  | .nil, X, sc, raw, es, g, hs, h => by
    unfold ckGs at h
    rw [List.isEmpty_iff.mp h]
    exact ⟨pgs_nilD, rfl, rfl⟩
  | .cons t r, X, sc, raw, es, g, hs, h => by
    unfold gW.st at hs
    unfold ckGs at h
    split at h
    · cases h
    · simp only [Bool.and_eq_true] at h
      obtain ⟨a, b, c⟩ := okGs hl r g hs h.2
      exact ⟨pgs_consD (okG hl t g h.1.1) a h.1.2, by rw [List.all_cons, h.1.2, b]; rfl, by rw [List.length_cons, c]; rfl⟩
  | .star i, X, sc, raw, es, g, hs, h => by cases hs
theorem okGS {ok : Nat → Bool} {lent : List Nat} (hl : ∀ i, ok i = true → i ∉ lent) : ∀ (t : Tgs) {X : Cx} {sc raw : Scope} {es : List Expr}, GoodX X B G sc raw → gW.st t = true → ckGs B ok t sc raw es = true → PGs X es (liftGsS X.K X.mg lent (gW.len t) (gW.gWs t)) ∧ starLast (gW.len t) es = true
  | .nil, X, sc, raw, es, g, hs, h => by cases hs
  | .cons t r, X, sc, raw, es, g, hs, h => by
    unfold gW.st at hs
    unfold ckGs at h
    split at h
    · cases h
    · simp only [Bool.and_eq_true] at h
      obtain ⟨a, b⟩ := okGS hl r g hs h.2
      refine ⟨pgs_consS (okG hl t g h.1.1) a h.1.2, ?_⟩
      show (_ && _) = true
      rw [h.1.2, b]; rfl
  | .star i, X, sc, raw, es, g, hs, h => by
    unfold ckGs at h
    split at h
    · rename_i e
      split at h
      · rename_i x hx
        obtain ⟨p, q, rfl⟩ := asStar_eq hx
        simp only [Bool.and_eq_true, decide_eq_true_eq] at h
        obtain ⟨a, b⟩ := storeC_ok h.1.2
        refine ⟨pgs_starLast (hl i h.2) (pg_name g.nd (by rw [g.N]; exact h.1.1) (by rw [g.sc]; exact a) ?_), rfl⟩
        rw [g.sc]
        exact b.imp (g.raw x) id
      · cases h
    · cases h
end
end
end TL

/-! T15: expressions that have the shape keep what the shape wants -/
namespace TL
open PySem PySem.Spec PyProof.Rows L2
section
variable {B : Tb} {G : Gm} {sc raw : Scope}
theorem isi_nm : ("isinstance" : Str) ∈ bnames := by decide +kernel
theorem isi_n1 : ("isinstance" : Str) ≠ ("__name__" : Str) := by decide +kernel
theorem isi_n2 : (("isinstance" : Str) == ("__debug__" : Str)) = false := by decide +kernel
theorem list_nm : ("list" : Str) ∈ bnames := by decide +kernel
theorem ty_nm (t : TyN) : (t.nm : Str) ∈ bnames := by cases t <;> decide +kernel
theorem ty_boot (t : TyN) : bootBuiltins (t.nm : Str) = some (.type t.nm) := by cases t <;> decide +kernel
theorem ty_n1 (t : TyN) : (t.nm : Str) ≠ ("__name__" : Str) := by cases t <;> decide +kernel
theorem ty_n2 (t : TyN) : ((t.nm : Str) == ("__debug__" : Str)) = false := by cases t <;> decide +kernel
theorem tyC_ok {X : Cx} {sc raw : Scope} {t : TyN} {e : Expr} (g : GoodX X B G sc raw) (h : tyC sc t e = true) : PE X e (tC (.ty t.nm)) ∧ noStar e = true := by
  unfold tyC at h
  split at h
  · rename_i x hx
    obtain ⟨p, rfl⟩ := asName_eq hx
    simp only [Bool.and_eq_true, decide_eq_true_eq] at h
    obtain ⟨rfl, h2⟩ := h
    exact ⟨pe_bltn (g.gl h2) (g.bn _ (ty_nm t)) (ty_boot t) rfl (ty_n1 t) (ty_n2 t), rfl⟩
  · cases h
def tTys : List TyN → TA
  | [] => tNil
  | t :: ts => tCons (tC (.ty t.nm)) (tTys ts)
theorem tTys_eq : ∀ (ts : List TyN) (σ : L2.St) (H : Hp) (Q : List V → Hp → Prop), tTys ts σ H Q = Q (ts.map fun t => V.ty t.nm) H
  | [], _, _, _ => rfl
  | t :: ts, σ, H, Q => tTys_eq ts σ H fun xs H2 => Q (.ty t.nm :: xs) H2
theorem tysC_ok {X : Cx} {sc raw : Scope} (g : GoodX X B G sc raw) : ∀ {ts : List TyN} {es : List Expr}, tysC sc ts es = true → PA X es (tTys ts)
  | [], [], _ => pa_nil
  | [], _ :: _, h => by cases h
  | _ :: _, [], h => by cases h
  | t :: ts, e :: es, h => by
    unfold tysC at h
    rw [Bool.and_eq_true] at h
    obtain ⟨a, b⟩ := tyC_ok g h.1
    exact pa_cons a (tysC_ok g h.2) (star_of b)
theorem sorted_nm : ("sorted" : Str) ∈ bnames := by decide +kernel
theorem set_nm : ("set" : Str) ∈ bnames := by decide +kernel
theorem set_n1 : ("set" : Str) ≠ ("__name__" : Str) := by decide +kernel
theorem set_n2 : (("set" : Str) == ("__debug__" : Str)) = false := by decide +kernel
theorem sorted_bt : bootBuiltins ("sorted" : Str) = some (.builtin "sorted") := by decide +kernel
theorem sorted_n1 : ("sorted" : Str) ≠ ("__name__" : Str) := by decide +kernel
theorem sorted_n2 : (("sorted" : Str) == ("__debug__" : Str)) = false := by decide +kernel
theorem range_nm : ("range" : Str) ∈ bnames := by decide +kernel
theorem enum_nm : ("enumerate" : Str) ∈ bnames := by decide +kernel
theorem zip_nm : ("zip" : Str) ∈ bnames := by decide +kernel
theorem base_ok {X : Cx} {o : Expr} {n : Str} (h : baseOk o = true) : attributeBase o n X.env (eval o X.env) = eval o X.env := by
  cases o <;> first | rfl | cases h
theorem all_nst {es : List Expr} {env : Env} {pos : Pos} (h : es.all noStar = true) : (backTo pos (starEach es env)).all (fun x => !x.1) = true := by
  have := ns_any (env := env) (pos := pos) h
  rw [List.any_eq_false] at this
  rw [List.all_eq_true]
  intro x hx
  simpa using this x hx
theorem few_ok {X : Cx} {es : List Expr} {cpos : Pos} (h : es.all noStar = true) (hl : es.length < 29) : ((backTo cpos (starEach es X.env)).all (fun x => !x.1) && (backToKw cpos (keywordEach [] X.env)).all (fun x => x.1.isSome)
      && decide (es.length + ([] : List Keyword).length + (if ([] : List Keyword).isEmpty then 0 else 1) < 30)) = true := by
  rw [all_nst h]
  show (true && decide (es.length + 0 + 0 < 30)) = true
  rw [decide_eq_true (by omega)]; rfl
theorem str_ok : ("str" : String) = "str" ∨ ("str" : String) = "list" ∨ ("str" : String) = "dict" := .inl rfl
theorem lst_ok : ("list" : String) = "str" ∨ ("list" : String) = "list" ∨ ("list" : String) = "dict" := .inr (.inl rfl)
theorem meth_ok {X : Cx} {o e : Expr} {es : List Expr} {ap cp : Pos} {to : WX} {ts : WXs} (m : Mth) (ho : PE X o (liftX X.K X.mg to)) (hb : baseOk o = true) (ha : PA X (e :: es) (liftXs X.K X.mg ts)) (hn : (e :: es).all noStar = true) (hlen : (e :: es).length < 29) (hl : (ap.endLine == cp.line) = true) :
    PE X (.Call (.Attribute o m.nm ap) (e :: es) [] cp) (liftE X.K X.mg (wMeth m.T m.s to ts)) := by
  have hn2 : noStar e = true ∧ es.all noStar = true := by rw [List.all_cons, Bool.and_eq_true] at hn; exact hn
  cases m
  · exact PEimp (pe_bm PySem.F.plainAttrs_str PySem.F.slot_str_join PySem.F.type_str_join mt_joinD ho ha (base_ok hb) (few_ok hn hlen) hl (star_of hn2.1) (ns_any hn2.2)) fun σ H Q w => meth_lift str_ok ml_join w
  · exact PEimp (pe_bm PySem.F.plainAttrs_str PySem.F.slot_str_strip PySem.F.type_str_strip mt_strp ho ha (base_ok hb) (few_ok hn hlen) hl (star_of hn2.1) (ns_any hn2.2)) fun σ H Q w => meth_lift str_ok ml_strp w
theorem mut_ok {X : Cx} {x : Str} {q : Pos} {es : List Expr} {ap cp : Pos} {i : Nat} {a : Ms} (m : Mut) (g : GoodX X B G sc raw) (ho : PE X (.Name x q) (tVar i)) (hl : (ap.endLine == cp.line) = true) (har : es.length = m.ar) (hc : ckMs B a sc raw es = true) (ha : PA X es (liftXs X.K X.mg (wFs G a))) :
    PE X (.Call (.Attribute (.Name x q) m.nm ap) es [] cp) (liftE X.K X.mg (wMut "list" m.s i (wFs G a))) := by
  have hn := ckMs_ns B a sc raw es hc
  cases es with
  | nil =>
    have e0 : a = .nil := by
      cases a with
      | nil => rfl
      | cons a r => unfold ckMs at hc; cases hc
    subst e0
    have en : wFs G .nil = wXnil := by rw [wFs]
    rw [en]
    cases m with
    | rev => exact PEimp (pe_bm0 PySem.F.plainAttrs_list PySem.F.slot_list_reverse PySem.F.type_list_reverse mt_reverse ho (base_ok rfl) hl) fun σ H Q w => mut0_lift lst_ok mu_rev w
    | clear => exact PEimp (pe_bm0 PySem.F.plainAttrs_list PySem.F.slot_list_clear PySem.F.type_list_clear mt_clear ho (base_ok rfl) hl) fun σ H Q w => mut0_lift lst_ok mu_clear w
    | pop => exact PEimp (pe_bm0 PySem.F.plainAttrs_list PySem.F.slot_list_pop PySem.F.type_list_pop mt_pop ho (base_ok rfl) hl) fun σ H Q w => mut0_lift lst_ok mu_pop w
    | _ => exact absurd har (by decide)
  | cons e es =>
    have hn2 : noStar e = true ∧ es.all noStar = true := by rw [List.all_cons, Bool.and_eq_true] at hn; exact hn
    have hlen : (e :: es).length < 29 := by rw [har]; cases m <;> decide
    cases m with
    | popAt => exact PEimp (pe_bm PySem.F.plainAttrs_list PySem.F.slot_list_pop PySem.F.type_list_pop mt_popAt ho ha (base_ok rfl) (few_ok hn hlen) hl (star_of hn2.1) (ns_any hn2.2)) fun σ H Q w => mut_lift lst_ok mu_popAt w
    | ins => exact PEimp (pe_bm PySem.F.plainAttrs_list PySem.F.slot_list_insert PySem.F.type_list_insert mt_insD ho ha (base_ok rfl) (few_ok hn hlen) hl (star_of hn2.1) (ns_any hn2.2)) fun σ H Q w => mut_lift lst_ok mu_ins w
    | app => exact PEimp (pe_bm PySem.F.plainAttrs_list PySem.F.slot_list_append PySem.F.type_list_append mt_append ho ha (base_ok rfl) (few_ok hn hlen) hl (star_of hn2.1) (ns_any hn2.2)) fun σ H Q w => mut_lift lst_ok mu_app w
    | rev => exact absurd har (by simp [Mut.ar])
    | clear => exact absurd har (by simp [Mut.ar])
    | pop => exact absurd har (by simp [Mut.ar])
theorem base_sub {X : Cx} {a b : Expr} {p : Pos} {n : Str} : attributeBase (.Subscript a b p) n X.env (eval (.Subscript a b p) X.env) = eval (.Subscript a b p) X.env := rfl
theorem mutB_ok {X : Cx} {o1 o2 : Expr} {q : Pos} {es : List Expr} {ap cp : Pos} {i j : Nat} {a : Ms} (m : Mut) (g : GoodX X B G sc raw) (ho : PE X (.Subscript o1 o2 q) (tIxJ X.K i j)) (hl : (ap.endLine == cp.line) = true) (har : es.length = m.ar) (hc : ckMs B a sc raw es = true) (ha : PA X es (liftXs X.K X.mg (wFs G a))) :
    PE X (.Call (.Attribute (.Subscript o1 o2 q) m.nm ap) es [] cp) (liftE X.K X.mg (wMutB m.s i j (wFs G a))) := by
  have hn := ckMs_ns B a sc raw es hc
  cases es with
  | nil =>
    have e0 : a = .nil := by
      cases a with
      | nil => rfl
      | cons a r => unfold ckMs at hc; cases hc
    subst e0
    have en : wFs G .nil = wXnil := by rw [wFs]
    rw [en]
    cases m with
    | rev => exact PEimp (pe_bm0 PySem.F.plainAttrs_list PySem.F.slot_list_reverse PySem.F.type_list_reverse mt_reverse ho base_sub hl) fun σ H Q w => mutB0_lift mu_rev w
    | clear => exact PEimp (pe_bm0 PySem.F.plainAttrs_list PySem.F.slot_list_clear PySem.F.type_list_clear mt_clear ho base_sub hl) fun σ H Q w => mutB0_lift mu_clear w
    | pop => exact PEimp (pe_bm0 PySem.F.plainAttrs_list PySem.F.slot_list_pop PySem.F.type_list_pop mt_pop ho base_sub hl) fun σ H Q w => mutB0_lift mu_pop w
    | _ => exact absurd har (by decide)
  | cons e es =>
    have hn2 : noStar e = true ∧ es.all noStar = true := by rw [List.all_cons, Bool.and_eq_true] at hn; exact hn
    have hlen : (e :: es).length < 29 := by rw [har]; cases m <;> decide
    cases m with
    | popAt => exact PEimp (pe_bm PySem.F.plainAttrs_list PySem.F.slot_list_pop PySem.F.type_list_pop mt_popAt ho ha base_sub (few_ok hn hlen) hl (star_of hn2.1) (ns_any hn2.2)) fun σ H Q w => mutB_lift mu_popAt w
    | ins => exact PEimp (pe_bm PySem.F.plainAttrs_list PySem.F.slot_list_insert PySem.F.type_list_insert mt_insD ho ha base_sub (few_ok hn hlen) hl (star_of hn2.1) (ns_any hn2.2)) fun σ H Q w => mutB_lift mu_ins w
    | app => exact PEimp (pe_bm PySem.F.plainAttrs_list PySem.F.slot_list_append PySem.F.type_list_append mt_append ho ha base_sub (few_ok hn hlen) hl (star_of hn2.1) (ns_any hn2.2)) fun σ H Q w => mutB_lift mu_app w
    | rev => exact absurd har (by simp [Mut.ar])
    | clear => exact absurd har (by simp [Mut.ar])
    | pop => exact absurd har (by simp [Mut.ar])
theorem findFE_mem {x : Str} {f : FE} : ∀ {fs : List FE}, findFE x fs = some f → f.x = x ∧ ∃ j : Nat, fs[j]? = some f
  | [], h => by cases h
  | g :: fs, h => by
    unfold findFE at h
    split at h
    · rename_i e
      cases h
      exact ⟨e.symm, 0, rfl⟩
    · obtain ⟨a, j, b⟩ := findFE_mem h
      exact ⟨a, j + 1, by simpa using b⟩
theorem callV_lift {X : Cx} {sc raw : Scope} (g : GoodX X B G sc raw) {i : Nat} {ts : WAs} {σ : L2.St} {H : Hp} {Q : VK} (w : liftE X.K X.mg (wCallV G.fs i ts) σ H Q) : tCallV X i (liftAs X.K X.mg ts) σ H Q := by
  obtain ⟨oh, τ, env, P, e0, S, ⟨o, x, f, hx, hf, t⟩, k⟩ := w
  obtain ⟨v, hv, r⟩ := get_slot e0 S hx
  cases r with
  | fro r =>
    cases r with
    | fn hm =>
      obtain ⟨rfl, j, hj⟩ := findFE_mem hf
      obtain ⟨kk, ad, fd, ps, hm2, F, hr, hk, hb⟩ := g.fn j f.x f (g.fx j f hj) hj
      rw [hm] at hm2
      cases hm2
      exact ⟨_, fd, ps, _, kk, hv, F, hr, hk, hb, callF_lift ⟨oh, τ, env, P, e0, S, t, k⟩⟩
inductive PEs (X : Cx) : List Expr → List TE → Prop
  | nil : PEs X [] []
  | cons {e es t ts} : PE X e t → PEs X es ts → PEs X (e :: es) (t :: ts)
theorem PEs.length {X : Cx} : ∀ {es ts}, PEs X es ts → es.length = ts.length
  | _, _, .nil => rfl
  | _, _, .cons _ t => by rw [List.length_cons, List.length_cons, PEs.length t]
theorem pps_of {X : Cx} {pos : Pos} : ∀ {ks vs : List Expr} {tk tv : List TE}, PEs X ks tk → PEs X vs tv → ks.length = vs.length → PPs X pos (ks.map some) vs (tk.zip tv)
  | _, _, _, _, .nil, .nil, _ => pps_nil
  | _, _, _, _, .cons h1 r1, .cons h2 r2, h => pps_cons h1 h2 (pps_of r1 r2 (by simpa using h))
theorem all_some : ∀ l : List Expr, (l.map some).all (·.isSome) = true
  | [] => rfl
  | _ :: l => by rw [List.map_cons, List.all_cons, all_some l]; rfl
theorem zip_lift {K mg} : ∀ (a b : List WE), ((a.zip b).map fun p => (liftE K mg p.1, liftE K mg p.2)) = (a.map (liftE K mg)).zip (b.map (liftE K mg))
  | [], _ => by simp
  | _ :: _, [] => by simp
  | x :: a, y :: b => by rw [List.zip_cons_cons, List.map_cons, zip_lift a b]; rfl
mutual
theorem okM : ∀ (m : M) {X : Cx} {sc raw : Scope} {e : Expr}, GoodX X B G sc raw → ckM B m sc raw e = true → PE X e (liftE X.K X.mg (wM G m))
  | .cst c, X, sc, raw, e, g, h => by
    unfold ckM at h
    simp only [Bool.and_eq_true, decide_eq_true_eq] at h
    obtain ⟨k, p, rfl⟩ := asCst_eq h.1
    unfold wM
    cases c with
    | non => exact PEimp pe_non fun σ H Q w => cst_lift (d := .non) (v := .non) (fun _ _ => .non) w
    | bl b => exact PEimp pe_bl fun σ H Q w => cst_lift (d := .bl b) (v := .bl b) (fun _ _ => .bl _) w
    | int i => exact PEimp pe_int fun σ H Q w => cst_lift (d := .int i) (v := .int i) (fun _ _ => .int _) w
    | str s => exact PEimp pe_str fun σ H Q w => cst_lift (d := .str s) (v := .str s) (fun _ _ => .str _ h.2) w
  | .var i, X, sc, raw, e, g, h => by
    obtain ⟨x, p, rfl, hp⟩ := ck_var g h i rfl
    unfold wM
    exact pe_varD hp
  | .glb k, X, sc, raw, e, g, h => by
    unfold ckM at h
    split at h
    · rename_i x hx
      obtain ⟨p, rfl⟩ := asName_eq hx
      simp only [Bool.and_eq_true, decide_eq_true_eq] at h
      unfold wM
      split
      · rename_i d hd
        obtain ⟨v, u, hm, r, rp⟩ := g.cn k x d h.1.1 hd
        exact PEimp (pe_glob (g.gl h.1.2) hm r (plainN_ok h.2).1) fun σ H Q w => cst_lift rp w
      · exact ⟨fun pins s σ H Q I w => by obtain ⟨_, _, _, _, _, _, z, _⟩ := w; cases z⟩
    · cases h
  | .tup a, X, sc, raw, e, g, h => by
    unfold ckM at h
    split at h
    · rename_i es hx
      obtain ⟨k, p, rfl⟩ := asTup_eq hx
      unfold wM
      exact PEimp (pe_tupT (okFs a g h)) fun σ H Q w => tup_lift w
    · cases h
  | .lst a, X, sc, raw, e, g, h => by
    unfold ckM at h
    split at h
    · rename_i es hx
      obtain ⟨p, rfl⟩ := asLst_eq hx
      unfold wM
      exact PEimp (pe_lst (okFs a g h)) fun σ H Q w => lst_lift w
    · cases h
  | .bin o a b, X, sc, raw, e, g, h => by
    unfold ckM at h
    split at h
    · rename_i x hx
      obtain ⟨p, rfl⟩ := asBin_eq hx
      simp only [Bool.and_eq_true, decide_eq_true_eq] at h
      unfold wM
      rw [h.1.1]
      exact PEimp (pe_op (bo_ok o).1 (opX_ok (okM a g h.1.2) (ck_var g h.1.2)) (opX_ok (okM b g h.2) (ck_var g h.2))) fun σ H Q w => bin_lift (bo_ok o).2 w
    · cases h
  | .cmp o a b, X, sc, raw, e, g, h => by
    unfold ckM at h
    split at h
    · rename_i x hx
      obtain ⟨p, rfl⟩ := asCmp_eq hx
      simp only [Bool.and_eq_true, decide_eq_true_eq] at h
      unfold wM
      rw [h.1.1.1]
      exact PEimp (pe_cmpR (co_ok g.un o).1 (opX_ok (okM a g h.1.1.2) (ck_var g h.1.1.2)) (opX_ok (okM b g h.1.2) (ck_var g h.1.2)) (noSet_beh h.2)) fun σ H Q w => bin_lift (co_ok g.un o).2 w
    · cases h
  | .neg a, X, sc, raw, e, g, h => by
    unfold ckM at h
    split at h
    · rename_i x hx
      obtain ⟨p, rfl⟩ := asUn_eq hx
      simp only [Bool.and_eq_true, decide_eq_true_eq] at h
      unfold wM
      rw [h.1]
      exact PEimp (pe_un un_neg (opX_ok (okM a g h.2) (ck_var g h.2))) fun σ H Q w => un_lift ul_neg w
    · cases h
  | .ix a b, X, sc, raw, e, g, h => by
    unfold ckM at h
    split at h
    · rename_i x hx
      obtain ⟨p, rfl⟩ := asSub_eq hx
      simp only [Bool.and_eq_true, decide_eq_true_eq] at h
      unfold wM
      exact PEimp (pe_ix (IxR.or ix_seq (ix_dic (by have := g.un; omega))) (opX_ok (okM a g h.1.1) (ck_var g h.1.1)) (opX_ok (okM b g h.1.2) (ck_var g h.1.2)) (noSlice_ok h.2)) fun σ H Q w => bin_lift bl_ixA w
    · cases h
  | .cut a lo hi, X, sc, raw, e, g, h => by
    unfold ckM at h
    split at h
    · rename_i x hx
      obtain ⟨p, rfl⟩ := asSub_eq hx
      split at h
      · rename_i y hy
        obtain ⟨a1, b1⟩ := x
        obtain ⟨q, e2⟩ := asSl_eq hy
        simp only at e2
        subst e2
        simp only [Bool.and_eq_true, decide_eq_true_eq] at h
        unfold wM
        exact PEimp (pe_slice sr_cut (opX_ok (okM a g h.1.1) (ck_var g h.1.1)) (okO lo g h.1.2) (okO hi g h.2)) fun σ H Q w => cut_lift w
      · cases h
    · cases h
  | .bf f a, X, sc, raw, e, g, h => by
    unfold ckM at h
    split at h
    · rename_i x hx
      obtain ⟨q, p, rfl⟩ := asCall_eq hx
      obtain ⟨x1, es, ks⟩ := x
      simp only [Bool.and_eq_true, decide_eq_true_eq, Bool.not_eq_true'] at h
      obtain ⟨⟨⟨⟨h1, h2⟩, h3⟩, h4⟩, h5⟩ := h
      obtain rfl := List.isEmpty_iff.mp h3
      subst h1
      unfold wM
      cases es with
      | nil => cases h4
      | cons e es => exact bf_ok g f (g.gl h2) (okMs a g h5) (ckMs_ns B a sc raw _ h5)
    · cases h
  | .call k a, X, sc, raw, e, g, h => by
    unfold ckM at h
    split at h
    · rename_i x hx
      obtain ⟨q, p, rfl⟩ := asCall_eq hx
      obtain ⟨x1, es, ks⟩ := x
      simp only [Bool.and_eq_true, decide_eq_true_eq, Bool.not_eq_true'] at h
      obtain ⟨⟨⟨⟨h1, h2⟩, h3⟩, h4⟩, h5⟩ := h
      obtain rfl := List.isEmpty_iff.mp h4
      unfold wM
      split
      · rename_i f hf
        obtain ⟨kk, ad, fd, ps, hm, F, hr, hk, hb⟩ := g.fn k x1 f h1 hf
        have hs := ckA_ns B a sc raw _ h5
        cases es with
        | nil =>
          have ha := okA a g h5
          refine PEimp (pe_callT0 F hr g.gd (g.gl h2) hm hk hb (plainN_ok h3).1) fun σ H Q w => ?_
          have w2 := callF_lift w
          unfold ckA at h5
          cases a with
          | nil =>
            obtain ⟨oh, τ, env, P, e0, S, t, kf⟩ := w2
            unfold wAs at t
            exact kf [] [] env H e0 .nil S Step.refl t
          | lend i r => cases h5
          | mv i r => cases h5
          | own a r => cases h5
          | fro a r => cases h5
        | cons e es =>
          rw [List.all_cons, Bool.and_eq_true] at hs
          exact PEimp (pe_callT F hr g.gd (g.gl h2) hm hk hb (okA a g h5) (plainN_ok h3).1 (star_of hs.1) (ns_any hs.2)) fun σ H Q w => callF_lift w
      · exact ⟨fun pins s σ H Q I w => by obtain ⟨_, _, _, _, _, _, z, _⟩ := w; cases z⟩
    · cases h
  | .callk k p q, X, sc, raw, e, g, h => by
    unfold ckM at h
    split at h
    · rename_i x hx
      obtain ⟨pq, pp, rfl⟩ := asCall_eq hx
      obtain ⟨x1, es, ks⟩ := x
      split at h
      · rename_i y hy
        obtain ⟨y1, y2, y3⟩ := y
        simp only [Bool.and_eq_true, decide_eq_true_eq, Bool.not_eq_true'] at h
        obtain ⟨⟨⟨⟨⟨⟨h1, h2⟩, h3⟩, h4⟩, h5⟩, h6⟩, h7⟩ := h
        subst h1
        unfold wM
        split
        · rename_i f hf
          obtain ⟨kk, ad, fd, ps, dU, dV, hm, F, hr, hk, hb, hd, rd, e1, e2⟩ := g.kw k _ f hy hf
          simp only at e1 e2 hb
          obtain ⟨k1, k2, k3⟩ := kws_names (env := X.env) (pos := pp) h4
          have hs := ckMs_ns B p sc raw _ h6
          have hp := okFs p g h6
          have hq := okK q g h7
          rw [e1, e2]
          cases es with
          | nil =>
            have : y2 = 0 := h5.symm
            subst this
            refine PEimp (pe_callKT0 F hr g.gd (g.gl h2) hm hk hb hd hq k1 k2 (plainN_ok h3).1 (by rw [k3]; rfl)) fun σ H Q w => callK0_lift rd ?_
            cases p with
            | nil => exact w
            | cons a r => unfold ckMs at h6; cases h6
          | cons e es =>
            rw [List.all_cons, Bool.and_eq_true] at hs
            have hs2 : (e :: es).all noStar = true := by rw [List.all_cons, hs.1, hs.2]; rfl
            exact PEimp (pe_callKT F hr g.gd (g.gl h2) hm hk hb hd hp hq hs.1 k1 k2 (plainN_ok h3).1 (by rw [ns_any hs2, k3]; rfl)) fun σ H Q w => callK_lift rd w
        · exact ⟨fun pins s σ H Q I w => by obtain ⟨_, _, _, _, _, _, z, _⟩ := w; cases z⟩
      · cases h
    · cases h
  | .bop c a, X, sc, raw, e, g, h => by
    unfold ckM at h
    split at h
    · rename_i x hx
      obtain ⟨p, rfl⟩ := asBool_eq hx
      obtain ⟨x1, es⟩ := x
      simp only [Bool.and_eq_true, decide_eq_true_eq, Bool.not_eq_true'] at h
      unfold wM
      exact okBo a c g h.1 h.2
    · cases h
  | .not a, X, sc, raw, e, g, h => by
    unfold ckM at h
    split at h
    · rename_i x hx
      obtain ⟨p, rfl⟩ := asUn_eq hx
      simp only [Bool.and_eq_true, decide_eq_true_eq, Bool.not_eq_true'] at h
      unfold wM
      rw [h.1]
      exact PEimp (pe_notT (okM a g h.2)) fun σ H Q w => notV_lift w
    · cases h
  | .ifx c a b, X, sc, raw, e, g, h => by
    unfold ckM at h
    split at h
    · rename_i x hx
      obtain ⟨p, rfl⟩ := asIf_eq hx
      simp only [Bool.and_eq_true, decide_eq_true_eq, Bool.not_eq_true'] at h
      unfold wM
      exact PEimp (pe_ifExp (okT c g h.1.1) (okM a g h.1.2) (okM b g h.2)) fun σ H Q w => if_lift w
    · cases h
  | .lc own it gt c m, X, sc, raw, e, g, h => by
    unfold ckM at h
    split at h
    · rename_i x hx
      obtain ⟨p, rfl⟩ := asLc_eq hx
      simp only [Bool.and_eq_true] at h
      obtain ⟨⟨⟨⟨⟨h1, h2⟩, h3⟩, h4⟩, h5⟩, h6⟩ := h
      unfold wM
      refine PEimpL (pe_lc (g := liftG X.K X.mg (lentC X.N.length (own.map (·.2))) (gW gt)) (tt := liftT X.K X.mg (wT G c)) g.calm g.nd (okI it g h2) ?_ ?_ ?_ ?_ (noSet_it h3)) fun σ H Q hl w => by
        have := lc_lift w
        rw [hl] at this
        exact this
      · rw [g.N, g.sc]; exact blkOk_by h1
      · intro s H C cl fp
        exact okG (fun i hi => not_lentC (by simpa using hi)) gt (g.blk s H x.scope cl C fp) h4
      · intro s H C cl fp
        have gb := g.blk s H x.scope cl C fp
        split at h5
        · rename_i e1
          rw [e1]
          split at h5
          · unfold wT
            exact ⟨fun pins s σ H Q I w => pts_nil.run pins s σ H Q I (yes_lift w)⟩
          · cases h5
        · rename_i i e1
          rw [e1]
          exact pts_one (okT c gb h5)
        · cases h5
      · intro s H C cl fp
        exact okM m (g.blk s H x.scope cl C fp) h6
    · cases h
  | .lc2 own it gt c vs1 it1 g1 c1 m, X, sc, raw, e, g, h => by
    unfold ckM at h
    split at h
    · rename_i x hx
      obtain ⟨p, rfl⟩ := asLc2_eq hx
      simp only [Bool.and_eq_true] at h
      obtain ⟨⟨⟨⟨⟨⟨h1, h2⟩, h3⟩, h4⟩, h5⟩, h6⟩, ⟨⟨⟨k1, k2⟩, k3⟩, k4⟩, k5⟩ := h
      have hv : ∀ i ∈ vs1, i ∈ own.map (·.2) := fun i hi => of_decide_eq_true (List.all_eq_true.mp k5 i hi)
      unfold wM
      refine PEimpL (pe_lc2 (g := liftG X.K X.mg (lentC X.N.length (own.map (·.2))) (gW gt)) (tt := liftT X.K X.mg (wT G c)) (g1 := liftG X.K X.mg (lentC X.N.length vs1) (gW g1)) (tt1 := liftT X.K X.mg (wT G c1)) (vs1 := vs1) g.calm g.nd (okI it g h2) ?_ hv ?_ ?_ ?_ ?_ ?_ ?_ (noSet_it h3) (fun env => noSet_it k2)) fun σ H Q hl w => by
        have := lc2_lift hv w
        rw [hl] at this
        exact this
      · rw [g.N, g.sc]; exact blkOk_by h1
      · intro s H C cl fp
        exact okG (fun i hi => not_lentC (by simpa using hi)) gt (g.blk s H x.scope cl C fp) h4
      · intro s H C cl fp
        have gb := g.blk s H x.scope cl C fp
        split at h5
        · rename_i e1
          rw [e1]
          split at h5
          · unfold wT
            exact ⟨fun pins s σ H Q I w => pts_nil.run pins s σ H Q I (yes_lift w)⟩
          · cases h5
        · rename_i i e1
          rw [e1]
          exact pts_one (okT c gb h5)
        · cases h5
      · intro s H C cl fp
        exact okI it1 (g.blk s H x.scope cl C fp) k1
      · intro s H C cl fp
        exact okG (fun i hi => not_lentC (by simpa using hi)) g1 (g.blk s H x.scope cl C fp) k3
      · intro s H C cl fp
        have gb := g.blk s H x.scope cl C fp
        split at k4
        · rename_i e1
          rw [e1]
          split at k4
          · unfold wT
            exact ⟨fun pins s σ H Q I w => pts_nil.run pins s σ H Q I (yes_lift w)⟩
          · cases k4
        · rename_i i e1
          rw [e1]
          exact pts_one (okT c1 gb k4)
        · cases k4
      · intro s H C cl fp
        exact okM m (g.blk s H x.scope cl C fp) h6
    · cases h
  | .isi ts tp a, X, sc, raw, e, g, h => by
    unfold ckM at h
    split at h
    · rename_i x hx
      obtain ⟨q, p, rfl⟩ := asCall_eq hx
      obtain ⟨x1, es, ks⟩ := x
      simp only [Bool.and_eq_true, decide_eq_true_eq, Bool.not_eq_true'] at h
      obtain ⟨⟨⟨h1, h2⟩, h3⟩, h4⟩ := h
      obtain rfl := List.isEmpty_iff.mp h3
      subst h1
      split at h4
      · rename_i y z
        simp only [Bool.and_eq_true] at h4
        obtain ⟨⟨⟨c1, c2⟩, c3⟩, c4⟩ := h4
        have hpa := opX_ok (okM a g c1) (ck_var g c1)
        have hp := ns_any (es := [z]) (env := X.env) (pos := p) (by rw [List.all_cons, c3]; rfl)
        unfold isiC at c4
        unfold wM
        split at c4
        · rename_i t
          obtain ⟨d1, d2⟩ := tyC_ok g c4
          refine PEimp (pe_callB call_isi (g.gl h2) (g.bn _ isi_nm) PyProof.Rows.boot_isinstance (pa_cons hpa (pa_cons d1 pa_nil (star_of d2)) (star_of c2)) isi_n1 isi_n2 (star_of c2) hp) fun σ H Q w => ?_
          rw [isiS_1] at w
          exact un_lift (ul_isi t) w
        · rename_i t ts
          split at c4
          · rename_i es hes
            obtain ⟨k, pz, rfl⟩ := asTup_eq hes
            rw [Bool.and_eq_true, decide_eq_true_eq] at c4
            obtain ⟨c4, c5⟩ := c4
            refine PEimp (pe_callB call_isiT (g.gl h2) (g.bn _ isi_nm) PyProof.Rows.boot_isinstance (pa_cons hpa (pa_cons (pe_tup (tysC_ok g c4)) pa_nil (star_of c3)) (star_of c2)) isi_n1 isi_n2 (star_of c2) hp) fun σ H Q w => ?_
            rw [isiS_t] at w
            have hsz : (t :: ts).length ≤ sizeLine := by rw [slen]; exact Nat.le_trans (Nat.le_of_lt_succ (by simpa using c5)) (by decide : 99 ≤ 16777216)
            have w2 := un_lift (r := fun x H Q => (t :: ts).length ≤ sizeLine ∧ rIsiN X.K (t :: ts) x H Q) (s := sIsiT (t :: ts)) (fun hot H x dx P Q hh rx q k => ⟨hsz, ul_isiT (by simp) hot H x dx P Q hh rx q k⟩) w
            obtain ⟨oh, τ, env, P, e0, S, t1, k1⟩ := w2
            refine ⟨oh, τ, env, P, e0, S, t1, fun v o env' H' b1 b2 b3 b4 b5 => ?_⟩
            obtain ⟨q1, q2⟩ := k1 v o env' H' b1 b2 b3 b4 b5
            show tTys (t :: ts) σ H' (fun xs H1 => xs.length ≤ sizeLine ∧ ∀ p, H1 p = none → rIsiT X.K [v, .ref p] (upd H1 p (.tup xs)) Q)
            rw [tTys_eq]
            exact ⟨by rw [List.length_map]; exact q1, fun p hp => q2 p hp⟩
          · cases c4
        · cases c4
      · cases h4
    · cases h
  | .dg1 a b, X, sc, raw, e, g, h => by
    unfold ckM at h
    split at h
    · rename_i x hx
      obtain ⟨q, rfl, hl⟩ := asGet1_eq hx
      simp only [Bool.and_eq_true] at h
      obtain ⟨⟨h1, h2⟩, h3⟩ := h
      split at h1
      · rename_i i
        have hs := star_of (es := []) (env := X.env) h3
        unfold wM
        refine PEimp (pe_dget1 (by have := g.un; omega) (px_var (K := X.K) (mg := X.mg) (g.var (by simpa using h1))) (opX_ok (okM b g h2) (ck_var g h2)) ⟨rfl, ?_, hl, ?_⟩) fun σ H Q w => dget1_lift w
        · rw [hs]; rfl
        · rw [hs]; rfl
      · cases h1
    · cases h
  | .dg2 a b c, X, sc, raw, e, g, h => by
    unfold ckM at h
    split at h
    · rename_i x hx
      obtain ⟨q, rfl, hl⟩ := asGet2_eq hx
      simp only [Bool.and_eq_true] at h
      obtain ⟨⟨⟨⟨h1, h2⟩, h3⟩, h4⟩, h5⟩ := h
      split at h1
      · rename_i i
        have hs1 := star_of (es := [x.2.2.1]) (env := X.env) h3
        have hs2 := star_of (es := []) (env := X.env) h5
        unfold wM
        refine PEimp (pe_dget2 (by have := g.un; omega) (px_var (K := X.K) (mg := X.mg) (g.var (by simpa using h1))) (opX_ok (okM b g h2) (ck_var g h2)) (opX_ok (okM c g h4) (ck_var g h4)) ⟨rfl, ?_, hl, ?_⟩) fun σ H Q w => dget2_lift w
        · rw [hs1, hs2]; rfl
        · rw [hs1, hs2]; rfl
      · cases h1
    · cases h
  | .dnew, X, sc, raw, e, g, h => by
    unfold ckM at h
    obtain ⟨p, rfl⟩ := isDnew_eq h
    unfold wM
    exact PEimp pe_dnewK fun σ H Q w => dnew_lift w
  | .bdn, X, sc, raw, e, g, h => by
    unfold ckM at h
    obtain ⟨p, rfl⟩ := isDnew_eq h
    unfold wM
    exact PEimp pe_dnewK fun σ H Q w => bnew_lift w
  | .opv i, X, sc, raw, e, g, h => by
    unfold ckM at h
    split at h
    · rename_i x hx
      obtain ⟨p, rfl⟩ := asName_eq hx
      unfold wM
      exact PEimp (pe_varD (g.var (by simpa using h))) fun σ H Q w => opv_lift w
    · cases h
  | .sda i k n a, X, sc, raw, e, g, h => by
    unfold ckM at h
    split at h
    · rename_i x hx
      obtain ⟨rfl, hl⟩ := asMeth_eq hx
      obtain ⟨x1, x2, x3, x4, x5⟩ := x
      simp only [Bool.and_eq_true, decide_eq_true_eq] at h
      obtain ⟨⟨h1, h2⟩, h3⟩ := h
      subst h1
      split at h2
      · rename_i y hy
        obtain ⟨hy2, hl2⟩ := asMeth_eq hy
        obtain ⟨y1, y2, y3, y4, y5⟩ := y
        simp only at hy2 hl2 h2
        subst hy2
        simp only [Bool.and_eq_true, decide_eq_true_eq] at h2
        obtain ⟨⟨h4, h5⟩, h6⟩ := h2
        subst h4
        split at h5
        · rename_i z hz
          obtain ⟨q, rfl⟩ := asName_eq hz
          split at h6
          · rename_i k1 n1
            simp only [Bool.and_eq_true] at h6
            obtain ⟨⟨⟨c1, c2⟩, c3⟩, c4⟩ := h6
            split at h3
            · rename_i a1
              rw [Bool.and_eq_true] at h3
              have hs1 := star_of (es := [n1]) (env := X.env) c2
              have hs2 := star_of (es := []) (env := X.env) c4
              have hs3 := star_of (es := []) (env := X.env) h3.2
              have hn : [a1].all noStar = true := by rw [List.all_cons, h3.2]; rfl
              unfold wM
              refine PEimp (pe_bm PySem.F.plainAttrs_list PySem.F.slot_list_append PySem.F.type_list_append mt_append (pe_dsetd (g.var (by simpa using h5)) (okM k g c1) (okM n g c3) ⟨rfl, ?_, hl2, ?_⟩) (pa_consD (px_tm (okM a g h3.1)) pa_nilD h3.2) rfl (few_ok hn (by show 1 < 29; decide)) hl hs3 (ns_any rfl)) fun σ H Q w => sda_lift mu_app w
              · rw [hs1, hs2]; rfl
              · rw [hs1, hs2]; rfl
            · cases h3
          · cases h6
        · cases h5
      · cases h2
    · cases h
  | .gin k neg b, X, sc, raw, e, g, h => by
    unfold ckM at h
    split at h
    · rename_i x hx
      obtain ⟨p, rfl⟩ := asCmp_eq hx
      obtain ⟨x1, x2, x3⟩ := x
      simp only [Bool.and_eq_true, decide_eq_true_eq] at h
      obtain ⟨⟨h0, h4⟩, h5⟩ := h
      split at h5
      · rename_i d hd
        obtain ⟨q, rfl⟩ := asName_eq hd
        simp only [Bool.and_eq_true, decide_eq_true_eq] at h5
        obtain ⟨⟨h1, h2⟩, h3⟩ := h5
        unfold wM
        split
        · rename_i tab htab
          obtain ⟨a, hm, ht, es, n, kd, miss⟩ := g.dn k d tab h1 htab
          cases neg with
          | false =>
            subst h0
            exact PEimp (pe_cmpR (or_gin kd) (opX_ok (okM b g h4) (ck_var g h4)) (pe_glob (v := .ref a) (g.gl h2) hm rfl (plainN_ok h3).1) rfl) fun σ H Q w => gin_lift ht miss w
          | true =>
            subst h0
            exact PEimp (pe_cmpR (or_gnot kd) (opX_ok (okM b g h4) (ck_var g h4)) (pe_glob (v := .ref a) (g.gl h2) hm rfl (plainN_ok h3).1) rfl) fun σ H Q w => gin_lift ht miss w
        · exact ⟨fun pins s σ H Q I w => by obtain ⟨_, _, _, _, _, _, z, _⟩ := w; cases z⟩
      · cases h5
    · cases h
  | .ext i a, X, sc, raw, e, g, h => by
    unfold ckM at h
    split at h
    · rename_i x hx
      obtain ⟨rfl, hl⟩ := asMeth_eq hx
      obtain ⟨x1, x2, x3, x4, x5⟩ := x
      simp only [Bool.and_eq_true, decide_eq_true_eq] at h
      obtain ⟨⟨h1, h2⟩, h3⟩ := h
      subst h1
      split at h2
      · rename_i z hz
        obtain ⟨q, rfl⟩ := asName_eq hz
        split at h3
        · rename_i a1
          rw [Bool.and_eq_true] at h3
          have hs3 := star_of (es := []) (env := X.env) h3.2
          have hn : [a1].all noStar = true := by rw [List.all_cons, h3.2]; rfl
          unfold wM
          exact PEimp (pe_bm PySem.F.plainAttrs_list PySem.F.slot_list_extend PySem.F.type_list_extend mt_extend (g.var (by simpa using h2)) (pa_cons (okM a g h3.1) pa_nil hs3) (base_ok rfl) (few_ok hn (by show 1 < 29; decide)) hl hs3 (ns_any rfl)) fun σ H Q w => ext_lift w
        · cases h3
      · cases h2
    · cases h
  | .opx a, X, sc, raw, e, g, h => by
    unfold ckM at h
    unfold wM
    rw [Bool.and_eq_true] at h
    exact PEimp (okM a g h.2) fun σ H Q w => opx_lift w
  | .tupb a, X, sc, raw, e, g, h => by
    unfold ckM at h
    split at h
    · rename_i es hes
      obtain ⟨c, p, rfl⟩ := asTup_eq hes
      unfold wM
      exact PEimp (pe_tupT (okA a g h)) fun σ H Q w => tupB_lift w
    · cases h
  | .mutb m i j a, X, sc, raw, e, g, h => by
    unfold ckM at h
    split at h
    · rename_i x hx
      obtain ⟨rfl, hl⟩ := asMeth_eq hx
      obtain ⟨x1, x2, x3, x4, x5⟩ := x
      simp only [Bool.and_eq_true, decide_eq_true_eq] at h
      obtain ⟨⟨⟨h1, h2⟩, h3⟩, h4⟩ := h
      subst h1
      split at h2
      · rename_i y hy
        obtain ⟨p, hy2⟩ := asSub_eq hy
        obtain ⟨y1, y2⟩ := y
        simp only at h2 hy2
        rw [Bool.and_eq_true] at h2
        obtain ⟨h5, h6⟩ := h2
        split at h5
        · rename_i z hz
          obtain ⟨q, rfl⟩ := asName_eq hz
          obtain ⟨k, q2, rfl⟩ := asCst_eq (of_decide_eq_true h6)
          subst hy2
          unfold wM
          exact mutB_ok m g (pe_ix ix_seq (g.var (by simpa using h5)) pe_int fun _ _ => rfl) hl h3 h4 (okFs a g h4)
        · cases h5
      · cases h2
    · cases h
  | .callr k a, X, sc, raw, e, g, h => by
    unfold ckM at h
    split at h
    · rename_i x hx
      obtain ⟨q, p, rfl⟩ := asCall_eq hx
      obtain ⟨x1, es, ks⟩ := x
      simp only [Bool.and_eq_true, decide_eq_true_eq, Bool.not_eq_true'] at h
      obtain ⟨⟨⟨⟨⟨h1, h2⟩, h3⟩, h4⟩, h6⟩, h5⟩ := h
      obtain rfl := List.isEmpty_iff.mp h4
      unfold wM
      split
      · rename_i f hf
        obtain ⟨kk, ad, fd, ps, hm, F, hr, hk, hb⟩ := g.fn k x1 f h1 hf
        have hs := ckMs_ns B a sc raw _ h5
        cases es with
        | nil => cases h6
        | cons e es =>
          rw [List.all_cons, Bool.and_eq_true] at hs
          exact PEimp (pe_callT F hr g.gd (g.gl h2) hm hk hb (okMs a g h5) (plainN_ok h3).1 (star_of hs.1) (ns_any hs.2)) fun σ H Q w => callR_lift w
      · exact ⟨fun pins s σ H Q I w => by obtain ⟨_, _, _, _, _, _, z, _⟩ := w; cases z⟩
    · cases h
  | .disp a b, X, sc, raw, e, g, h => by
    unfold ckM at h
    split at h
    · rename_i x hx
      obtain ⟨p, rfl⟩ := asDict_eq hx
      simp only [Bool.and_eq_true, decide_eq_true_eq, Bool.not_eq_true'] at h
      obtain ⟨⟨⟨⟨h1, h2⟩, h3⟩, h4⟩, h5⟩ := h
      have k1 := okMl a g h1
      have k2 := okMl b g h2
      unfold wM
      refine PEimp (pe_disp (pps_of k1 k2 h3) (all_some _) (by rw [List.length_map]; exact h3) ?_ (by rw [List.length_map]; exact h5)) fun σ H Q w => ?_
      · intro z
        rw [List.map_eq_nil_iff] at z
        rw [z] at h4
        cases h4
      · have := disp_lift w
        rw [zip_lift] at this
        exact this
    · cases h
  | .rvk a k, X, sc, raw, e, g, h => by
    unfold ckM at h
    split at h
    · rename_i x hx
      obtain ⟨⟨k1, k2, p1, p2, p3, p4, p5, p, rfl⟩, hk⟩ := asRvk_eq hx
      obtain ⟨x1, x2⟩ := x
      simp only [Bool.and_eq_true, decide_eq_true_eq] at h
      obtain ⟨h1, h2⟩ := h
      subst h1
      unfold wM
      exact PEimp (pe_rvk hk (opX_ok (okM a g h2) (ck_var g h2))) fun σ H Q w => un_lift (ul_rvk _) w
    · cases h
  | .dge a b, X, sc, raw, e, g, h => by
    unfold ckM at h
    split at h
    · rename_i x hx
      obtain ⟨⟨f, q0, a0, as, ks, fp, e1⟩, rfl, hl⟩ := asGetE_eq hx
      simp only [Bool.and_eq_true] at h
      obtain ⟨⟨h1, h2⟩, h3⟩ := h
      have hs := star_of (es := []) (env := X.env) h3
      unfold wM
      refine PEimp (pe_dget1 (by have := g.un; omega) (opX_ok (okM a g h1) (ck_var g h1)) (opX_ok (okM b g h2) (ck_var g h2)) ⟨by rw [e1]; rfl, ?_, hl, ?_⟩) fun σ H Q w => dget1_lift w
      · rw [hs]; rfl
      · rw [hs]; rfl
    · cases h
  | .rev a, X, sc, raw, e, g, h => by
    unfold ckM at h
    split at h
    · rename_i x hx
      obtain ⟨k, p1, p2, p3, p, rfl⟩ := asRev_eq hx
      unfold wM
      exact PEimp (pe_revL (opX_ok (okM a g h) (ck_var g h))) fun σ H Q w => un_lift ul_rev w
    · cases h
  | .lrg a, X, sc, raw, e, g, h => by
    unfold ckM at h
    split at h
    · rename_i x hx
      obtain ⟨p, q, r, s, rfl⟩ := asLrg_eq hx
      obtain ⟨x1, x2, x3⟩ := x
      simp only [Bool.and_eq_true, decide_eq_true_eq, Bool.not_eq_true'] at h
      obtain ⟨⟨⟨⟨⟨h1, h2⟩, h3⟩, h4⟩, h5⟩, h6⟩ := h
      subst h1
      subst h3
      unfold wM
      refine PEimp (pe_listRg g.calm (g.gl h2) (g.bn _ list_nm) (prg_1 (g.gl h4) (g.bn _ range_nm) (opX_ok (okM a g h5) (ck_var g h5)) (star_of h6)) rfl) fun σ H Q w => ?_
      have w2 := un_lift ul_lrg w
      obtain ⟨oh, τ, env, P, e0, S, t1, k1⟩ := w2
      refine ⟨oh, τ, env, P, e0, S, t1, fun v o env' H' b1 b2 b3 b4 b5 => ?_⟩
      obtain ⟨n, rfl, q1, q2⟩ := k1 v o env' H' b1 b2 b3 b4 b5
      exact ⟨n, rfl, q1, q2⟩
    · cases h
  | .chain o o' a b c, X, sc, raw, e, g, h => by
    unfold ckM at h
    split at h
    · rename_i x hx
      obtain ⟨p, rfl⟩ := asChain_eq hx
      simp only [Bool.and_eq_true, decide_eq_true_eq, Bool.not_eq_true'] at h
      obtain ⟨⟨⟨⟨⟨⟨h1, h2⟩, h3⟩, h4⟩, h5⟩, h6⟩, h7⟩ := h
      unfold wM
      rw [h1, h2]
      exact PEimp (pe_chain (co_ok g.un o).1 (co_ok g.un o').1 (opX_ok (okM a g h3) (ck_var g h3)) (opX_ok (okM b g h4) (ck_var g h4)) (opX_ok (okM c g h5) (ck_var g h5)) (noSet_beh h7)) fun σ H Q w => chain_lift (co_ok g.un o).2 (co_ok g.un o').2 w
    · cases h
  | .gix k b, X, sc, raw, e, g, h => by
    unfold ckM at h
    split at h
    · rename_i x hx
      obtain ⟨p, rfl⟩ := asSub_eq hx
      obtain ⟨x1, x2⟩ := x
      split at h
      · rename_i d hd
        obtain ⟨q, rfl⟩ := asName_eq hd
        simp only [Bool.and_eq_true, decide_eq_true_eq] at h
        obtain ⟨⟨⟨⟨h1, h2⟩, h3⟩, h4⟩, h5⟩ := h
        unfold wM
        split
        · rename_i tab htab
          obtain ⟨a, hm, ht, _⟩ := g.dn k d tab h1 htab
          exact PEimp (pe_ix ix_kdict (pe_glob (v := .ref a) (g.gl h2) hm rfl (plainN_ok h3).1) (opX_ok (okM b g h4) (ck_var g h4)) (noSlice_ok h5)) fun σ H Q w => gdix_lift ht w
        · exact ⟨fun pins s σ H Q I w => by obtain ⟨_, _, _, _, _, _, z, _⟩ := w; cases z⟩
      · cases h
    · cases h
  | .callv i a, X, sc, raw, e, g, h => by
    unfold ckM at h
    split at h
    · rename_i x hx
      obtain ⟨q, p, rfl⟩ := asCall_eq hx
      obtain ⟨x1, es, ks⟩ := x
      simp only [Bool.and_eq_true, decide_eq_true_eq, Bool.not_eq_true'] at h
      obtain ⟨⟨⟨⟨⟨h1, h2⟩, h3⟩, h4⟩, h5⟩, h6⟩ := h
      obtain rfl := List.isEmpty_iff.mp h4
      have hs := ckA_ns B a sc raw _ h6
      unfold wM
      cases es with
      | nil => cases h5
      | cons e es =>
        rw [List.all_cons, Bool.and_eq_true] at hs
        exact PEimp (pe_callV (i := i) g.gd (by rw [g.N]; exact h1) (g.vis h2) (okA a g h6) (plainN_ok h3).1 (plainN_ok h3).2.1 (star_of hs.1) (ns_any hs.2)) fun σ H Q w => callV_lift g w
    · cases h
  | .meth m o a, X, sc, raw, e, g, h => by
    unfold ckM at h
    split at h
    · rename_i x hx
      obtain ⟨rfl, hl⟩ := asMeth_eq hx
      obtain ⟨x1, x2, x3, x4, x5⟩ := x
      simp only [Bool.and_eq_true, decide_eq_true_eq, Bool.not_eq_true'] at h
      obtain ⟨⟨⟨⟨⟨h1, h2⟩, h3⟩, h4⟩, h5⟩, h6⟩ := h
      subst h1
      have hs := ckMs_ns B a sc raw _ h6
      unfold wM
      cases x3 with
      | nil => cases h5
      | cons e es => exact meth_ok m (opX_ok (okM o g h3) (ck_var g h3)) h2 (okMs a g h6) hs h4 hl
    · cases h
  | .mutm m i a, X, sc, raw, e, g, h => by
    unfold ckM at h
    split at h
    · rename_i x hx
      obtain ⟨rfl, hl⟩ := asMeth_eq hx
      obtain ⟨x1, x2, x3, x4, x5⟩ := x
      simp only [Bool.and_eq_true, decide_eq_true_eq] at h
      obtain ⟨⟨⟨h1, h2⟩, h3⟩, h4⟩ := h
      subst h1
      split at h2
      · rename_i z hz
        obtain ⟨q, rfl⟩ := asName_eq hz
        unfold wM
        exact mut_ok m g (g.var (by simpa using h2)) hl h3 h4 (okFs a g h4)
      · cases h2
    · cases h
  | .dp1 i a, X, sc, raw, e, g, h => by
    unfold ckM at h
    split at h
    · rename_i x hx
      obtain ⟨rfl, hl⟩ := asMeth_eq hx
      obtain ⟨x1, x2, x3, x4, x5⟩ := x
      simp only [Bool.and_eq_true, decide_eq_true_eq] at h
      obtain ⟨⟨h1, h2⟩, h3⟩ := h
      subst h1
      split at h2
      · rename_i z hz
        obtain ⟨q, rfl⟩ := asName_eq hz
        split at h3
        · rename_i y
          rw [Bool.and_eq_true] at h3
          have hs := star_of (es := []) (env := X.env) h3.2
          unfold wM
          refine PEimp (pe_dpop1 (g.var (by simpa using h2)) (opX_ok (okM a g h3.1) (ck_var g h3.1)) ⟨rfl, ?_, hl, ?_⟩) fun σ H Q w => dpop1_lift w
          · rw [hs]; rfl
          · rw [hs]; rfl
        · cases h3
      · cases h2
    · cases h
  | .dp2 i a b, X, sc, raw, e, g, h => by
    unfold ckM at h
    split at h
    · rename_i x hx
      obtain ⟨rfl, hl⟩ := asMeth_eq hx
      obtain ⟨x1, x2, x3, x4, x5⟩ := x
      simp only [Bool.and_eq_true, decide_eq_true_eq] at h
      obtain ⟨⟨h1, h2⟩, h3⟩ := h
      subst h1
      split at h2
      · rename_i z hz
        obtain ⟨q, rfl⟩ := asName_eq hz
        split at h3
        · rename_i y z2
          simp only [Bool.and_eq_true] at h3
          obtain ⟨⟨⟨c1, c2⟩, c3⟩, c4⟩ := h3
          have hs1 := star_of (es := [z2]) (env := X.env) c2
          have hs2 := star_of (es := []) (env := X.env) c4
          unfold wM
          refine PEimp (pe_dpop2 (g.var (by simpa using h2)) (opX_ok (okM a g c1) (ck_var g c1)) (opX_ok (okM b g c3) (ck_var g c3)) ⟨rfl, ?_, hl, ?_⟩) fun σ H Q w => dpop2_lift w
          · rw [hs1, hs2]; rfl
          · rw [hs1, hs2]; rfl
        · cases h3
      · cases h2
    · cases h
  | .sdi a, X, sc, raw, e, g, h => by
    unfold ckM at h
    split at h
    · rename_i x hx
      obtain ⟨q, p, rfl⟩ := asCall_eq hx
      obtain ⟨x1, es, ks⟩ := x
      simp only [Bool.and_eq_true, decide_eq_true_eq] at h
      obtain ⟨⟨⟨h1, h2⟩, h3⟩, h4⟩ := h
      obtain rfl := List.isEmpty_iff.mp h3
      subst h1
      split at h4
      · rename_i y
        split at h4
        · rename_i z hz
          obtain ⟨rfl, hl⟩ := asMeth_eq hz
          obtain ⟨z1, z2, z3, z4, z5⟩ := z
          simp only [Bool.and_eq_true, decide_eq_true_eq] at h4
          obtain ⟨⟨⟨c1, c2⟩, c3⟩, c4⟩ := h4
          obtain rfl := List.isEmpty_iff.mp c3
          subst c1
          unfold wM
          refine PEimp (pe_callB (cr_sortIt g.calm g.un) (g.gl h2) (g.bn _ sorted_nm) sorted_bt (pa_cons (pe_bm0 PySem.F.plainAttrs_dict PySem.F.slot_dict_items PySem.F.type_dict_items mt_itemsK (opX_ok (okM a g c4) (ck_var g c4)) (base_ok c2) hl) pa_nil (by rfl)) sorted_n1 sorted_n2 (by rfl) (by rfl)) fun σ H Q w => ?_
          have w2 := un_lift ul_sortIt w
          exact w2
        · cases h4
      · cases h4
    · cases h
  | .sst a, X, sc, raw, e, g, h => by
    unfold ckM at h
    split at h
    · rename_i x hx
      obtain ⟨q, p, rfl⟩ := asCall_eq hx
      obtain ⟨x1, es, ks⟩ := x
      simp only [Bool.and_eq_true, decide_eq_true_eq] at h
      obtain ⟨⟨⟨h1, h2⟩, h3⟩, h4⟩ := h
      obtain rfl := List.isEmpty_iff.mp h3
      subst h1
      split at h4
      · rename_i y
        split at h4
        · rename_i z hz
          obtain ⟨q2, p2, rfl⟩ := asCall_eq hz
          obtain ⟨z1, fs, ks2⟩ := z
          simp only [Bool.and_eq_true, decide_eq_true_eq] at h4
          obtain ⟨⟨⟨c1, c2⟩, c3⟩, c4⟩ := h4
          obtain rfl := List.isEmpty_iff.mp c3
          subst c1
          split at c4
          · rename_i w
            rw [Bool.and_eq_true] at c4
            unfold wM
            refine PEimp (pe_callB (cr_sortX g.calm g.un) (g.gl h2) (g.bn _ sorted_nm) sorted_bt (pa_cons (pe_callTy (cr_setXs g.calm) (g.gl c2) (g.bn _ set_nm) PyProof.Rows.boot_set (pa_cons (opX_ok (okM a g c4.1) (ck_var g c4.1)) pa_nil (star_of c4.2)) set_n1 set_n2 (star_of c4.2) (by rfl)) pa_nil (by rfl)) sorted_n1 sorted_n2 (by rfl) (by rfl)) fun σ H Q w => ?_
            exact un_lift (ul_sst X.w) w
          · cases c4
        · cases h4
      · cases h4
    · cases h
  | .upr a, X, sc, raw, e, g, h => by
    unfold ckM at h
    split at h
    · rename_i z hz
      obtain ⟨rfl, hl⟩ := asMeth_eq hz
      obtain ⟨z1, z2, z3, z4, z5⟩ := z
      simp only [Bool.and_eq_true, decide_eq_true_eq] at h
      obtain ⟨⟨⟨c1, c2⟩, c3⟩, c4⟩ := h
      obtain rfl := List.isEmpty_iff.mp c3
      subst c1
      unfold wM
      refine PEimp (pe_bm0 PySem.F.plainAttrs_str PySem.F.slot_str_upper PySem.F.type_str_upper mt_upper (opX_ok (okM a g c4) (ck_var g c4)) (base_ok c2) hl) fun σ H Q w => ?_
      exact un_lift ul_upr w
    · cases h
  | .lrep a b, X, sc, raw, e, g, h => by
    unfold ckM at h
    split at h
    · rename_i x hx
      obtain ⟨p, rfl⟩ := asBin_eq hx
      obtain ⟨x1, x2, x3⟩ := x
      simp only [Bool.and_eq_true, decide_eq_true_eq] at h
      obtain ⟨⟨h1, h2⟩, h3⟩ := h
      subst h1
      split at h2
      · rename_i es hes
        obtain ⟨q, rfl⟩ := asLst_eq hes
        unfold wM
        exact PEimp (pe_op op_rep (PEimp (pe_lst (okFs a g h2)) fun σ H Q w => lst_lift w) (opX_ok (okM b g h3) (ck_var g h3))) fun σ H Q w => lrep_lift w
      · cases h2
    · cases h
theorem okMl : ∀ (a : Ms) {X : Cx} {sc raw : Scope} {es : List Expr}, GoodX X B G sc raw → ckMs B a sc raw es = true → PEs X es ((wMl G a).map (liftE X.K X.mg))
  | .nil, X, sc, raw, es, g, h => by
    unfold ckMs at h
    cases es with
    | nil => unfold wMl; exact .nil
    | cons _ _ => cases h
  | .cons a r, X, sc, raw, es, g, h => by
    unfold ckMs at h
    cases es with
    | nil => cases h
    | cons e es =>
      simp only [Bool.and_eq_true] at h
      unfold wMl
      exact .cons (okM a g h.1.1) (okMl r g h.2)
theorem okMs : ∀ (a : Ms) {X : Cx} {sc raw : Scope} {es : List Expr}, GoodX X B G sc raw → ckMs B a sc raw es = true → PA X es (liftXs X.K X.mg (wXs G a))
  | .nil, X, sc, raw, es, g, h => by
    unfold ckMs at h
    rw [List.isEmpty_iff.mp h]
    unfold wXs
    exact pa_nilD
  | .cons a r, X, sc, raw, es, g, h => by
    unfold ckMs at h
    split at h
    · cases h
    · simp only [Bool.and_eq_true] at h
      unfold wXs
      exact pa_consD (opX_ok (okM a g h.1.1) (ck_var g h.1.1)) (okMs r g h.2) h.1.2
theorem okFs : ∀ (a : Ms) {X : Cx} {sc raw : Scope} {es : List Expr}, GoodX X B G sc raw → ckMs B a sc raw es = true → PA X es (liftXs X.K X.mg (wFs G a))
  | .nil, X, sc, raw, es, g, h => by
    unfold ckMs at h
    rw [List.isEmpty_iff.mp h]
    unfold wFs
    exact pa_nilD
  | .cons a r, X, sc, raw, es, g, h => by
    unfold ckMs at h
    split at h
    · cases h
    · simp only [Bool.and_eq_true] at h
      unfold wFs
      exact pa_consD (px_tm (okM a g h.1.1)) (okFs r g h.2) h.1.2
theorem okK : ∀ (a : Ms) {X : Cx} {sc raw : Scope} {es : List Keyword}, GoodX X B G sc raw → ckK B a sc raw es = true → PK X es (liftXs X.K X.mg (wFs G a))
  | .nil, X, sc, raw, es, g, h => by
    unfold ckK at h
    rw [List.isEmpty_iff.mp h]
    unfold wFs
    exact pk_nilD
  | .cons a r, X, sc, raw, es, g, h => by
    unfold ckK at h
    split at h
    · cases h
    · rename_i e es
      obtain ⟨nm, e, kp⟩ := e
      simp only [Bool.and_eq_true] at h
      unfold wFs
      exact pk_consD (px_tm (okM a g h.1)) (okK r g h.2)
theorem okBo : ∀ (a : Ms) (c : Bool) {X : Cx} {sc raw : Scope} {es : List Expr} {o : BoolOp} {p : Pos}, GoodX X B G sc raw → isAnd o = c → ckBo B a sc raw es = true → PE X (.BoolOp o es p) (liftE X.K X.mg (wBo G c a))
  | .nil, c, X, sc, raw, es, o, p, g, ho, h => by
    unfold ckBo at h; cases h
  | .cons a r, c, X, sc, raw, es, o, p, g, ho, h => by
    unfold ckBo at h
    split at h
    · cases h
    · rename_i e es
      split at h
      · simp only [Bool.and_eq_true] at h
        rw [List.isEmpty_iff.mp h.2]
        unfold wBo
        exact pe_one (okM a g h.1)
      · rename_i hr
        simp only [Bool.and_eq_true, Bool.not_eq_true'] at h
        have ha := okM a g h.1.1
        cases es with
        | nil => cases h.1.2
        | cons e2 es =>
          have hb := okBo (p := p) r c g ho h.2
          unfold wBo
          cases o with
          | And =>
            subst ho
            split
            · exact (hr rfl).elim
            · exact PEimp (pe_andT ha hb) fun σ H Q w => andV_lift w
          | Or =>
            subst ho
            split
            · exact (hr rfl).elim
            · exact PEimp (pe_orT ha hb) fun σ H Q w => orV_lift w
theorem okO : ∀ (a : Mo) {X : Cx} {sc raw : Scope} {e : Option Expr}, GoodX X B G sc raw → ckO B a sc raw e = true → PO X e (liftO X.K X.mg (wOo G a))
  | .no, X, sc, raw, e, g, h => by
    unfold ckO at h
    unfold wOo
    rw [Option.isNone_iff_eq_none.mp h]
    exact po_noneD
  | .so a, X, sc, raw, e, g, h => by
    unfold ckO at h
    unfold wOo
    split at h
    · exact po_someD (okM a g h)
    · cases h
theorem okA : ∀ (a : As) {X : Cx} {sc raw : Scope} {es : List Expr}, GoodX X B G sc raw → ckA B a sc raw es = true → PA X es (liftAs X.K X.mg (wAs G a))
  | .nil, X, sc, raw, es, g, h => by
    unfold ckA at h
    rw [List.isEmpty_iff.mp h]
    unfold wAs
    exact pas_nil
  | .lend i r, X, sc, raw, es, g, h => by
    unfold ckA at h
    split at h
    · cases h
    · simp only [Bool.and_eq_true] at h
      obtain ⟨h1, h2⟩ := h
      split at h1
      · rename_i x hx
        obtain ⟨p, rfl⟩ := asName_eq hx
        unfold wAs
        exact pas_cons (p1_ls (g.var (by simpa using h1))) (okA r g h2) rfl
      · cases h1
  | .mv i r, X, sc, raw, es, g, h => by
    unfold ckA at h
    split at h
    · cases h
    · simp only [Bool.and_eq_true] at h
      obtain ⟨h1, h2⟩ := h
      split at h1
      · rename_i x hx
        obtain ⟨p, rfl⟩ := asName_eq hx
        unfold wAs
        exact pas_cons (p1_mv (g.var (by simpa using h1))) (okA r g h2) rfl
      · cases h1
  | .own a r, X, sc, raw, es, g, h => by
    unfold ckA at h
    split at h
    · cases h
    · simp only [Bool.and_eq_true] at h
      unfold wAs
      exact pas_cons (p1_own (okM a g h.1.1)) (okA r g h.2) h.1.2
  | .fro a r, X, sc, raw, es, g, h => by
    unfold ckA at h
    split at h
    · cases h
    · simp only [Bool.and_eq_true] at h
      unfold wAs
      exact pas_cons (p1_fro (okM a g h.1.1)) (okA r g h.2) h.1.2
theorem okT : ∀ (a : T) {X : Cx} {sc raw : Scope} {e : Expr}, GoodX X B G sc raw → ckT B a sc raw e = true → PT X e (liftT X.K X.mg (wT G a))
  | .yes, X, sc, raw, e, g, h => by unfold ckT at h; cases h
  | .val a, X, sc, raw, e, g, h => by
    unfold ckT at h
    simp only [Bool.and_eq_true] at h
    unfold wT
    exact PTimp (pt_truth (opX_ok (okM a g h.1) (ck_var g h.1)) (plainT_ok h.2)) fun σ H Q w => tru_lift w
  | .gin k neg b, X, sc, raw, e, g, h => by
    unfold ckT at h
    split at h
    · rename_i x hx
      obtain ⟨p, rfl⟩ := asCmp_eq hx
      obtain ⟨x1, x2, x3⟩ := x
      simp only [Bool.and_eq_true, decide_eq_true_eq] at h
      obtain ⟨⟨h0, h4⟩, h5⟩ := h
      split at h5
      · rename_i d hd
        obtain ⟨q, rfl⟩ := asName_eq hd
        simp only [Bool.and_eq_true, decide_eq_true_eq] at h5
        obtain ⟨⟨h1, h2⟩, h3⟩ := h5
        unfold wT
        split
        · rename_i tab htab
          obtain ⟨a, hm, ht, es, n, kd, miss⟩ := g.dn k d tab h1 htab
          cases neg with
          | false =>
            subst h0
            exact PTimp (pt_cmpR (or_gin kd) (opX_ok (okM b g h4) (ck_var g h4)) (pe_glob (v := .ref a) (g.gl h2) hm rfl (plainN_ok h3).1) rfl) fun σ H Q w => gin_lift ht miss (tb_lift w)
          | true =>
            subst h0
            exact PTimp (pt_cmpR (or_gnot kd) (opX_ok (okM b g h4) (ck_var g h4)) (pe_glob (v := .ref a) (g.gl h2) hm rfl (plainN_ok h3).1) rfl) fun σ H Q w => gin_lift ht miss (tb_lift w)
        · exact ⟨fun pins s σ H Q I w => by obtain ⟨_, _, _, _, _, _, z, _⟩ := w; cases z⟩
      · cases h5
    · cases h
  | .cmp o a b, X, sc, raw, e, g, h => by
    unfold ckT at h
    split at h
    · rename_i x hx
      obtain ⟨p, rfl⟩ := asCmp_eq hx
      simp only [Bool.and_eq_true, decide_eq_true_eq] at h
      unfold wT
      rw [h.1.1.1]
      refine PTimp (pt_cmpR (co_ok g.un o).1 (opX_ok (okM a g h.1.1.2) (ck_var g h.1.1.2)) (opX_ok (okM b g h.1.2) (ck_var g h.1.2)) (noSet_beh h.2)) fun σ H Q w => ?_
      exact bin_lift (co_ok g.un o).2 (tb_lift w)
    · cases h
  | .chain o o' a b c, X, sc, raw, e, g, h => by
    unfold ckT at h
    split at h
    · rename_i x hx
      obtain ⟨p, rfl⟩ := asChain_eq hx
      simp only [Bool.and_eq_true, decide_eq_true_eq, Bool.not_eq_true'] at h
      obtain ⟨⟨⟨⟨⟨⟨h1, h2⟩, h3⟩, h4⟩, h5⟩, h6⟩, h7⟩ := h
      unfold wT
      rw [h1, h2]
      refine PTimp (pt_chain (co_ok g.un o).1 (co_ok g.un o').1 (opX_ok (okM a g h3) (ck_var g h3)) (opX_ok (okM b g h4) (ck_var g h4)) (opX_ok (okM c g h5) (ck_var g h5)) (noSet_beh h7)) fun σ H Q w => ?_
      exact chain_lift (co_ok g.un o).2 (co_ok g.un o').2 (tb_lift w)
    · cases h
  | .not t, X, sc, raw, e, g, h => by
    unfold ckT at h
    split at h
    · rename_i x hx
      obtain ⟨p, rfl⟩ := asUn_eq hx
      simp only [Bool.and_eq_true, decide_eq_true_eq, Bool.not_eq_true'] at h
      unfold wT
      rw [h.1]
      exact PTimp (pt_not (okT t g h.2)) fun σ H Q w => not_lift w
    · cases h
  | .bop c a, X, sc, raw, e, g, h => by
    unfold ckT at h
    split at h
    · rename_i x hx
      obtain ⟨p, rfl⟩ := asBool_eq hx
      obtain ⟨x1, es⟩ := x
      simp only [Bool.and_eq_true, decide_eq_true_eq, Bool.not_eq_true'] at h
      unfold wT
      exact (okTs a c g h.1 h.2).pt
    · cases h
theorem okTs : ∀ (a : Ts) (c : Bool) {X : Cx} {sc raw : Scope} {es : List Expr} {o : BoolOp} {p : Pos}, GoodX X B G sc raw → isAnd o = c → ckTs B a sc raw es = true → PW X (.BoolOp o es p) (liftT X.K X.mg (wTs G c a))
  | .nil, c, X, sc, raw, es, o, p, g, ho, h => by
    unfold ckTs at h; cases h
  | .cons a r, c, X, sc, raw, es, o, p, g, ho, h => by
    unfold ckTs at h
    split at h
    · cases h
    · rename_i e es
      split at h
      · simp only [Bool.and_eq_true] at h
        rw [List.isEmpty_iff.mp h.2]
        unfold wTs
        cases o with
        | And => exact pw_and1 (okT a g h.1)
        | Or => exact pw_or1 (okT a g h.1)
      · rename_i hr
        simp only [Bool.and_eq_true, Bool.not_eq_true'] at h
        have ha := okT a g h.1.1
        cases es with
        | nil => cases h.1.2
        | cons e2 es =>
          have hb := okTs (p := p) r c g ho h.2
          unfold wTs
          cases o with
          | And =>
            subst ho
            split
            · exact (hr rfl).elim
            · exact PWimp (pw_and ha hb) fun σ H Q w => and_lift w
          | Or =>
            subst ho
            split
            · exact (hr rfl).elim
            · exact PWimp (pw_or ha hb) fun σ H Q w => or_lift w
theorem okI : ∀ (a : I) {X : Cx} {sc raw : Scope} {tg e : Expr}, GoodX X B G sc raw → ckI B a sc raw tg e = true → PI X tg e (liftI X.K X.mg (wI G a))
  | .seq a, X, sc, raw, tg, e, g, h => by
    unfold ckI at h
    unfold wI
    exact PIimp (pi_seqA (okM a g h)) fun σ H R w => seqA_items w
  | .rng1 a, X, sc, raw, tg, e, g, h => by
    unfold ckI at h
    split at h
    · rename_i x hx
      obtain ⟨q, p, rfl⟩ := asCall_eq hx
      obtain ⟨x1, es, ks⟩ := x
      simp only [Bool.and_eq_true, decide_eq_true_eq, Bool.not_eq_true'] at h
      obtain ⟨⟨⟨h1, h2⟩, h3⟩, h4⟩ := h
      obtain rfl := List.isEmpty_iff.mp h3
      subst h1
      split at h4
      · rename_i y
        simp only [Bool.and_eq_true] at h4
        unfold wI
        exact PIimp (pi_range1 (g.gl h2) (g.bn _ range_nm) (pa_consD (px_tm (okM a g h4.1)) pa_nilD h4.2) (by rw [star_of h4.2]; rfl)) fun σ H R w => rng1_items w
      · cases h4
    · cases h
  | .rng2 a b, X, sc, raw, tg, e, g, h => by
    unfold ckI at h
    split at h
    · rename_i x hx
      obtain ⟨q, p, rfl⟩ := asCall_eq hx
      obtain ⟨x1, es, ks⟩ := x
      simp only [Bool.and_eq_true, decide_eq_true_eq, Bool.not_eq_true'] at h
      obtain ⟨⟨⟨h1, h2⟩, h3⟩, h4⟩ := h
      obtain rfl := List.isEmpty_iff.mp h3
      subst h1
      split at h4
      · rename_i y z
        simp only [Bool.and_eq_true] at h4
        obtain ⟨⟨⟨a1, a2⟩, a3⟩, a4⟩ := h4
        unfold wI
        exact PIimp (pi_range2 (g.gl h2) (g.bn _ range_nm) (pa_consD (px_tm (okM a g a1)) (pa_consD (px_tm (okM b g a3)) pa_nilD a4) a2) (by rw [star_of a2, star_of a4]; rfl) (by rw [star_of a4]; rfl)) fun σ H R w => rng2_items w
      · cases h4
    · cases h
  | .enu a, X, sc, raw, tg, e, g, h => by
    unfold ckI at h
    split at h
    · rename_i x hx
      obtain ⟨q, p, rfl⟩ := asCall_eq hx
      obtain ⟨x1, es, ks⟩ := x
      simp only [Bool.and_eq_true, decide_eq_true_eq, Bool.not_eq_true'] at h
      obtain ⟨⟨⟨⟨h1, h2⟩, h3⟩, h5⟩, h4⟩ := h
      obtain rfl := List.isEmpty_iff.mp h3
      obtain ⟨te, ht⟩ := Option.isSome_iff_exists.mp h5
      obtain ⟨kt, pt, rfl⟩ := asTup_eq ht
      subst h1
      split at h4
      · rename_i y
        simp only [Bool.and_eq_true] at h4
        unfold wI
        exact PIimp (pi_enumA (g.gl h2) (g.bn _ enum_nm) (pa_consD (px_tm (okM a g h4.1)) pa_nilD h4.2) (by rw [star_of h4.2]; rfl)) fun σ H R w => enumA_items w
      · cases h4
    · cases h
  | .zip a b, X, sc, raw, tg, e, g, h => by
    unfold ckI at h
    split at h
    · rename_i x hx
      obtain ⟨q, p, rfl⟩ := asCall_eq hx
      obtain ⟨x1, es, ks⟩ := x
      simp only [Bool.and_eq_true, decide_eq_true_eq, Bool.not_eq_true'] at h
      obtain ⟨⟨⟨⟨h1, h2⟩, h3⟩, h5⟩, h4⟩ := h
      obtain rfl := List.isEmpty_iff.mp h3
      obtain ⟨te, ht⟩ := Option.isSome_iff_exists.mp h5
      obtain ⟨kt, pt, rfl⟩ := asTup_eq ht
      subst h1
      split at h4
      · rename_i y z
        simp only [Bool.and_eq_true] at h4
        obtain ⟨⟨⟨a1, a2⟩, a3⟩, a4⟩ := h4
        unfold wI
        exact PIimp (RZ.pi_zipA (g.gl h2) (g.bn _ zip_nm) (pa_consD (px_tm (okM a g a1)) (pa_consD (px_tm (okM b g a3)) pa_nilD a4) a2) (star_of a2) (ns_any (by rw [List.all_cons, a4]; rfl))) fun σ H R w => zipA_items w
      · cases h4
    · cases h
  | .keys i, X, sc, raw, tg, e, g, h => by
    unfold ckI at h
    split at h
    · rename_i x hx
      obtain ⟨p, rfl⟩ := asName_eq hx
      unfold wI
      exact PIimp (pi_keysL (g.var (by simpa using h))) fun σ H R w => keys_items w
    · cases h
  | .zips a b, X, sc, raw, tg, e, g, h => by
    unfold ckI at h
    split at h
    · rename_i x hx
      obtain ⟨q, p, rfl⟩ := asCall_eq hx
      obtain ⟨x1, es, ks⟩ := x
      simp only [Bool.and_eq_true, decide_eq_true_eq] at h
      obtain ⟨⟨⟨⟨h1, h2⟩, h3⟩, h5⟩, h4⟩ := h
      obtain ⟨j, cp, kp, rfl⟩ := asStrict_eq h3
      obtain ⟨te, ht⟩ := Option.isSome_iff_exists.mp h5
      obtain ⟨kt, pt, rfl⟩ := asTup_eq ht
      subst h1
      split at h4
      · rename_i y z
        simp only [Bool.and_eq_true] at h4
        obtain ⟨⟨⟨a1, a2⟩, a3⟩, a4⟩ := h4
        unfold wI
        exact PIimp (pi_zipS (g.gl h2) (g.bn _ zip_nm) (pa_consD (px_tm (okM a g a1)) (pa_consD (px_tm (okM b g a3)) pa_nilD a4) a2) (star_of a2) (ns_any (by rw [List.all_cons, a4]; rfl))) fun σ H R w => zipS_items w
      · cases h4
    · cases h
  | .zip3 a b c, X, sc, raw, tg, e, g, h => by
    unfold ckI at h
    split at h
    · rename_i x hx
      obtain ⟨q, p, rfl⟩ := asCall_eq hx
      obtain ⟨x1, es, ks⟩ := x
      simp only [Bool.and_eq_true, decide_eq_true_eq, Bool.not_eq_true'] at h
      obtain ⟨⟨⟨⟨h1, h2⟩, h3⟩, h5⟩, h4⟩ := h
      obtain rfl := List.isEmpty_iff.mp h3
      obtain ⟨te, ht⟩ := Option.isSome_iff_exists.mp h5
      obtain ⟨kt, pt, rfl⟩ := asTup_eq ht
      subst h1
      split at h4
      · rename_i y z u
        simp only [Bool.and_eq_true] at h4
        obtain ⟨⟨⟨⟨⟨a1, a2⟩, a3⟩, a4⟩, a5⟩, a6⟩ := h4
        unfold wI
        exact PIimp (pi_zip3 (g.gl h2) (g.bn _ zip_nm) (pa_consD (px_tm (okM a g a1)) (pa_consD (px_tm (okM b g a3)) (pa_consD (px_tm (okM c g a5)) pa_nilD a6) a4) a2) (star_of a2) (ns_any (by rw [List.all_cons, a4, List.all_cons, a6]; rfl))) fun σ H R w => zip3_items w
      · cases h4
    · cases h
end
end
end TL

/-! T16: statements that have the shape keep what the shape wants -/
namespace TL
open PySem PySem.Spec PyProof.Rows L2

/-! ### the order of several stores makes no odds where the names are unlike -/
theorem setAll_snoc {α : Type} : ∀ {is : List Nat} {l xs : List α} {i : Nat} {x : α}, is.length = xs.length → setAll l (is ++ [i]) (xs ++ [x]) = (setAll l is xs).set i x
  | [], l, [], i, x, _ => rfl
  | j :: is, l, y :: xs, i, x, h => setAll_snoc (l := l.set j y) (by simpa using h)
theorem setAll_set {α : Type} : ∀ {is : List Nat} {l xs : List α} {i : Nat} {x : α}, i ∉ is → setAll (l.set i x) is xs = (setAll l is xs).set i x
  | [], l, xs, i, x, _ => by cases xs <;> rfl
  | j :: is, l, [], i, x, h => rfl
  | j :: is, l, y :: xs, i, x, h => by
    show setAll ((l.set i x).set j y) is xs = (setAll (l.set j y) is xs).set i x
    rw [List.set_comm _ _ (fun e => h (by rw [e]; exact List.mem_cons_self)), setAll_set fun z => h (List.mem_cons_of_mem _ z)]
theorem setAll_rev {α : Type} : ∀ {is : List Nat} {l xs : List α}, is.Nodup → is.length = xs.length → setAll l is.reverse xs.reverse = setAll l is xs
  | [], l, [], _, _ => rfl
  | j :: is, l, y :: xs, n, h => by
    have n' := List.nodup_cons.mp n
    rw [List.reverse_cons, List.reverse_cons, setAll_snoc (by simpa using h), setAll_rev n'.2 (by simpa using h)]
    exact (setAll_set n'.1).symm

/-! ### statements' checks -/
def noComp : Expr → Bool
  | .ListComp _ _ _ _ => false
  | .SetComp _ _ _ _ => false
  | .DictComp _ _ _ _ _ => false
  | _ => true
def stNames (sc : Scope) (line : Nat) (ts : List Expr) : List Str := ts.filterMap fun
  | .Name id pos => if sc.names.lookup id == some .local && pos.line == line then some id else none
  | _ => none
/-- no stores exchanged -/
def swNone (sc : Scope) (t e : Expr) : Bool := match t, e with
  | .Tuple ts _ _, .Tuple vs _ _ => !(ts.length == 2 || ts.length == 3) || vs.length != ts.length || ((stNames sc ((ts.head?.map (·.pos.line)).getD 0) ts).length != ts.length) || vs.all (foldedForSure 8)
  | .List _ _, .Tuple _ _ _ => false
  | _, _ => true
def swSome (sc : Scope) (t e : Expr) (ns : List Str) : Bool := match t, e with
  | .Tuple ts _ _, .Tuple vs _ _ => (match sc.kind with | .function => true | _ => false) && (ts.length == 2 || ts.length == 3) && vs.length == ts.length && vs.all noStar && decide (stNames sc ((ts.head?.map (·.pos.line)).getD 0) ts = ns) && ns.length == ts.length &&
    decide (ns.eraseDups.length = ns.length) && !vs.all (foldedForSure 8) && !vs.all (constantsAlone 8)
  | _, _ => false
def isStar : Expr → Bool
  | .Starred _ _ => true
  | _ => false
theorem star_not (x : Expr) : isStar x = !noStar x := by cases x <;> rfl
theorem sw_unf {env : Env} {ts vs : List Expr} {k k2 : Nat} {p p2 : Pos} : swappedStores [.Tuple ts k p] (.Tuple vs k2 p2) env =
    (if (!(ts.length == 2 || ts.length == 3) || vs.length != ts.length || env.blockKind != .function) = true then pure none
    else if vs.any isStar = true then pure none
    else if ((stNames env.scope ((ts.head?.map (·.pos.line)).getD 0) ts).length != ts.length || (stNames env.scope ((ts.head?.map (·.pos.line)).getD 0) ts).eraseDups.length != (stNames env.scope ((ts.head?.map (·.pos.line)).getD 0) ts).length) = true then pure none
    else if vs.all (foldedForSure 8) = true then pure none
    else if vs.all (constantsAlone 8) = true then (do unsupported "assign.tuple-of-constant-expressions:order-of-the-stores"; pure (some (stNames env.scope ((ts.head?.map (·.pos.line)).getD 0) ts)))
    else pure (some (stNames env.scope ((ts.head?.map (·.pos.line)).getD 0) ts))) := by
  rfl
theorem swNone_ok {X : Cx} {sc : Scope} {t e : Expr} (hs : X.env.scope = sc) (h : swNone sc t e = true) : swappedStores [t] e X.env = pure none := by
  unfold swNone at h
  split at h
  · rename_i ts k p vs k2 p2
    rw [sw_unf, hs]
    simp only [Bool.or_eq_true] at h
    by_cases c1 : (!(ts.length == 2 || ts.length == 3) || vs.length != ts.length || X.env.blockKind != .function) = true
    · rw [if_pos c1]
    · rw [if_neg c1]
      simp only [Bool.or_eq_true, not_or] at c1
      by_cases c2 : vs.any isStar = true
      · rw [if_pos c2]
      · rw [if_neg c2]
        rcases h with ((h | h) | h) | h
        · exact (c1.1.1 (by simpa using h)).elim
        · exact (c1.1.2 h).elim
        · rw [if_pos (by rw [Bool.or_eq_true]; exact .inl h)]
        · split
          · rfl
          · first | rfl | rw [if_pos h]
  · cases h
  · rename_i h1 h2
    cases t <;> cases e <;> first | rfl | exact (h1 _ _ _ _ _ _ rfl rfl).elim | exact (h2 _ _ _ _ _ rfl rfl).elim
theorem swSome_ok {X : Cx} {sc : Scope} {t e : Expr} {ns : List Str} (hs : X.env.scope = sc) (h : swSome sc t e ns = true) : ∃ ts k p vs k2 p2, t = .Tuple ts k p ∧ e = .Tuple vs k2 p2 ∧ swappedStores [t] e X.env = pure (some ns) := by
  unfold swSome at h
  split at h
  · rename_i ts k p vs k2 p2
    refine ⟨ts, k, p, vs, k2, p2, rfl, rfl, ?_⟩
    simp only [Bool.and_eq_true, decide_eq_true_eq, Bool.not_eq_true'] at h
    obtain ⟨⟨⟨⟨⟨⟨⟨⟨a1, a2⟩, a3⟩, a4⟩, a5⟩, a6⟩, a7⟩, a8⟩, a9⟩ := h
    have hk : sc.kind = .function := by
      split at a1
      · assumption
      · cases a1
    have hb : X.env.blockKind = .function := by unfold Env.blockKind; rw [hs, hk]; rfl
    have l1 : vs.length = ts.length := by simpa using a3
    have l2 : ns.length = ts.length := by simpa using a6
    have hst : vs.any isStar = false := by
      rw [List.any_eq_false]
      intro x hx
      have h1 := List.all_eq_true.mp a4 x hx
      rw [star_not, h1]; decide
    rw [sw_unf, hs, a5, if_neg (by rw [a2, hb, l1]; simp), if_neg (by rw [hst]; decide), if_neg (by rw [a7, l2]; simp), if_neg (by rw [a8]; decide), if_neg (by rw [a9]; decide)]
  · cases h
/-- the value isn't a comprehension that stores by itself -/
def swF (sc : Scope) (t e : Expr) : Bool := match e with
  | .ListComp _ _ s p => (match t with
    | .Name y q => !(sc.names.lookup y == some .local) || !(q.line == p.line) || (s.names.any fun (n, k) => n == y && (k == .local || k == .cell))
    | _ => true)
  | .SetComp _ _ _ _ => false
  | .DictComp _ _ _ _ _ => false
  | _ => true
theorem swF_ok {X : Cx} {sc : Scope} {t e : Expr} {l : Nat} (hs : X.env.scope = sc) (h : swF sc t e = true) : swapsWith e (some t) l X.env = pure false := by
  unfold swF at h
  split at h
  · rename_i el gs s p
    split at h
    · rename_i y q
      unfold swapsWith
      show (pure (X.env.blockKind == .function && X.env.kindOf y == some .local && q.line == p.line && !(s.names.any fun (n, k) => n == y && (k == .local || k == .cell))) : Sem Bool) = pure false
      have ky : X.env.kindOf y = sc.names.lookup y := by rw [← hs]; rfl
      rw [ky]
      congr 1
      simp only [Bool.or_eq_true, Bool.not_eq_true'] at h
      rcases h with (h | h) | h
      · rw [h]; simp
      · rw [h]; simp
      · rw [h]; simp
    · rename_i hn
      cases t <;> first | rfl | exact (hn _ _ rfl).elim
  · cases h
  · cases h
  · rename_i h1 h2 h3
    cases e <;> first | rfl | exact (h1 _ _ _ _ rfl).elim | exact (h2 _ _ _ _ rfl).elim | exact (h3 _ _ _ _ _ rfl).elim
theorem noComp_ok {X : Cx} {e : Expr} {l : Nat} (h : noComp e = true) : swapsWith e none l X.env = pure false := by
  cases e <;> first | rfl | cases h
def asAsg : Stmt → Option (Expr × Expr × Pos)
  | .Assign [t] e p => some (t, e, p)
  | _ => none
theorem asAsg_eq {s : Stmt} {x} (h : asAsg s = some x) : s = .Assign [x.1] x.2.1 x.2.2 := by
  unfold asAsg at h
  split at h <;> first | (cases h; rfl) | cases h
def asAug : Stmt → Option (Str × Operator × Expr)
  | .AugAssign (.Name x _) o e _ => some (x, o, e)
  | _ => none
theorem asAug_eq {s : Stmt} {x} (h : asAug s = some x) : ∃ q p, s = .AugAssign (.Name x.1 q) x.2.1 x.2.2 p := by
  unfold asAug at h
  split at h <;> first | (cases h; exact ⟨_, _, rfl⟩) | cases h
def asExp : Stmt → Option Expr
  | .Expr e _ => some e
  | _ => none
theorem asExp_eq {s : Stmt} {x} (h : asExp s = some x) : ∃ p, s = .Expr x p := by
  unfold asExp at h
  split at h <;> first | (cases h; exact ⟨_, rfl⟩) | cases h
def asApp : Expr → Option (Str × Expr × Pos × Pos)
  | .Call (.Attribute (.Name x _) n ap) [e] [] cp => if n == "append" && ap.endLine == cp.line then some (x, e, ap, cp) else none
  | _ => none
theorem asApp_eq {e : Expr} {x} (h : asApp e = some x) : ∃ q, e = .Call (.Attribute (.Name x.1 q) "append" x.2.2.1) [x.2.1] [] x.2.2.2 ∧ (x.2.2.1.endLine == x.2.2.2.line) = true := by
  unfold asApp at h
  split at h
  · split at h
    · rename_i c
      simp only [Bool.and_eq_true, beq_iff_eq] at c
      cases h
      obtain ⟨rfl, c2⟩ := c
      exact ⟨_, rfl, by simpa using c2⟩
    · cases h
  · cases h
def asIfS : Stmt → Option (Expr × List Stmt × List Stmt)
  | .If c a b _ => some (c, a, b)
  | _ => none
theorem asIfS_eq {s : Stmt} {x} (h : asIfS s = some x) : ∃ p, s = .If x.1 x.2.1 x.2.2 p := by
  unfold asIfS at h
  split at h <;> first | (cases h; exact ⟨_, rfl⟩) | cases h
def asFor : Stmt → Option (Expr × Expr × List Stmt)
  | .For t i b [] _ => some (t, i, b)
  | _ => none
theorem asFor_eq {s : Stmt} {x} (h : asFor s = some x) : ∃ p, s = .For x.1 x.2.1 x.2.2 [] p := by
  unfold asFor at h
  split at h <;> first | (cases h; exact ⟨_, rfl⟩) | cases h
def asRet : Stmt → Option (Option Expr)
  | .Return e _ => some e
  | _ => none
theorem asRet_eq {s : Stmt} {x} (h : asRet s = some x) : ∃ p, s = .Return x p := by
  unfold asRet at h
  split at h <;> first | (cases h; exact ⟨_, rfl⟩) | cases h
def isBrk : Stmt → Bool
  | .Break _ => true
  | _ => false
def isCont : Stmt → Bool
  | .Continue _ => true
  | _ => false
def isPass : Stmt → Bool
  | .Pass _ => true
  | _ => false
theorem isBrk_eq {s : Stmt} (h : isBrk s = true) : ∃ p, s = .Break p := by
  unfold isBrk at h
  split at h <;> first | exact ⟨_, rfl⟩ | cases h
theorem isCont_eq {s : Stmt} (h : isCont s = true) : ∃ p, s = .Continue p := by
  unfold isCont at h
  split at h <;> first | exact ⟨_, rfl⟩ | cases h
theorem isPass_eq {s : Stmt} (h : isPass s = true) : ∃ p, s = .Pass p := by
  unfold isPass at h
  split at h <;> first | exact ⟨_, rfl⟩ | cases h
/-- name = [..] on one line -/
def lcSw (sc : Scope) (t e : Expr) : Bool := match t, e with
  | .Name y py, .ListComp _ _ s p => (match sc.kind with | .function => true | _ => false) && (sc.names.lookup y == some .local) && (py.line == p.line) && !(s.names.any fun (n, k) => n == y && (k == .local || k == .cell))
  | _, _ => false
def ckL (B : Tb) (lent : List Nat) (i : Nat) (e : Expr) (sc raw : Scope) : Bool := match asName e with
  | some x => decide (B.N[i]? = some x) && storeC sc raw x && plainN x && !(decide (i ∈ lent))
  | none => false
def ckNs (B : Tb) (lent : List Nat) : List Nat → Scope → Scope → List Expr → Bool
  | [], _, _, es => es.isEmpty
  | i :: is, sc, raw, es => match es with
    | [] => false
    | e :: es => ckL B lent i e sc raw && ckNs B lent is sc raw es
mutual
def ckS (B : Tb) (lent : List Nat) : S → Scope → Scope → Stmt → Bool
  | .asg gt m, sc, raw, s => match asAsg s with
    | some x => ckG B (fun i => !decide (i ∈ lent)) gt sc raw x.1 && ckM B m sc raw x.2.1 && ((swF sc x.1 x.2.1 && swNone sc x.1 x.2.1) || lcSw sc x.1 x.2.1) && noStar x.1
    | none => false
  | .par is a, sc, raw, s => match asAsg s with
    | some x => match asTup x.2.1 with
      | some es => ckA B a sc raw es && decide (is.Nodup) && decide (is.length ≤ 16777216) && (is.all fun i => !decide (i ∈ lent)) && (is.all fun i => match B.N[i]? with | some y => (match sc.names.lookup y with | some .local => true | _ => false) | none => false) &&
        swSome sc x.1 x.2.1 (is.map fun i => (B.N[i]?).getD "")
      | none => false
    | none => false
  | .parT is a, sc, raw, s => match asAsg s with
    | some x => match asTup x.1, asTup x.2.1 with
      | some ts, some es => ckA B a sc raw es && ckNs B lent is sc raw ts && decide (is.length ≤ 16777216) && swNone sc x.1 x.2.1 && swF sc x.1 x.2.1 && noStar x.1
      | _, _ => false
    | none => false
  | .setI i ix m, sc, raw, s => match asAsg s with
    | some x => match asSub x.1 with
      | some y => (match asName y.1 with | some z => decide (B.N[i]? = some z) && visC sc z && plainN z | none => false) && ckM B ix sc raw y.2 && noSlice y.2 && ckM B m sc raw x.2.1 && swF sc x.1 x.2.1
      | none => false
    | none => false
  | .aug i o m, sc, raw, s => match asAug s with
    | some x => decide (B.N[i]? = some x.1) && storeC sc raw x.1 && decide (x.2.1 = o.op) && augOp o && ckM B m sc raw x.2.2 && !(decide (i ∈ lent))
    | none => false
  | .app i m, sc, raw, s => match asExp s with
    | some e => match asApp e with
      | some x => decide (B.N[i]? = some x.1) && visC sc x.1 && plainN x.1 && ckM B m sc raw x.2.1 && noStar x.2.1
      | none => false
    | none => false
  | .exp m, sc, raw, s => match asExp s with | some e => ckM B m sc raw e && noComp e | none => false
  | .iff c a b, sc, raw, s => match asIfS s with | some x => ckT B c sc raw x.1 && ckSs B lent a sc raw x.2.1 && ckSs B lent b sc raw x.2.2 | none => false
  | .loop it gt b, sc, raw, s => match asFor s with | some x => ckI B it sc raw x.1 x.2.1 && noSet x.2.1 && ckG B (fun i => !decide (i ∈ lent)) gt sc raw x.1 && ckSs B lent b sc raw x.2.2 | none => false
  | .ret m, sc, raw, s => match asRet s with | some (some e) => ckM B m sc raw e | _ => false
  | .retv i, sc, raw, s => match asRet s with
    | some (some e) => match asName e with | some z => decide (B.N[i]? = some z) && visC sc z && plainN z | none => false
    | _ => false
  | .retn, _, _, s => match asRet s with | some none => true | _ => false
  | .brk, _, _, s => isBrk s
  | .cont, _, _, s => isCont s
  | .pass, _, _, s => isPass s
  | .nev, _, _, s => true
def ckSs (B : Tb) (lent : List Nat) : Ss → Scope → Scope → List Stmt → Bool
  | .nil, _, _, ss => ss.isEmpty
  | .cons a r, sc, raw, ss => match ss with
    | [] => false
    | s :: ss => ckS B lent a sc raw s && ckSs B lent r sc raw ss
end
end TL

/-! T17: statements that have the shape keep what the shape wants -/
namespace TL
open PySem PySem.Spec PyProof.Rows L2
section
variable {B : Tb} {G : Gm} {lent : List Nat}
theorem bl_addI {K : PySem.W.Frag} {mg : Str → Option Value} : BinL K mg (rI0 fun i j => .int (i + j)) sAddI := by
  intro hot H x y dx dy P Q hh rx ry q k
  match dx, dy, q with
  | .int i, .int j, q =>
    obtain rfl := rx.int
    obtain rfl := ry.int
    exact ⟨i, j, rfl, rfl, post_fz hh k (.int _) q⟩
theorem aug_ok {X : Cx} (o : BO) (h : augOp o = true) : OpR X (inplaceOp o.op) (o.ra X.K) ∧ BinL X.K X.mg (o.ra X.K) o.sa := by
  cases o
  · exact ⟨iop_add, bl_addI⟩
  · exact ⟨iop_sub, bl_sub⟩
  · exact ⟨iop_mul, bl_mul⟩
  · exact ⟨iop_fdivW, bl_divA⟩
  · exact ⟨iop_mod, bl_mod⟩
  · cases h
theorem get_map {is : List Nat} {α : Type} {f : Nat → α} {j : Nat} (h' : j < (is.map f).length) : (is.map f)[j] = f (is[j]'(by simpa using h')) := List.getElem_map ..
theorem vlsN {vs : List V} {os : List AO} {σ : L2.St} (h : AOsAt σ vs os) : vs.length = os.length := cellsA_len h
theorem setI_as {X : Cx} {o i : Expr} {pos : Pos} (h : noSlice i = true) : ∀ v, assign (.Subscript o i pos) X.env v = (do
      let ov ← holding [v] (eval o X.env)
      let iv ← holding [v, ov] (eval i X.env)
      standAt pos
      holding [v, ov, iv] (setItem ov iv v)
      release [v, ov, iv] []) := fun v => by cases i <;> first | rfl | cases h
theorem single_as {X : Cx} {t : Expr} (h : noStar t = true) : (assignEach [t] X.env).map (·.2) = [assign t X.env] := by rw [assign_of h]; rfl
theorem okNs {X : Cx} {sc raw : Scope} (g : GoodX X B G sc raw) : ∀ {is : List Nat} {es : List Expr}, ckNs B lent is sc raw es = true → PGs X es (gNames is) ∧ es.all noStar = true ∧ es.length = is.length ∧ ∀ i ∈ is, i ∉ lent
  | [], es, h => by
    unfold ckNs at h
    rw [List.isEmpty_iff.mp h]
    exact ⟨pgs_nil, rfl, rfl, fun _ z => nomatch z⟩
  | i :: is, [], h => by cases h
  | i :: is, e :: es, h => by
    unfold ckNs at h
    rw [Bool.and_eq_true] at h
    obtain ⟨h1, h2⟩ := h
    obtain ⟨a, b, c, d⟩ := okNs g h2
    unfold ckL at h1
    split at h1
    · rename_i x hx
      obtain ⟨p, rfl⟩ := asName_eq hx
      simp only [Bool.and_eq_true, decide_eq_true_eq, Bool.not_eq_true', decide_eq_false_iff_not] at h1
      obtain ⟨⟨⟨c1, c2⟩, c3⟩, c4⟩ := h1
      obtain ⟨s1, s2⟩ := storeC_ok c2
      refine ⟨pgs_cons (pg_name g.nd (by rw [g.N]; exact c1) (by rw [g.sc]; exact s1) (by rw [g.sc]; exact s2.imp (g.raw x) id)) a (by rw [assign_of (show noStar (Expr.Name x p) = true from rfl)]; rfl), by rw [List.all_cons, b]; rfl, by rw [List.length_cons, c]; rfl, fun j hj => ?_⟩
      rcases List.mem_cons.mp hj with rfl | hj
      · exact c4
      · exact d j hj
    · cases h1
mutual
theorem okS : ∀ (a : S) {X : Cx} {sc raw : Scope} {s : Stmt}, GoodX X B G sc raw → ckS B lent a sc raw s = true → PS X s (liftS X.K X.mg lent (wS G a))
  | .asg gt m, X, sc, raw, s, g, h => by
    unfold ckS at h
    split at h
    · rename_i x hx
      obtain rfl := asAsg_eq hx
      obtain ⟨t, e, p⟩ := x
      simp only [Bool.and_eq_true] at h
      obtain ⟨⟨⟨h1, h2⟩, h3⟩, h4⟩ := h
      have hg := okG (lent := lent) (fun i hi => by simpa using hi) gt g h1
      have he := okM m g h2
      rw [Bool.or_eq_true] at h3
      unfold wS
      rcases h3 with h3 | h3
      · rw [Bool.and_eq_true] at h3
        exact PSimp (ps_asg he hg (swF_ok g.sc h3.1) (swNone_ok g.sc h3.2) (single_as h4)) fun D σ H w => asg_lift w
      · unfold lcSw at h3
        split at h3
        · rename_i t e y py el gs s2 p2
          cases m with
          | lc own it gt2 c m =>
            unfold ckM at h2
            split at h2
            · rename_i x hx
              obtain ⟨p3, e3⟩ := asLc_eq hx
              cases e3
              simp only [Bool.and_eq_true] at h2
              obtain ⟨⟨⟨⟨⟨h1', h2⟩, h3'⟩, h4⟩, h5⟩, h6⟩ := h2
              simp only [Bool.and_eq_true, Bool.not_eq_true', beq_iff_eq] at h3
              obtain ⟨⟨⟨k1, k2⟩, k3⟩, k4⟩ := h3
              have hk : X.env.scope.kind = .function := by
                rw [g.sc]
                split at k1
                · assumption
                · cases k1
              cases gt with
              | tup r => unfold ckG at h1; cases h1
              | ix a b => unfold ckG at h1; cases h1
              | name i =>
                unfold ckG at h1
                simp only [asName, Bool.and_eq_true, decide_eq_true_eq] at h1
                refine ⟨fun pins s σ H D I w => ?_⟩
                refine (ps_setLc (g := liftG X.K X.mg (lentC X.N.length (own.map (·.2))) (gW gt2)) (tt := liftT X.K X.mg (wT G c)) (te := liftE X.K X.mg (wM G m)) g.calm g.nd (by rw [g.N]; exact h1.1.1) (by rw [g.sc]; exact k2)
                  (sw_true hk (by rw [g.sc]; exact k2) (by simpa using k3) k4) (okI it g h2) (by rw [g.N, g.sc]; exact blkOk_by h1') ?_ ?_ ?_ (noSet_it h3')).run pins s σ H D I ?_
                · intro s H C cl fp
                  exact okG (fun i hi => not_lentC (by simpa using hi)) gt2 (g.blk s H x.scope cl C fp) h4
                · intro s H C cl fp
                  have gb := g.blk s H x.scope cl C fp
                  split at h5
                  · rename_i e1
                    rw [e1]
                    split at h5
                    · unfold wT
                      exact ⟨fun pins s σ H Q I w => pts_nil.run pins s σ H Q I (yes_lift w)⟩
                    · cases h5
                  · rename_i i e1
                    rw [e1]
                    exact pts_one (okT c gb h5)
                  · cases h5
                · intro s H C cl fp
                  exact okM m (g.blk s H x.scope cl C fp) h6
                · have w2 : tAsg (liftE X.K X.mg (wM G (M.lc own it gt2 c m))) (liftG X.K X.mg lent (gW (.name i))) D σ H := asg_lift w
                  have e9 : gW (.name i) = gwName i := by unfold gW; rfl
                  rw [e9] at w2
                  unfold wM at w2
                  have hgn : ∀ v H1, liftG X.K X.mg lent (gwName i) v σ H1 D.nx → gName i v σ H1 D.nx := fun v H1 z => gname_lift (by simpa using h1.2) z
                  obtain ⟨oh, τ, env, P, e0, S, t1, k⟩ := w2
                  have w4 := lc_lift (Q := fun x H1 => gName i x σ H1 D.nx) ⟨oh, τ, env, P, e0, S, t1, fun v o env' H' a1 a2 a3 a4 => hgn v H' (k v o env' H' a1 a2 a3 a4)⟩
                  rw [I.len] at w4
                  exact w4
            · cases h2
          | lc2 own it gt2 c vs1 it1 g1 c1 m =>
            unfold ckM at h2
            split at h2
            · rename_i x hx
              obtain ⟨p3, e3⟩ := asLc2_eq hx
              cases e3
              simp only [Bool.and_eq_true] at h2
              obtain ⟨⟨⟨⟨⟨⟨h1', h2⟩, h3'⟩, h4⟩, h5⟩, h6⟩, ⟨⟨⟨j1, j2⟩, j3⟩, j4⟩, j5⟩ := h2
              have hv : ∀ i ∈ vs1, i ∈ own.map (·.2) := fun i hi => of_decide_eq_true (List.all_eq_true.mp j5 i hi)
              simp only [Bool.and_eq_true, Bool.not_eq_true', beq_iff_eq] at h3
              obtain ⟨⟨⟨k1, k2⟩, k3⟩, k4⟩ := h3
              have hk : X.env.scope.kind = .function := by
                rw [g.sc]
                split at k1
                · assumption
                · cases k1
              cases gt with
              | tup r => unfold ckG at h1; cases h1
              | ix a b => unfold ckG at h1; cases h1
              | name i =>
                unfold ckG at h1
                simp only [asName, Bool.and_eq_true, decide_eq_true_eq] at h1
                refine ⟨fun pins s σ H D I w => ?_⟩
                refine (ps_setLc2 (wi1 := liftI X.K X.mg (wI G it1)) (g := liftG X.K X.mg (lentC X.N.length (own.map (·.2))) (gW gt2)) (tt := liftT X.K X.mg (wT G c)) (te := liftE X.K X.mg (wM G m)) (g1 := liftG X.K X.mg (lentC X.N.length vs1) (gW g1)) (tt1 := liftT X.K X.mg (wT G c1)) (vs1 := vs1) g.calm g.nd (by rw [g.N]; exact h1.1.1) (by rw [g.sc]; exact k2)
                  (sw_true hk (by rw [g.sc]; exact k2) (by simpa using k3) k4) (okI it g h2) (by rw [g.N, g.sc]; exact blkOk_by h1') hv ?_ ?_ ?_ ?_ ?_ ?_ (noSet_it h3') (fun env => noSet_it j2)).run pins s σ H D I ?_
                · intro s H C cl fp
                  exact okG (fun i hi => not_lentC (by simpa using hi)) gt2 (g.blk s H x.scope cl C fp) h4
                · intro s H C cl fp
                  have gb := g.blk s H x.scope cl C fp
                  split at h5
                  · rename_i e1
                    rw [e1]
                    split at h5
                    · unfold wT
                      exact ⟨fun pins s σ H Q I w => pts_nil.run pins s σ H Q I (yes_lift w)⟩
                    · cases h5
                  · rename_i i e1
                    rw [e1]
                    exact pts_one (okT c gb h5)
                  · cases h5
                · intro s H C cl fp
                  exact okI it1 (g.blk s H x.scope cl C fp) j1
                · intro s H C cl fp
                  exact okG (fun i hi => not_lentC (by simpa using hi)) g1 (g.blk s H x.scope cl C fp) j3
                · intro s H C cl fp
                  have gb := g.blk s H x.scope cl C fp
                  split at j4
                  · rename_i e1
                    rw [e1]
                    split at j4
                    · unfold wT
                      exact ⟨fun pins s σ H Q I w => pts_nil.run pins s σ H Q I (yes_lift w)⟩
                    · cases j4
                  · rename_i i e1
                    rw [e1]
                    exact pts_one (okT c1 gb j4)
                  · cases j4
                · intro s H C cl fp
                  exact okM m (g.blk s H x.scope cl C fp) h6
                · have w2 : tAsg (liftE X.K X.mg (wM G (M.lc2 own it gt2 c vs1 it1 g1 c1 m))) (liftG X.K X.mg lent (gW (.name i))) D σ H := asg_lift w
                  have e9 : gW (.name i) = gwName i := by unfold gW; rfl
                  rw [e9] at w2
                  unfold wM at w2
                  have hgn : ∀ v H1, liftG X.K X.mg lent (gwName i) v σ H1 D.nx → gName i v σ H1 D.nx := fun v H1 z => gname_lift (by simpa using h1.2) z
                  obtain ⟨oh, τ, env, P, e0, S, t1, k⟩ := w2
                  have w4 := lc2_lift hv (Q := fun x H1 => gName i x σ H1 D.nx) ⟨oh, τ, env, P, e0, S, t1, fun v o env' H' a1 a2 a3 a4 => hgn v H' (k v o env' H' a1 a2 a3 a4)⟩
                  rw [I.len] at w4
                  exact w4
            · cases h2
          | _ => first
            | (unfold ckM at h2; cases h2; done)
            | (unfold ckM at h2; simp [asCst, asName, asTup, asLst, asBin, asCmp, asUn, asSub, asCall, asBool, asIf, asChain, asRev, asLrg, isDnew, asGet1, asGet2, asMeth, asDict] at h2)
        · cases h3
    · cases h
  | .par is a, X, sc, raw, s, g, h => by
    unfold ckS at h
    split at h
    · rename_i x hx
      obtain rfl := asAsg_eq hx
      obtain ⟨t, e, p⟩ := x
      split at h
      · rename_i es hes
        simp only [Bool.and_eq_true, decide_eq_true_eq, List.all_eq_true] at h
        obtain ⟨⟨⟨⟨⟨h1, h2⟩, h3⟩, h4⟩, h5⟩, h6⟩ := h
        obtain ⟨ts, k, p1, vs, k2, p2, rfl, rfl, hw⟩ := swSome_ok g.sc h6
        cases hes
        unfold wS
        refine PSimp (ps_parR (is := is) g.calm g.nd (by simp) (fun j hj hj' => ?_) (okA a g h1) hw h3) fun Y σ H w => ?_
        · have q := h5 is[j] (List.getElem_mem hj)
          rw [get_map hj']
          split at q
          · rename_i y hy
            refine ⟨by rw [g.N, hy]; rfl, ?_⟩
            rw [hy, g.sc]
            split at q
            · rename_i e; exact e
            · cases q
          · cases q
        · have w2 := par_lift (fun i hi => by simpa using h4 i hi) w
          obtain ⟨oh, τ, env, P, e0, S, t, kk⟩ := w2
          refine ⟨oh, τ, env, P, e0, S, t, fun vs os env' H' a1 a2 a3 a4 a5 => ?_⟩
          obtain ⟨q1, q2⟩ := kk vs os env' H' a1 a2 a3 a4 a5
          refine ⟨q1, ?_⟩
          rw [List.map_reverse, setAll_rev h2 (by rw [List.length_map]; exact q1.symm)]
          exact q2
      · cases h
    · cases h
  | .parT is a, X, sc, raw, s, g, h => by
    unfold ckS at h
    split at h
    · rename_i x hx
      obtain rfl := asAsg_eq hx
      obtain ⟨t, e, p⟩ := x
      split at h
      · rename_i ts es hts hes
        obtain ⟨k1, p1, rfl⟩ := asTup_eq hts
        obtain ⟨k2, p2, rfl⟩ := asTup_eq hes
        simp only [Bool.and_eq_true, decide_eq_true_eq] at h
        obtain ⟨⟨⟨⟨⟨h1, h2⟩, h3⟩, h4⟩, h5⟩, h6⟩ := h
        obtain ⟨n1, n2, n3, n4⟩ := okNs g h2
        obtain ⟨f1, f2⟩ := noStars_find (env := X.env) n2
        unfold wS
        refine PSimp (ps_asg (pe_tupT (okA a g h1)) (pg_tup g.calm n1 f2 f1) (swF_ok (l := p.line) g.sc h5) (swNone_ok g.sc h4) (single_as h6)) fun D σ H w => ?_
        rw [n3]
        exact parT_lift n4 h3 w
      · cases h
    · cases h
  | .setI i ix m, X, sc, raw, s, g, h => by
    unfold ckS at h
    split at h
    · rename_i x hx
      obtain rfl := asAsg_eq hx
      obtain ⟨t, e, p⟩ := x
      split at h
      · rename_i y hy
        obtain ⟨q, rfl⟩ := asSub_eq hy
        obtain ⟨y1, y2⟩ := y
        simp only [Bool.and_eq_true] at h
        obtain ⟨⟨⟨⟨h1, h2⟩, h3⟩, h4⟩, h5⟩ := h
        split at h1
        · rename_i z hz
          obtain ⟨q2, rfl⟩ := asName_eq hz
          unfold wS
          refine PSimp (ps_asg (okM m g h4) (pg_sub (g.var (by simpa using h1)) (okM ix g h2) (set_any (by have := g.un; omega)) (setI_as h3)) (swF_ok (l := p.line) g.sc h5) (by cases e <;> rfl) (by rfl)) fun D σ H w => setA_lift w
        · cases h1
      · cases h
    · cases h
  | .aug i o m, X, sc, raw, s, g, h => by
    unfold ckS at h
    split at h
    · rename_i x hx
      obtain ⟨q, p, rfl⟩ := asAug_eq hx
      simp only [Bool.and_eq_true, decide_eq_true_eq, Bool.not_eq_true', decide_eq_false_iff_not] at h
      obtain ⟨⟨⟨⟨⟨h1, h2⟩, h3⟩, h4⟩, h5⟩, h6⟩ := h
      obtain ⟨a, b⟩ := storeC_ok h2
      obtain ⟨o1, o2⟩ := aug_ok (X := X) o h4
      unfold wS
      rw [h3]
      exact PSimp (ps_aug g.nd (by rw [g.N]; exact h1) (by rw [g.sc]; exact a) (okM m g h5) o1 (by rw [g.sc]; exact b.imp (g.raw _) id)) fun D σ H w => aug_lift h6 o2 w
    · cases h
  | .app i m, X, sc, raw, s, g, h => by
    unfold ckS at h
    split at h
    · rename_i e he
      obtain ⟨p, rfl⟩ := asExp_eq he
      split at h
      · rename_i x hx
        obtain ⟨q, rfl, hl⟩ := asApp_eq hx
        simp only [Bool.and_eq_true] at h
        obtain ⟨⟨⟨⟨h1, h2⟩, h3⟩, h4⟩, h5⟩ := h
        unfold wS
        have hs := star_of (es := []) (env := X.env) h5
        refine PSimp (ps_expr (pe_bm PySem.F.plainAttrs_list PySem.F.slot_list_append PySem.F.type_list_append mt_append (g.var (by rw [h1, h2, h3]; rfl)) (pa_cons (okM m g h4) pa_nil hs) (by rfl) ?_ hl hs (by rfl)) (by rfl)) fun D σ H w => app_lift w
        rw [hs]; rfl
      · cases h
    · cases h
  | .exp m, X, sc, raw, s, g, h => by
    unfold ckS at h
    split at h
    · rename_i e he
      obtain ⟨p, rfl⟩ := asExp_eq he
      simp only [Bool.and_eq_true] at h
      unfold wS
      exact PSimp (ps_expr (okM m g h.1) (noComp_ok h.2)) fun D σ H w => exp_lift w
    · cases h
  | .iff c a b, X, sc, raw, s, g, h => by
    unfold ckS at h
    split at h
    · rename_i x hx
      obtain ⟨p, rfl⟩ := asIfS_eq hx
      simp only [Bool.and_eq_true] at h
      unfold wS
      exact PSimp (ps_if (okT c g h.1.1) (okSs a g h.1.2) (okSs b g h.2)) fun D σ H w => ifS_lift w
    · cases h
  | .loop it gt b, X, sc, raw, s, g, h => by
    unfold ckS at h
    split at h
    · rename_i x hx
      obtain ⟨p, rfl⟩ := asFor_eq hx
      simp only [Bool.and_eq_true] at h
      obtain ⟨⟨⟨h1, h2⟩, h3⟩, h4⟩ := h
      unfold wS
      refine PSimp (ps_for (by rw [g.xe]; exact PassesOwn.never) g.calm (okI it g h1) (okG (lent := lent) (fun i hi => by simpa using hi) gt g h3) (okSs b g h4) (noSet_it h2)) fun D σ H w => for_lift w
    · cases h
  | .ret m, X, sc, raw, s, g, h => by
    unfold ckS at h
    split at h
    · rename_i e he
      obtain ⟨p, rfl⟩ := asRet_eq he
      unfold wS
      exact PSimp (ps_ret (okM m g h)) fun D σ H w => ret_lift w
    · cases h
  | .retv i, X, sc, raw, s, g, h => by
    unfold ckS at h
    split at h
    · rename_i e he
      obtain ⟨p, rfl⟩ := asRet_eq he
      split at h
      · rename_i z hz
        obtain ⟨q, rfl⟩ := asName_eq hz
        unfold wS
        exact PSimp (ps_ret (g.var h)) fun D σ H w => retV_lift w
      · cases h
    · cases h
  | .retn, X, sc, raw, s, g, h => by
    unfold ckS at h
    split at h
    · rename_i he
      obtain ⟨p, rfl⟩ := asRet_eq he
      unfold wS
      exact PSimp ps_retN fun D σ H w => retN_lift w
    · cases h
  | .brk, X, sc, raw, s, g, h => by
    unfold ckS at h
    obtain ⟨p, rfl⟩ := isBrk_eq h
    unfold wS
    exact PSimp ps_break fun D σ H w => bk_lift w
  | .cont, X, sc, raw, s, g, h => by
    unfold ckS at h
    obtain ⟨p, rfl⟩ := isCont_eq h
    unfold wS
    exact PSimp ps_continue fun D σ H w => ct_lift w
  | .pass, X, sc, raw, s, g, h => by
    unfold ckS at h
    obtain ⟨p, rfl⟩ := isPass_eq h
    unfold wS
    exact PSimp ps_pass fun D σ H w => nil_lift w
  | .nev, X, sc, raw, s, g, h => by
    unfold wS
    exact ⟨fun pins s σ H Y I w => by obtain ⟨_, _, _, _, _, z, _⟩ := w; exact (show False from z).elim⟩
theorem okSs : ∀ (a : Ss) {X : Cx} {sc raw : Scope} {ss : List Stmt}, GoodX X B G sc raw → ckSs B lent a sc raw ss = true → PSs X ss (liftS X.K X.mg lent (wSs G a))
  | .nil, X, sc, raw, ss, g, h => by
    unfold ckSs at h
    rw [List.isEmpty_iff.mp h]
    unfold wSs
    exact PSsimp pss_nil fun D σ H w => nil_lift w
  | .cons a r, X, sc, raw, ss, g, h => by
    unfold ckSs at h
    split at h
    · cases h
    · simp only [Bool.and_eq_true] at h
      unfold wSs
      exact PSsimp (pss_cons (okS a g h.1) (okSs r g h.2)) fun D σ H w => seq_lift w
end
end
end TL

/-! T18: defs by their shapes -/
namespace TL
open PySem PySem.Spec PyProof.Rows L2

/-- a def as it stands behind the top, whatever its defaults -/
structure FunG (K : PySem.W.Frag) (x qual : Str) (st : Stmt) (f : Addr) (fd : FuncData) (dV kV : Value) : Prop where
  ex : ∃ (oc : Value) (od : Option Addr) (doc pm : Value) (an : Option Addr) (cdv ct : Value) (osl : Array (Option Value)),
    fd = PySem.W.fnOf x qual (defArgs st) (defBody st) (defScope st) dV kV doc pm an cdv ct ∧ K.lookup f = some ⟨oc, od, .func fd, osl⟩ ∧ PySem.W.codeIn K cdv qual = true
  kp : PySem.W.keepIn K (.ref f) = true
theorem funG_mk {K : PySem.W.Frag} {x qual : Str} {st : Stmt} {f : Addr} {oc : Value} {od an : Option Addr} {osl : Array (Option Value)} {dV kV doc pm cdv ct : Value} (l : K.lookup f = some ⟨oc, od, .func (PySem.W.fnOf x qual (defArgs st) (defBody st) (defScope st) dV kV doc pm an cdv ct), osl⟩)
    (c : PySem.W.codeIn K cdv qual = true) (k : PySem.W.keepIn K (.ref f) = true) : FunG K x qual st f (PySem.W.fnOf x qual (defArgs st) (defBody st) (defScope st) dV kV doc pm an cdv ct) dV kV :=
  ⟨⟨oc, od, doc, pm, an, cdv, ct, osl, rfl, l, c⟩, k⟩

/-- what is known of the module's names -/
structure Facts (P : Program) (w : World) (K : PySem.W.Frag) (mg : Str → Option Value) (base : Heap) (k : Nat) (B : Tb) (G : Gm) : Prop where
  fn : ∀ (j : Nat) (x : Str) (f : FE), B.fn[j]? = some x → G.fs[j]? = some f → ∃ kk ad fd ps, kk ≤ k ∧ mg x = some (.ref ad) ∧ FnT P w K mg base kk ad fd ps (spT K mg f.n f.t) ∧ PySem.W.keepIn K (.ref ad) = true ∧ Binds K fd ps []
  cn : ∀ (j : Nat) (x : Str) (d : D), B.cn[j]? = some x → G.cs[j]? = some d → ∃ v u, mg x = some u ∧ RelV v u ∧ ∀ hot H, Rep K mg hot H v d
  kw : ∀ (j : Nat) (y : Str × Nat × List Str) (e : TL.KE), B.kw[j]? = some y → G.kw[j]? = some e → ∃ kk ad fd ps dU dV, kk ≤ k ∧ mg y.1 = some (.ref ad) ∧ FnT P w K mg base kk ad fd ps (spT K mg e.n e.t) ∧ PySem.W.keepIn K (.ref ad) = true ∧ KB K fd ps y.2.1 y.2.2 e.perm dU ∧ Vals dV dU ∧
    (∀ hot H, Reps K mg hot H dV e.dD) ∧ e.npos = y.2.1 ∧ e.nk = y.2.2.length
  bn : ∀ x ∈ bnames, mg x = none
  fx : ∀ (j : Nat) (f : FE), G.fs[j]? = some f → B.fn[j]? = some f.x
  dn : ∀ (j : Nat) (x : Str) (tab : List (Str × D)), B.dn[j]? = some x → G.ds[j]? = some tab → ∃ a, mg x = some (.ref a) ∧ (∀ s d, lookS s tab = some d → ∃ v, KDct K w a s v ∧ ∀ hot H, Rep K mg hot H v d) ∧ TabK K w a tab
section
variable {P : Program} {w : World} {K : PySem.W.Frag} {mg : Str → Option Value} {base : Heap} {k : Nat} {B : Tb} {G : Gm}
theorem snoc_get {α : Type} {l : List α} {a b : α} {j : Nat} (h : (l ++ [a])[j]? = some b) : l[j]? = some b ∨ (j = l.length ∧ b = a) := by
  rw [List.getElem?_append] at h
  split at h
  · exact .inl h
  · rename_i hj
    have : j - l.length = 0 := by
      cases e : j - l.length with
      | zero => rfl
      | succ n => rw [e] at h; cases h
    rw [this] at h
    exact .inr ⟨by omega, (Option.some.inj h).symm⟩
theorem Facts.nil (hb : ∀ x ∈ bnames, mg x = none) : Facts P w K mg base k B ⟨[], [], [], []⟩ := ⟨fun j x f _ h => (nomatch h), fun j x f _ h => (nomatch h), fun j x f _ h => (nomatch h), hb, fun j f h => (nomatch h), fun j x f _ h => (nomatch h)⟩
theorem Facts.names {fs : List FE} {cs : List D} {ks : List TL.KE} {ts : List (List (Str × D))} (F : Facts P w K mg base k B ⟨fs, cs, ks, ts⟩) {N : List Str} : Facts P w K mg base k { B with N := N } ⟨fs, cs, ks, ts⟩ := ⟨F.fn, F.cn, F.kw, F.bn, F.fx, F.dn⟩
theorem Facts.mono {j : Nat} (F : Facts P w K mg base j B G) (h : j ≤ k) : Facts P w K mg base k B G :=
  ⟨fun j x f a b => let ⟨kk, ad, fd, ps, h1, r⟩ := F.fn j x f a b; ⟨kk, ad, fd, ps, Nat.le_trans h1 h, r⟩, F.cn, fun j x f a b => let ⟨kk, ad, fd, ps, dU, dV, h1, r⟩ := F.kw j x f a b; ⟨kk, ad, fd, ps, dU, dV, Nat.le_trans h1 h, r⟩, F.bn, F.fx, F.dn⟩
theorem Facts.addC {fs : List FE} {cs : List D} {ks : List TL.KE} {ts : List (List (Str × D))} (F : Facts P w K mg base k B ⟨fs, cs, ks, ts⟩) {x : Str} {d : D} (hx : B.cn[cs.length]? = some x) {v : V} {u : Value} (h1 : mg x = some u) (h2 : RelV v u) (h3 : ∀ hot H, Rep K mg hot H v d) : Facts P w K mg base k B ⟨fs, cs ++ [d], ks, ts⟩ := by
  refine ⟨F.fn, fun j y e a b => ?_, F.kw, F.bn, F.fx, F.dn⟩
  rcases snoc_get b with b | ⟨rfl, rfl⟩
  · exact F.cn j y e a b
  · rw [hx] at a
    cases a
    exact ⟨v, u, h1, h2, h3⟩
theorem Facts.addF {fs : List FE} {cs : List D} {ks : List TL.KE} {ts : List (List (Str × D))} (F : Facts P w K mg base k B ⟨fs, cs, ks, ts⟩) {x : Str} {f : FE} (hx : B.fn[fs.length]? = some x) {ad : Addr} {fd : FuncData} {ps : List Str} (h1 : mg x = some (.ref ad)) (h2 : FnT P w K mg base k ad fd ps (spT K mg f.n f.t))
    (h3 : PySem.W.keepIn K (.ref ad) = true) (h4 : Binds K fd ps []) (h5 : f.x = x) : Facts P w K mg base k B ⟨fs ++ [f], cs, ks, ts⟩ := by
  refine ⟨fun j y e a b => ?_, F.cn, F.kw, F.bn, fun j e b => ?_, F.dn⟩
  · rcases snoc_get b with b | ⟨rfl, rfl⟩
    · exact F.fn j y e a b
    · rw [hx] at a
      cases a
      exact ⟨k, ad, fd, ps, Nat.le_refl _, h1, h2, h3, h4⟩
  · rcases snoc_get b with b | ⟨rfl, rfl⟩
    · exact F.fx j e b
    · rw [hx, h5]
theorem Facts.addK {fs : List FE} {cs : List D} {ks : List TL.KE} {ts : List (List (Str × D))} (F : Facts P w K mg base k B ⟨fs, cs, ks, ts⟩) {x : Str} {npos : Nat} {kn : List Str} {e : TL.KE} (hx : B.kw[ks.length]? = some (x, npos, kn)) {ad : Addr} {fd : FuncData} {ps : List Str} {dU : List Value} {dV : List V} (h1 : mg x = some (.ref ad))
    (h2 : FnT P w K mg base k ad fd ps (spT K mg e.n e.t)) (h3 : PySem.W.keepIn K (.ref ad) = true) (h4 : KB K fd ps npos kn e.perm dU) (h5 : Vals dV dU) (h6 : ∀ hot H, Reps K mg hot H dV e.dD) (h7 : e.npos = npos) (h8 : e.nk = kn.length) : Facts P w K mg base k B ⟨fs, cs, ks ++ [e], ts⟩ := by
  refine ⟨F.fn, F.cn, fun j y e a b => ?_, F.bn, F.fx, F.dn⟩
  rcases snoc_get b with b | ⟨rfl, rfl⟩
  · exact F.kw j y e a b
  · rw [hx] at a
    cases a
    exact ⟨k, ad, fd, ps, dU, dV, Nat.le_refl _, h1, h2, h3, h4, h5, h6, h7, h8⟩
theorem Facts.addD {fs : List FE} {cs : List D} {ks : List TL.KE} {ts : List (List (Str × D))} (F : Facts P w K mg base k B ⟨fs, cs, ks, ts⟩) {x : Str} {tab : List (Str × D)} (hx : B.dn[ts.length]? = some x) {a : Addr} (h1 : mg x = some (.ref a))
    (h2 : ∀ s d, lookS s tab = some d → ∃ v, KDct K w a s v ∧ ∀ hot H, Rep K mg hot H v d) (h3 : TabK K w a tab) : Facts P w K mg base k B ⟨fs, cs, ks, ts ++ [tab]⟩ := by
  refine ⟨F.fn, F.cn, F.kw, F.bn, F.fx, fun j y e a b => ?_⟩
  rcases snoc_get b with b | ⟨rfl, rfl⟩
  · exact F.dn j y e a b
  · rw [hx] at a
    cases a
    exact ⟨_, h1, h2, h3⟩
/-- a table's reading, key by key -/
theorem look_nil {K : PySem.W.Frag} {w : World} {mg : Str → Option Value} {a : Addr} : ∀ s d, lookS s [] = some d → ∃ v, KDct K w a s v ∧ ∀ hot H, Rep K mg hot H v d := fun s d h => nomatch h
theorem look_cons {K : PySem.W.Frag} {w : World} {mg : Str → Option Value} {a : Addr} {x : Str} {d0 : D} {tab : List (Str × D)} {v : V} (h : KDct K w a x v) (r : ∀ hot H, Rep K mg hot H v d0) (t : ∀ s d, lookS s tab = some d → ∃ v, KDct K w a s v ∧ ∀ hot H, Rep K mg hot H v d) :
    ∀ s d, lookS s ((x, d0) :: tab) = some d → ∃ v, KDct K w a s v ∧ ∀ hot H, Rep K mg hot H v d := by
  intro s d e
  unfold lookS at e
  split at e
  · rename_i q
    have q : s = x := q
    subst q
    cases e
    exact ⟨v, h, r⟩
  · exact t s d e
/-- the entry's context knows what is known of the module -/
theorem good_of (F : Facts P w K mg base k B G) {qual : Str} {sc : Scope} {f : Addr} {cdv : Value} {A : Around} {outer : List Env} {s : Shared} {H : Hp} (hN : B.N.Nodup) (hr : Room k (A.deeper (envOfC qual sc s.heap.objs.size f cdv))) (hg : (A.deeper (envOfC qual sc s.heap.objs.size f cdv)).guards = some []) :
    GoodX (cxOf CX0 P w K mg base B.N qual sc f cdv A outer s H E0).nox B G sc sc where
  sc := rfl
  N := rfl
  nd := hN
  raw := fun _ _ => rfl
  calm := rfl
  gd := hg
  un := by have := hr.un; show (A.deeper (envOfC qual sc s.heap.objs.size f cdv)).units + 64 < _; omega
  xe := rfl
  fn := fun j x f a b => let ⟨kk, ad, fd, ps, h1, h2, h3, h4, h5⟩ := F.fn j x f a b; ⟨kk, ad, fd, ps, h2, h3, hr.mono h1, h4, h5⟩
  cn := F.cn
  kw := fun j x f a b => let ⟨kk, ad, fd, ps, dU, dV, h1, h2, h3, h4, h5⟩ := F.kw j x f a b; ⟨kk, ad, fd, ps, dU, dV, h2, h3, hr.mono h1, h4, h5⟩
  bn := F.bn
  fx := F.fx
  dn := F.dn
end

/-! ### bodies -/
def outA : EnvD → Option (List Val)
  | [] => some []
  | some x :: r => match outA r with
    | some l => some (x :: l)
    | none => none
  | none :: _ => none
theorem outA_eq : ∀ {e : EnvD} {l : List Val}, outA e = some l → e = l.map some
  | [], l, h => by cases h; rfl
  | some x :: r, l, h => by
    unfold outA at h
    split at h
    · rename_i l' e
      cases h
      rw [outA_eq e]; rfl
    · cases h
  | none :: _, l, h => by cases h
def FinA (n : Nat) (env : EnvD) (Q : List Val → Prop) : Prop := ∃ l, outA (env.take n) = some l ∧ Q l
/-- what a body leaves; all parameters stay where they are -/
def endA (n : Nat) (P : Val → List Val → Prop) : Out → EnvD → Prop
  | .nx, env => FinA n env (P (fz .non))
  | .rt v, env => FinA n env (P v)
  | _, _ => False
/-- the same where what is handed in is everybody's and the parameters' names may be stored to -/
def endB (args : List Val) (P : Val → List Val → Prop) : Out → EnvD → Prop
  | .nx, _ => P (fz .non) args
  | .rt v, _ => P v args
  | _, _ => False
def env0 (N : List Str) (args : List Val) : EnvD := args.map some ++ List.replicate (N.length - args.length) none
theorem core_rep : ∀ m : Nat, core (List.replicate m ((none : Option V), (none : Option Val))) = []
  | 0 => rfl
  | m + 1 => by rw [List.replicate_succ, core_cons_none, core_rep m]
theorem core_start {N : List Str} {vs : List V} {args : List Val} (h : vs.length = args.length) : core ((start N vs).zip (env0 N args)) = core (zipA vs args) := by
  unfold L2.start env0 zipA
  rw [List.zip_append (by simpa using h), h, core_append, List.zip_replicate', core_rep, List.append_nil]
theorem take_lent {n : Nat} {σ σ' : L2.St} (hl : σ'.length = σ.length) (h : LentEq (List.range n) σ σ') : σ'.take n = σ.take n := by
  apply List.ext_getElem?
  intro i
  rw [List.getElem?_take, List.getElem?_take]
  split
  · exact h i (by simpa using ‹i < n›)
  · rfl
section
variable {P : Program} {w : World} {K : PySem.W.Frag} {mg : Str → Option Value} {base : Heap} {k n : Nat} {x qual : Str} {st : Stmt} {f : Addr} {fd : FuncData} {dV kV : Value} {ps : List Str} {B : Tb} {G : Gm}
theorem fnG_of {N : List Str} {sp : Sp} (F : FunG K x qual st f fd dV kV) (S : FnScope N ps (defScope st)) (len : ∀ vs H Q E, sp vs H Q E → vs.length = ps.length)
    (hbody : ∀ (cdv : Value) (A : Around) (outer : List Env) (s : Shared) (H : Hp) (vs : List V) (Q : VK), Room k (A.deeper (envOfC qual (defScope st) s.heap.objs.size f cdv)) → (A.deeper (envOfC qual (defScope st) s.heap.objs.size f cdv)).guards = some [] → sp vs H Q E0 →
      ∃ t, PSs (cxOf CX0 P w K mg base N qual (defScope st) f cdv A outer s H E0).nox (defBody st) t ∧ t { nx := fun _ H' => Q .non H', rt := Q } (start N vs) H) : FnT P w K mg base (k + 1) f fd ps sp := by
  obtain ⟨oc, od, doc, pm, an, cdv, ct, osl, rfl, lk, hcd⟩ := F.ex
  refine ⟨len, fun A outer s H args us vs Q hr hg e0 hb r hsp => ?_⟩
  have hl := len _ _ _ _ hsp
  have keepB : ∀ b o, base.get? b = some o → s.heap.get? b = some o := fun b o e => (e0.bs b o e).1
  have KX : K.In s.heap := e0.mod.kin.keeps keepB
  have lim : s.heap.NoLimit := e0.mod.nolimit.keeps keepB
  have hkind : ∀ y ∈ ps.zip us, (defScope st).names.lookup y.1 = some .local ∨ ((defScope st).names.lookup y.1 = some .cell ∧ ((cellsFrom (s.heap.objs.size + 1) (defScope st).names []).lookup y.1).isSome = true) := by
    rintro ⟨n, v⟩ hy
    exact (S.par n (List.of_mem_zip hy).1).imp id fun q => ⟨q, PySem.W.cellsFrom_some _ _ _ (.inl q)⟩
  refine codeAny_call_function hr.depth (KX _ _ lk) rfl S.co S.gen rfl (PySem.W.codeRec_of KX hcd) (hb _ _ _ _ (wpAny_newFunctionEnv_cells S.kind hkind fun env he s1 z => ?_))
  subst he
  refine ⟨lim.keeps z.toInCall.keep, codeAny_func ?_⟩
  obtain ⟨t, ht, hq⟩ := hbody cdv A outer s H vs Q (hr.deeper _) hg hsp
  have I : L2.Inv (cxOf CX0 P w K mg base N qual (defScope st) f cdv A outer s H E0) [] (start N vs) H s1 := inv_start S hr.hd e0 hl r z
  refine wpAny_mono (ht.nox.run [] s1 (start N vs) H _ I hq) (fun fl s' hs => ?_) fun e s' hs => hs
  match fl, hs with
  | .ret u, hs =>
    obtain ⟨v, σ', H', J, rv, q⟩ := hs
    exact ⟨v, H', J.os, J.bare, J.base, J.hok, rv, q⟩
  | .next, hs =>
    obtain ⟨σ', H', J, q⟩ := hs
    exact ⟨.non, H', J.os, J.bare, J.base, J.hok, rfl, q⟩
  | .brk, hs => obtain ⟨_, _, _, q⟩ := hs; exact False.elim q
  | .cont, hs => obtain ⟨_, _, _, q⟩ := hs; exact False.elim q
theorem fnT_no {kk : Nat} (hn : ps.length = n) : FnT P w K mg base kk f fd ps (spT K mg n fun _ _ => False) :=
  ⟨fun vs H Q E h => by obtain ⟨_, _, _, _, _, _, z, _⟩ := h; exact z.elim, fun A outer s H args us vs Q hr hg e0 hb r hsp => by obtain ⟨_, _, _, _, _, _, z, _⟩ := hsp; exact z.elim⟩
/-- THE RULE for a def: all parameters stay -/
theorem def_A (F : FunG K x qual st f fd dV kV) (S : FnScope B.N ps (defScope st)) (hn : ps.length = n) (Φ : Facts P w K mg base k B G) (body : Ss) (hc : ckSs B (List.range n) body (defScope st) (defScope st) (defBody st) = true) {t : DSpec}
    (hw : ∀ args Q, t args Q → args.length = n → wSs G body (env0 B.N args) (endA n Q)) : FnT P w K mg base (k + 1) f fd ps (spT K mg n t) := by
  refine fnG_of F S (fun vs H Q E h => ?_) fun cdv A outer s H vs Q hr hg h => ?_
  · obtain ⟨_, _, _, h, _⟩ := h
    rw [h, hn]
  · obtain ⟨oh, args, Pd, h1, h2, S0, ht, k0⟩ := h
    have g := good_of (outer := outer) (H := H) Φ S.nd hr hg
    refine ⟨_, okSs body g hc, ?_⟩
    have hc0 := core_start (N := B.N) (h1.trans h2.symm)
    have S1 : StR K mg oh H ((start B.N vs).zip (env0 B.N args)) := S0.core (E := []) (by rw [hc0, List.append_nil])
    have hr0 : roots ((start B.N vs).zip (env0 B.N args)) = roots (zipA vs args) := by rw [← roots_core, hc0, roots_core]
    have hlen : (start B.N vs).length = (env0 B.N args).length := by unfold L2.start env0; simp [h1, h2]
    have ft : ∀ {σ' : L2.St} {env' : EnvD} {l : List Val}, σ'.length = (start B.N vs).length → LentEq (List.range n) (start B.N vs) σ' → outA (env'.take n) = some l → zipA vs l = (σ'.zip env').take n := by
      intro σ' env' l e2 e3 ho
      have a1 : σ'.take n = vs.map some := by
        rw [take_lent e2 e3]
        unfold L2.start
        rw [List.take_append_of_le_length (by rw [List.length_map, h1]; exact Nat.le_refl _), List.take_of_length_le (by rw [List.length_map, h1]; exact Nat.le_refl _)]
      rw [List.zip_eq_zipWith, List.take_zipWith, ← List.zip_eq_zipWith, a1, outA_eq ho]
      rfl
    have fl : ∀ {σ' : L2.St} {env' : EnvD} {l : List Val}, σ'.length = env'.length → σ'.length = (start B.N vs).length → outA (env'.take n) = some l → l.length = n := by
      intro σ' env' l e1 e2 ho
      have := congrArg List.length (outA_eq ho)
      rw [List.length_take, List.length_map] at this
      have q : n ≤ env'.length := by
        rw [← e1, e2]; unfold L2.start; rw [List.length_append, List.length_map, h1]; omega
      omega
    refine ⟨oh, env0 B.N args, _, hlen, S1, hw args Pd ht h2, ?_, ?_, ?_, ?_⟩
    · rintro σ' env' H' e1 e2 e3 S' s' ⟨l, ho, q⟩
      refine k0 .non (fz .non) l H' (fl e1 e2 ho) ?_ ?_ q
      · refine StR.push ?_ (StR.one_fro (fun a ha => ?_) .non) Step.one_fro
        · rw [ft e2 e3 ho]
          exact S'.less (fun p hp => .inr (List.mem_of_mem_take hp)) (S'.nd.sublist (roots_sublist (List.take_sublist _ _)))
        · rw [ft e2 e3 ho] at ha
          exact ha.elim (S'.tr a) fun z => S'.root_there ((roots_sublist (List.take_sublist _ _)).subset z)
      · refine (s'.coreL' hr0).lessR fun a ha => ?_
        rw [roots_fro, ft e2 e3 ho] at ha
        exact (roots_sublist (List.take_sublist _ _)).subset ha
    · rintro σ' env' H' e1 e2 e3 S' s' q; exact q.elim
    · rintro σ' env' H' e1 e2 e3 S' s' q; exact q.elim
    · rintro v val σ' env' H' e1 e2 e3 S' s' ⟨l, ho, q⟩
      have sub : ((some v, some val) :: zipA vs l).Sublist ((some v, some val) :: σ'.zip env') := by
        rw [ft e2 e3 ho]; exact List.Sublist.cons_cons _ (List.take_sublist _ _)
      refine k0 v val l H' (fl e1 e2 ho) ?_ ?_ q
      · exact S'.less (fun p hp => .inr (sub.subset hp)) (S'.nd.sublist (roots_sublist sub))
      · exact (s'.coreL' hr0).lessR fun a ha => (roots_sublist sub).subset ha
/-- the same where what is handed in is everybody's -/
theorem def_B (F : FunG K x qual st f fd dV kV) (S : FnScope B.N ps (defScope st)) (hn : ps.length = n) (Φ : Facts P w K mg base k B G) (body : Ss) (hc : ckSs B [] body (defScope st) (defScope st) (defBody st) = true) {t : DSpec}
    (hf : ∀ args Q, t args Q → ∃ ds : List D, args = ds.map fz) (hw : ∀ args Q, t args Q → args.length = n → wSs G body (env0 B.N args) (endB args Q)) : FnT P w K mg base (k + 1) f fd ps (spT K mg n t) := by
  refine fnG_of F S (fun vs H Q E h => ?_) fun cdv A outer s H vs Q hr hg h => ?_
  · obtain ⟨_, _, _, h, _⟩ := h
    rw [h, hn]
  · obtain ⟨oh, args, Pd, h1, h2, S0, ht, k0⟩ := h
    have g := good_of (outer := outer) (H := H) Φ S.nd hr hg
    refine ⟨_, okSs body g hc, ?_⟩
    have hc0 := core_start (N := B.N) (h1.trans h2.symm)
    have S1 : StR K mg oh H ((start B.N vs).zip (env0 B.N args)) := S0.core (E := []) (by rw [hc0, List.append_nil])
    have hr0 : roots ((start B.N vs).zip (env0 B.N args)) = roots (zipA vs args) := by rw [← roots_core, hc0, roots_core]
    have hlen : (start B.N vs).length = (env0 B.N args).length := by unfold L2.start env0; simp [h1, h2]
    obtain ⟨ds, rfl⟩ := hf args Pd ht
    have hz : roots (zipA vs (ds.map fz)) = [] := roots_zipA_fz
    have rs : Reps K mg (hotL oh []) H vs ds := by
      clear hc0 S1 hr0 hlen k0 ht g hw
      have aux : ∀ (L : Lay) {vs : List V} {ds : List D}, roots L = [] → vs.length = ds.length → (∀ c ∈ zipA vs (ds.map fz), c ∈ L) → StR K mg oh H L → Reps K mg (hotL oh L) H vs ds := by
        intro L vs
        induction vs with
        | nil => intro ds hL hl _ _; cases ds with
          | nil => exact .nil
          | cons d ds => cases hl
        | cons v vs ih =>
          intro ds hL hl hm S
          cases ds with
          | nil => cases hl
          | cons d ds =>
            refine .cons ?_ (ih hL (by simpa using hl) (fun c hc => hm c (List.mem_cons_of_mem _ hc)) S)
            obtain ⟨v', e, r⟩ := S.all _ (hm (some v, some (fz d)) List.mem_cons_self) _ rfl
            cases e
            cases r with
            | fro r => exact r
      have := aux (zipA vs (ds.map fz)) hz (by rw [h1, ← h2, List.length_map]) (fun _ h => h) S0
      unfold hotL at this ⊢
      rw [hz] at this
      exact this
    refine ⟨oh, env0 B.N (ds.map fz), _, hlen, S1, hw _ Pd ht h2, ?_, ?_, ?_, ?_⟩
    · rintro σ' env' H' e1 e2 e3 S' s' q
      have s2 := s'.coreL' hr0
      have s3 : Step [] H [] H' := (s2.coreL' (L2 := []) hz).lessR fun a ha => (nomatch ha)
      have kp := s3.keeps (oh := oh) (B := [])
      rw [List.append_nil] at kp
      have T0 : StR K mg oh H' [] := StR.nil fun a ha => S'.tr a ha
      have T1 := push_fros (rs.mono kp) T0
      rw [List.append_nil] at T1
      refine k0 .non (fz .non) _ H' h2 (StR.push T1 (StR.one_fro (fun a ha => T1.hot_there ha) .non) Step.one_fro) ?_ q
      refine (s3.coreL' (L2 := zipA vs (ds.map fz)) hz.symm).lessR fun a ha => ?_
      rw [roots_fro, hz] at ha
      exact ha
    · rintro σ' env' H' e1 e2 e3 S' s' q; exact q.elim
    · rintro σ' env' H' e1 e2 e3 S' s' q; exact q.elim
    · rintro v val σ' env' H' e1 e2 e3 S' s' q
      have s2 := s'.coreL' hr0
      have S2 : StR K mg oh H' [(some v, some val)] := S'.less (fun p hp => .inr (by
        rw [List.mem_singleton] at hp; rw [hp]; exact List.mem_cons_self)) (S'.nd.sublist (roots_sublist (List.Sublist.cons_cons _ (List.nil_sublist _))))
      have s3 : Step [] H [(some v, some val)] H' := (s2.coreL' (L2 := []) hz).lessR fun a ha => (roots_sublist (List.Sublist.cons_cons _ (List.nil_sublist _))).subset ha
      have kp := s3.keeps (oh := oh) (B := [])
      rw [List.append_nil, List.append_nil] at kp
      have T1 := push_fros (rs.mono kp) S2
      have pm : (zipA vs (ds.map fz) ++ [(some v, some val)]).Perm ((some v, some val) :: zipA vs (ds.map fz)) := List.perm_append_singleton _ _
      refine k0 v val _ H' h2 (T1.perm pm) ?_ q
      refine (s3.coreL' (L2 := zipA vs (ds.map fz)) hz.symm).lessR fun a ha => ?_
      rw [← (roots_perm pm), roots_append, hz] at ha
      exact ha
end
end TL

/-! T19: a law's end, from the promise of its def over data -/
namespace TL
open PySem PySem.Spec PyProof.Rows L2

theorem FunG.binds {K : PySem.W.Frag} {x qual : Str} {st : Stmt} {f : Addr} {fd : FuncData} {dV kV : Value} {ps : List Str} (F : FunG K x qual st f fd dV kV)
    (h : ∀ (doc pm : Value) (an : Option Addr) (cdv ct : Value) (us : List Value), us.length = ps.length → bindArgs (PySem.W.fnOf x qual (defArgs st) (defBody st) (defScope st) dV kV doc pm an cdv ct) ⟨us, []⟩ = pure (ps.zip us)) : Binds K fd ps [] := by
  obtain ⟨oc, od, doc, pm, an, cdv, ct, osl, rfl, lk, hcd⟩ := F.ex
  exact .all (h doc pm an cdv ct)
/-- the promise of a law's def: of a script of at most 63 numbers it tells True -/
def tLawD : DSpec := fun args Q => ∃ ns : List Int, args = [fz (.lst (ns.map D.int))] ∧ ns.length ≤ 63 ∧ ∀ val xs, val.d = .bl true → Q val xs
section
variable {P : Program} {w : World} {K : PySem.W.Frag} {mg : Str → Option Value}
theorem reps_ints {hot : Pr} {H : Hp} : ∀ ns : List Int, Reps K mg hot H (ns.map V.int) (ns.map D.int)
  | [] => .nil
  | n :: ns => .cons (.int n) (reps_ints ns)
theorem spT_law {H : Hp} {a : Addr} {ns : List Int} (hn : ns.length ≤ 63) (S : SqL K H a (ns.map V.int)) : spT K mg 1 tLawD [.ref a] H (fun v _ => v = .bl true) E0 := by
  have noh : ∀ b, ¬ hotL (fun _ => False) ([] : Lay) b := fun b z => z.elim id (fun q => (nomatch q))
  have r : Rep K mg (hotL (fun _ => False) []) H (.ref a) (.lst (ns.map D.int)) := .lst (S.elim (fun q => .inl ⟨noh a, q⟩) .inr) (reps_ints ns)
  refine ⟨fun _ => False, [fz (.lst (ns.map D.int))], fun val _ => val.d = .bl true, rfl, rfl, ?_, ⟨ns, rfl, hn, fun val xs h => h⟩, fun v val as H' h1 S' s' h => S'.head.to_bl h⟩
  exact StR.push (StR.nil fun b z => z.elim) (StR.one_fro (fun b z => (noh b z).elim) r) Step.one_fro
/-- the heap that hides the script bears what the module knows -/
theorem hide_keeps {H : Hp} {h0 : Heap} {a : Addr} {vals : List Value} (hs : h0.get? a = some { cls := .type "list", data := .seq vals.toArray }) (one : ∀ b, H b ≠ none → b = a) :
    ∀ {b : Addr} {o : Obj}, h0.get? b = some o → (∀ vals : List Value, o ≠ { cls := .type "list", data := .seq vals.toArray }) → (hidT h0 H).get? b = some o := by
  intro b o e no
  refine hidT_get e ?_
  cases q : H b with
  | none => rfl
  | some u =>
    have hb := one b (by rw [q]; exact fun z => nomatch z)
    rw [hb, hs] at e
    exact (no vals (Option.some.inj e).symm).elim
theorem law_run {mb : Str → Option Value} {k : Nat} {fa a : Addr} {fd : FuncData} {x : Str} {sh : Shared} {vals : List Value} {ns : List Int}
    (kin : K.In sh.heap) (gl : sh.heap.Ns mainGlobals mg) (bl : sh.heap.Ns builtinsNs mb) (bb : ∀ y : Str, y ≠ "__name__" → mb y = bootBuiltins y) (lim : sh.heap.NoLimit) (gens : sh.gens = #[])
    (hs : sh.heap.get? a = some { cls := .type "list", data := .seq vals.toArray }) (hi : IntsAre vals ns) (hn : ns.length ≤ 63) (room : Room k callerA)
    (Fn : ∀ base : Heap, K.In base → base.Ns mainGlobals mg → FnT P w K mg base k fa fd [x] (spT K mg 1 tLawD)) (bind : ∀ (s : Shared) (u : Value), BindsTo s fd ⟨[u], []⟩ [(x, u)]) :
    codeAny (model P w) callerA (.call (.ref fa) ⟨[.ref a], []⟩) (fun r t => r = .ok (.ret (.bool true)) ∧ OldK sh.heap t.heap ∧ t.os = sh.os ∧ AllBare t.gens) sh := by
  have small : ns.length ≤ sizeLine := Nat.le_trans hn (by decide)
  have len := hi.length
  have rel := vals_ints hi
  -- the abstract heap H bears the script alone, or nothing
  have go : ∀ H : Hp, (∀ b u, H b = some u → b = a ∧ K.lookup a = none ∧ u = .frz { cls := .type "list", data := .seq vals.toArray } (.lst (ns.map V.int))) → HOk P w H sh.heap → SqL K H a (ns.map V.int) →
      codeAny (model P w) callerA (.call (.ref fa) ⟨[.ref a], []⟩) (fun r t => r = .ok (.ret (.bool true)) ∧ OldK sh.heap t.heap ∧ t.os = sh.os ∧ AllBare t.gens) sh := by
    intro H only ok seen
    have one : ∀ b, H b ≠ none → b = a := fun b z => by
      cases q : H b with
      | none => exact (z q).elim
      | some u => exact (only b u q).1
    have kb : K.In (hidT sh.heap H) := by
      intro b o e
      refine hidT_get (kin b o e) ?_
      cases q : H b with
      | none => rfl
      | some u =>
        obtain ⟨rfl, z, _⟩ := only b u q
        rw [z] at e; cases e
    have nsb : ∀ {b : Addr} {m : Str → Option Value}, sh.heap.Ns b m → (hidT sh.heap H).Ns b m := by
      rintro b m ⟨o, es, ep, e, d, r⟩
      refine ⟨o, es, ep, hide_keeps hs one e (fun l z => ?_), d, r⟩
      rw [z] at d; cases d
    obtain ⟨mc, l1, l2⟩ := lim
    have M : Mod K mg (hidT sh.heap H) := ⟨kb, nsb gl, ⟨mb, nsb bl, bb⟩, ⟨mc, nsb l1, l2⟩⟩
    have en : Env0 P w K mg (hidT sh.heap H) callerA [] sh H := ⟨rfl, M, fun _ _ e => of_hidT e, Nat.le_of_eq (hidT_size _ _), trivial, fun _ z => (nomatch z), ok, .of_eq gens⟩
    have run := (Fn _ kb (nsb gl)).run callerA [] sh H ⟨[.ref a], []⟩ [.ref a] [.ref a] _ room rfl en (bind sh (.ref a)) (.cons rfl .nil) (spT_law hn seen)
    refine codeAny_mono run fun r t h => ?_
    match r, h with
    | .ok (.ret u), ⟨v, H', os, bare, un, ok', r', q⟩ =>
      have q : v = .bl true := q
      subst q
      have r' : u = Value.bool true := r'
      subst r'
      refine ⟨rfl, OldK.of_keep fun b o e => ?_, os, bare⟩
      cases q : H b with
      | none => exact un.keep b o e q (fun z => nomatch z) (fun z => nomatch z)
      | some u =>
        obtain ⟨rfl, _, rfl⟩ := only b u q
        have z1 := (ok b _ q).1
        have z2 := (ok' b _ (un.frzs b _ _ q)).1
        rw [z1] at e; cases e
        exact z2
    | .ok .next, h => exact False.elim h
    | .ok .brk, h => exact False.elim h
    | .ok .cont, h => exact False.elim h
    | .error e, h => exact False.elim h
  cases hk : K.lookup a with
  | some o =>
    have e := kin a o hk
    rw [hs] at e; cases e
    exact go (fun _ => none) (fun _ _ z => nomatch z) (fun _ _ z => nomatch z) (.inr ⟨_, vals.toArray, _, hk, rfl, rfl, rfl, by rw [List.size_toArray, len]; exact small, by simpa using rel⟩)
  | none =>
    let u0 : HO := .frz { cls := .type "list", data := .seq vals.toArray } (.lst (ns.map V.int))
    have at_a : ∀ b u, (if b = a then some u0 else none) = some u → b = a ∧ u = u0 := fun b u z => by
      split at z
      · rename_i hb; exact ⟨hb, (Option.some.inj z).symm⟩
      · cases z
    refine go (fun b => if b = a then some u0 else none) (fun b u z => ⟨(at_a b u z).1, hk, (at_a b u z).2⟩) (fun b u z => ?_) (.inl (.inr ⟨_, if_pos rfl⟩))
    obtain ⟨rfl, rfl⟩ := at_a b u z
    exact ⟨hs, by rw [List.length_map]; exact small, vals, _, rel, hs⟩
end
/-- the goal that the head leaves, from the promise -/
theorem law_walk {l : PySem.W.OpenLaw} {k : Nat} {q : Program} {loose : List Str} {XP : (Str → Option Value) → Heap → Prop} {YP : World → Heap → Prop} {d : DefRec} {K : Params → PySem.W.Frag} {x : Str} (hn : l.most = some 63) (hdf : d.params.defaults = []) (room : Room k callerA)
    (hY : ∀ (w : World) (h : Heap), YP w h → (K w.params).In h)
    (F : ∀ (w : World) (mg : Str → Option Value) (fa : Addr) (h : Heap), (K w.params).In h → h.Ns mainGlobals mg → mg d.name = some (.ref fa) →
      ∃ fd : FuncData, (∀ (s : Shared) (u : Value), BindsTo s fd ⟨[u], []⟩ [(x, u)]) ∧ ∀ base : Heap, (K w.params).In base → base.Ns mainGlobals mg → FnT l.prog w (K w.params) mg base k fa fd [x] (spT (K w.params) mg 1 tLawD)) :
    PySem.W.WalkO q loose XP YP l.row.toRowW d [] (fun f vs => PySem.call f vs) := by
  refine Att.attach_call hn hdf fun w _ sh mg mb fa _ _ _ _ a vals ns gr Y _ _ _ hmg hobj hints hlen hgens => ?_
  have kin := hY w _ Y
  obtain ⟨fd, bind, Fn⟩ := F w mg fa _ kin gr.T.g hmg
  exact law_run kin gr.T.g gr.T.b gr.T.builtins gr.T.nolimit hgens hobj hints hlen room Fn bind
end TL

/-! T20: reading off what a shape wants -/
namespace TL
open PySem PySem.Spec PyProof.Rows L2
theorem forD_ind {g : WG} {body : WS} {P : Out → EnvD → Prop} (I : List D → EnvD → Prop) (step : ∀ d ds env, I (d :: ds) env → ∀ K : EnvD → Prop, (∀ e, I ds e → K e) → g (fz d) env fun e1 => body e1 fun o e2 => match o with
      | .nx => K e2
      | .ct => K e2
      | .bk => P .nx e2
      | .rt v => P (.rt v) e2) (fin : ∀ env, I [] env → P .nx env) : ∀ (ds : List D) (env : EnvD), I ds env → forD g body ds env P
  | [], env, h => fin env h
  | d :: ds, env, h => step d ds env h (fun e => forD g body ds e P) fun e he => forD_ind I step fin ds e he
theorem lcD_ind {vs : List Nat} {g : WG} {tt : WT} {te : WE} {P : List D → EnvD → Prop} (I : List D → List D → EnvD → Prop)
    (step : ∀ d ds acc env, I (d :: ds) acc env → ∀ K : List D → EnvD → Prop, (∀ a e, I ds a e → K a e) → g (fz d) env fun e1 => tt e1 fun b e2 => if b then te e2 fun val e3 => acc.length < 16777216 ∧ K (acc ++ [val.d]) (wipeD e3 vs) else K acc (wipeD e2 vs))
    (fin : ∀ acc env, I [] acc env → P acc env) : ∀ (ds acc : List D) (env : EnvD), I ds acc env → lcD vs g tt te ds acc env P
  | [], acc, env, h => fin acc env h
  | d :: ds, acc, env, h => step d ds acc env h (fun a e => lcD vs g tt te ds a e P) fun a e he => lcD_ind I step fin ds a e he
@[simp ↓] theorem opX_var (i : Nat) (t : WE) : opX (.var i) t = wVarX i := (rfl)
@[simp] theorem atI_nat {α : Type} (xs : List α) (i : Nat) : atI xs (i : Int) = xs[i]? := by
  unfold atI ixN
  rw [if_pos (by omega)]
  by_cases h : (i : Int) < xs.length
  · rw [if_pos h]; rfl
  · rw [if_neg h]; simp; omega
@[simp] theorem atI_ofNat {α : Type} (xs : List α) (i : Nat) : atI xs (no_index (OfNat.ofNat i : Int)) = xs[i]? := atI_nat xs i
@[simp] theorem atI_zero {α : Type} (xs : List α) : atI xs (0 : Int) = xs[0]? := atI_nat xs 0
@[simp] theorem atI_one {α : Type} (xs : List α) : atI xs (1 : Int) = xs[1]? := atI_nat xs 1
@[simp] theorem ixN_nat {n i : Nat} : ixN n (i : Int) = if i < n then some i else none := by
  unfold ixN
  rw [if_pos (by omega)]
  by_cases h : i < n
  · rw [if_pos (by omega), if_pos h]; rfl
  · rw [if_neg (by omega), if_neg h]
@[simp] theorem ixN_ofNat {n i : Nat} : ixN n (no_index (OfNat.ofNat i : Int)) = if i < n then some i else none := ixN_nat
@[simp] theorem ixN_zero {n : Nat} : ixN n (0 : Int) = if 0 < n then some 0 else none := ixN_nat (i := 0)
@[simp] theorem ixN_one {n : Nat} : ixN n (1 : Int) = if 1 < n then some 1 else none := ixN_nat (i := 1)
@[simp ↓] theorem opX_cst (c : Cn) (t : WE) : opX (.cst c) t = wTm t := (rfl)
@[simp ↓] theorem opX_glb (c : Nat) (t : WE) : opX (.glb c) t = wTm t := (rfl)
@[simp ↓] theorem opX_tup (a : Ms) (t : WE) : opX (.tup a) t = wTm t := (rfl)
@[simp ↓] theorem opX_lst (a : Ms) (t : WE) : opX (.lst a) t = wTm t := (rfl)
@[simp ↓] theorem opX_bin (o : BO) (a b : M) (t : WE) : opX (.bin o a b) t = wTm t := (rfl)
@[simp ↓] theorem opX_cmp (o : CO) (a b : M) (t : WE) : opX (.cmp o a b) t = wTm t := (rfl)
@[simp ↓] theorem opX_neg (a : M) (t : WE) : opX (.neg a) t = wTm t := (rfl)
@[simp ↓] theorem opX_ix (a b : M) (t : WE) : opX (.ix a b) t = wTm t := (rfl)
@[simp ↓] theorem opX_cut (a : M) (b c : Mo) (t : WE) : opX (.cut a b c) t = wTm t := (rfl)
@[simp ↓] theorem opX_bf (f : BF) (a : Ms) (t : WE) : opX (.bf f a) t = wTm t := (rfl)
@[simp ↓] theorem opX_call (k : Nat) (a : As) (t : WE) : opX (.call k a) t = wTm t := (rfl)
@[simp ↓] theorem opX_callk (k : Nat) (a b : Ms) (t : WE) : opX (.callk k a b) t = wTm t := (rfl)
@[simp ↓] theorem opX_bop (c : Bool) (a : Ms) (t : WE) : opX (.bop c a) t = wTm t := (rfl)
@[simp ↓] theorem opX_not (a : M) (t : WE) : opX (.not a) t = wTm t := (rfl)
@[simp ↓] theorem opX_ifx (c : T) (a b : M) (t : WE) : opX (.ifx c a b) t = wTm t := (rfl)
@[simp ↓] theorem opX_lc (o : List (Str × Nat)) (i : I) (g : Tg) (c : T) (e : M) (t : WE) : opX (.lc o i g c e) t = wTm t := (rfl)
@[simp ↓] theorem x_wTm (t : WE) env P : wTm t env P = (t env fun val env1 => P (.tm val.d) env1) := (rfl)
@[simp ↓] theorem x_wXnil  env P : wXnil env P = (P [] env) := (rfl)
@[simp ↓] theorem x_wXcons (t : WX) (ts : WXs) env P : wXcons t ts env P = (t env fun o env1 => ts env1 fun os env2 => P (o :: os) env2) := (rfl)
@[simp ↓] theorem x_wC (d : D) env P : wC d env P = (P (fz d) env) := (rfl)
@[simp ↓] theorem x_wNotT (t : WT) env P : wNotT t env P = (t env fun b env1 => P (!b) env1) := (rfl)
@[simp ↓] theorem x_wAndT (t u : WT) env P : wAndT t u env P = (t env fun b env1 => if b then u env1 P else P false env1) := (rfl)
@[simp ↓] theorem x_wOrT (t u : WT) env P : wOrT t u env P = (t env fun b env1 => if b then P true env1 else u env1 P) := (rfl)
@[simp ↓] theorem x_wIf (c : WT) (t u : WE) env P : wIf c t u env P = (c env fun b env1 => if b then t env1 P else u env1 P) := (rfl)
@[simp ↓] theorem x_wLs (i : Nat) env P : wLs i env P = ((∃ x, env[i]? = some (some x)) ∧ P (.ls i) env) := (rfl)
@[simp ↓] theorem x_wOwn (t : WE) env P : wOwn t env P = (t env fun val env1 => P (.vl val) env1) := (rfl)
@[simp ↓] theorem x_wFro (t : WE) env P : wFro t env P = (t env fun val env1 => P (.vl (fz val.d)) env1) := (rfl)
@[simp ↓] theorem x_wAnil  env P : wAnil env P = (P [] env) := (rfl)
@[simp ↓] theorem x_wAcons (t : WA1) (ts : WAs) env P : wAcons t ts env P = (t env fun o env1 => ts env1 fun os env2 => P (o :: os) env2) := (rfl)
@[simp ↓] theorem x_gwName (i : Nat) val env P : gwName i val env P = (i < env.length ∧ P (env.set i (some val))) := (rfl)
@[simp ↓] theorem x_gwNil  ds env P : gwNil ds env P = (ds = [] ∧ P env) := (rfl)
@[simp ↓] theorem x_wsNil  env P : wsNil env P = (P .nx env) := (rfl)
@[simp ↓] theorem x_wsBk  env P : wsBk env P = (P .bk env) := (rfl)
@[simp ↓] theorem x_wsCt  env P : wsCt env P = (P .ct env) := (rfl)
@[simp ↓] theorem x_wsIf (c : WT) (t u : WS) env P : wsIf c t u env P = (c env fun b env1 => if b then t env1 P else u env1 P) := (rfl)
@[simp ↓] theorem x_wsAsg (t : WE) (g : WG) env P : wsAsg t g env P = (t env fun val env1 => g val env1 fun env2 => P .nx env2) := (rfl)
@[simp ↓] theorem x_wsExp (t : WE) env P : wsExp t env P = (t env fun _ env1 => P .nx env1) := (rfl)
@[simp ↓] theorem x_wsRet (t : WE) env P : wsRet t env P = (t env fun val env1 => P (.rt val) env1) := (rfl)
@[simp ↓] theorem x_wsRetN  env P : wsRetN env P = (P (.rt (fz .non)) env) := (rfl)
@[simp ↓] theorem x_wYes  env P : wYes env P = (P true env) := (rfl)
@[simp ↓] theorem x_wsPar (is : List Nat) (ts : WAs) env P : wsPar is ts env P = (ts env fun os env1 => ∃ xs, vls os = some xs ∧ xs.length = is.length ∧ (∀ i ∈ is, i < env1.length) ∧ P .nx (setAll env1 is (xs.map some))) := (rfl)
@[simp ↓] theorem x_wNoPart  env P : wNoPart env P = (P none env) := (rfl)
@[simp ↓] theorem x_wPart (t : WE) env P : wPart t env P = (t env fun val env1 => ∃ i, val.d = .int i ∧ P (some i) env1) := (rfl)
@[simp ↓] theorem x_56 {G : Gm} (c) : wM G (.cst c) = wC c.d := by rw [wM]
@[simp ↓] theorem x_57 {G : Gm} (i) : wM G (.var i) = wVar i := by rw [wM]
@[simp ↓] theorem x_58 {G : Gm} (a) : wM G (.tup a) = wTup (wFs G a) := by rw [wM]
@[simp ↓] theorem x_59 {G : Gm} (a) : wM G (.lst a) = wLst (wFs G a) := by rw [wM]
@[simp ↓] theorem x_60 {G : Gm} (o a b) : wM G (.bin o a b) = wBin o.s (opX a (wM G a)) (opX b (wM G b)) := by rw [wM]
@[simp ↓] theorem x_61 {G : Gm} (o a b) : wM G (.cmp o a b) = wBin o.s (opX a (wM G a)) (opX b (wM G b)) := by rw [wM]
@[simp ↓] theorem x_62 {G : Gm} (a) : wM G (.neg a) = wUn sNeg (opX a (wM G a)) := by rw [wM]
@[simp ↓] theorem x_63 {G : Gm} (a b) : wM G (.ix a b) = wBin sIxA (opX a (wM G a)) (opX b (wM G b)) := by rw [wM]
@[simp ↓] theorem x_64 {G : Gm} (a lo hi) : wM G (.cut a lo hi) = wCut (opX a (wM G a)) (wOo G lo) (wOo G hi) := by rw [wM]
@[simp ↓] theorem x_65 {G : Gm} (f a) : wM G (.bf f a) = wCall f.s (wXs G a) := by rw [wM]
@[simp ↓] theorem x_66 {G : Gm} (c a) : wM G (.bop c a) = wBo G c a := by rw [wM]
@[simp ↓] theorem x_67 {G : Gm} (a) : wM G (.not a) = wNotV (wM G a) := by rw [wM]
@[simp ↓] theorem x_68 {G : Gm} (c a b) : wM G (.ifx c a b) = wIf (wT G c) (wM G a) (wM G b) := by rw [wM]
@[simp ↓] theorem x_69 {G : Gm} (own it g c e) : wM G (.lc own it g c e) = wLc (wI G it) (own.map (·.2)) (gW g) (wT G c) (wM G e) := by rw [wM]
@[simp ↓] theorem x_lc2 {G : Gm} (own it g c vs1 it1 g1 c1 e) : wM G (.lc2 own it g c vs1 it1 g1 c1 e) = wLc2 (wI G it) (own.map (·.2)) (gW g) (wT G c) (wI G it1) vs1 (gW g1) (wT G c1) (wM G e) := by rw [wM]
@[simp ↓] theorem x_70 {G : Gm}  : wXs G .nil = wXnil := by rw [wXs]
@[simp ↓] theorem x_71 {G : Gm} (a r) : wXs G (.cons a r) = wXcons (opX a (wM G a)) (wXs G r) := by rw [wXs]
@[simp ↓] theorem x_72 {G : Gm}  : wFs G .nil = wXnil := by rw [wFs]
@[simp ↓] theorem x_73 {G : Gm} (a r) : wFs G (.cons a r) = wXcons (wTm (wM G a)) (wFs G r) := by rw [wFs]
@[simp ↓] theorem x_74 {G : Gm} (c a) : wBo G c (.cons a .nil) = wM G a := by rw [wBo]
@[simp ↓] theorem x_75 {G : Gm} (a b r) : wBo G true (.cons a (.cons b r)) = wAndV (wM G a) (wBo G true (.cons b r)) := by rw [wBo]; rfl; (intro h; cases h)
@[simp ↓] theorem x_76 {G : Gm} (a b r) : wBo G false (.cons a (.cons b r)) = wOrV (wM G a) (wBo G false (.cons b r)) := by rw [wBo]; rfl; (intro h; cases h)
@[simp ↓] theorem x_77 {G : Gm}  : wOo G .no = wNoPart := by rw [wOo]
@[simp ↓] theorem x_78 {G : Gm} (a) : wOo G (.so a) = wPart (wM G a) := by rw [wOo]
@[simp ↓] theorem x_79 {G : Gm}  : wAs G .nil = wAnil := by rw [wAs]
@[simp ↓] theorem x_80m {G : Gm} (i r) : wAs G (.mv i r) = wAcons (wMv i) (wAs G r) := by rw [wAs]
@[simp ↓] theorem x_80 {G : Gm} (i r) : wAs G (.lend i r) = wAcons (wLs i) (wAs G r) := by rw [wAs]
@[simp ↓] theorem x_81 {G : Gm} (a r) : wAs G (.own a r) = wAcons (wOwn (wM G a)) (wAs G r) := by rw [wAs]
@[simp ↓] theorem x_82 {G : Gm} (a r) : wAs G (.fro a r) = wAcons (wFro (wM G a)) (wAs G r) := by rw [wAs]
@[simp ↓] theorem x_83 {G : Gm}  : wT G .yes = wYes := by rw [wT]
@[simp ↓] theorem x_84 {G : Gm} (a) : wT G (.val a) = wTru (opX a (wM G a)) := by rw [wT]
@[simp ↓] theorem x_85 {G : Gm} (o a b) : wT G (.cmp o a b) = wTB (wBin o.s (opX a (wM G a)) (opX b (wM G b))) := by rw [wT]
@[simp ↓] theorem x_86 {G : Gm} (t) : wT G (.not t) = wNotT (wT G t) := by rw [wT]
@[simp ↓] theorem x_87 {G : Gm} (c t) : wT G (.bop c t) = wTs G c t := by rw [wT]
@[simp ↓] theorem x_88 {G : Gm} (c a) : wTs G c (.cons a .nil) = wT G a := by rw [wTs]
@[simp ↓] theorem x_89 {G : Gm} (a b r) : wTs G true (.cons a (.cons b r)) = wAndT (wT G a) (wTs G true (.cons b r)) := by rw [wTs]; rfl; (intro h; cases h)
@[simp ↓] theorem x_90 {G : Gm} (a b r) : wTs G false (.cons a (.cons b r)) = wOrT (wT G a) (wTs G false (.cons b r)) := by rw [wTs]; rfl; (intro h; cases h)
@[simp ↓] theorem x_91 {G : Gm} (a) : wI G (.seq a) = wiSeqA (wM G a) := by rw [wI]
@[simp ↓] theorem x_92 {G : Gm} (a) : wI G (.rng1 a) = wiRng1 (wXcons (wTm (wM G a)) wXnil) := by rw [wI]
@[simp ↓] theorem x_93 {G : Gm} (a b) : wI G (.rng2 a b) = wiRng2 (wXcons (wTm (wM G a)) (wXcons (wTm (wM G b)) wXnil)) := by rw [wI]
@[simp ↓] theorem x_94 {G : Gm} (a) : wI G (.enu a) = wiEnumA (wXcons (wTm (wM G a)) wXnil) := by rw [wI]
@[simp ↓] theorem x_95 {G : Gm} (a b) : wI G (.zip a b) = wiZipA (wXcons (wTm (wM G a)) (wXcons (wTm (wM G b)) wXnil)) := by rw [wI]
@[simp ↓] theorem x_keys {G : Gm} (i) : wI G (.keys i) = wiKeys i := by rw [wI]
@[simp ↓] theorem x_95s {G : Gm} (a b) : wI G (.zips a b) = wiZipS (wXcons (wTm (wM G a)) (wXcons (wTm (wM G b)) wXnil)) := by rw [wI]
@[simp ↓] theorem x_95c {G : Gm} (a b c) : wI G (.zip3 a b c) = wiZip3 (wXcons (wTm (wM G a)) (wXcons (wTm (wM G b)) (wXcons (wTm (wM G c)) wXnil))) := by rw [wI]
@[simp ↓] theorem x_96 {G : Gm} (g e) : wS G (.asg g e) = wsAsg (wM G e) (gW g) := by rw [wS]
@[simp ↓] theorem x_97 {G : Gm} (is a) : wS G (.par is a) = wsPar is (wAs G a) := by rw [wS]
@[simp ↓] theorem x_97T {G : Gm} (is a) : wS G (.parT is a) = wsPar is (wAs G a) := by rw [wS]
@[simp ↓] theorem x_98 {G : Gm} (i ix e) : wS G (.setI i ix e) = wsSetA i (wM G e) (wM G ix) := by rw [wS]
@[simp ↓] theorem x_99 {G : Gm} (i o e) : wS G (.aug i o e) = wsAug i o.sa (wM G e) := by rw [wS]
@[simp ↓] theorem x_100 {G : Gm} (i e) : wS G (.app i e) = wsApp i (wM G e) := by rw [wS]
@[simp ↓] theorem x_101 {G : Gm} (e) : wS G (.exp e) = wsExp (wM G e) := by rw [wS]
@[simp ↓] theorem x_102 {G : Gm} (c a b) : wS G (.iff c a b) = wsIf (wT G c) (wSs G a) (wSs G b) := by rw [wS]
@[simp ↓] theorem x_103 {G : Gm} (it g b) : wS G (.loop it g b) = wsFor (wI G it) (gW g) (wSs G b) := by rw [wS]
@[simp ↓] theorem x_104 {G : Gm} (e) : wS G (.ret e) = wsRet (wM G e) := by rw [wS]
@[simp ↓] theorem x_105 {G : Gm} (i) : wS G (.retv i) = wsRetV i := by rw [wS]
@[simp ↓] theorem x_106 {G : Gm}  : wS G .retn = wsRetN := by rw [wS]
@[simp ↓] theorem x_107 {G : Gm}  : wS G .brk = wsBk := by rw [wS]
@[simp ↓] theorem x_108 {G : Gm}  : wS G .cont = wsCt := by rw [wS]
@[simp ↓] theorem x_109 {G : Gm}  : wS G .pass = wsNil := by rw [wS]
@[simp ↓] theorem x_110 {G : Gm}  : wSs G .nil = wsNil := by rw [wSs]
@[simp ↓] theorem x_111 {G : Gm} (a r) : wSs G (.cons a r) = wsSeq (wS G a) (wSs G r) := by rw [wSs]
@[simp ↓] theorem x_115 (i) : gW (.name i) = gwName i := by rw [gW]
@[simp ↓] theorem x_116 (r) : gW (.tup r) = if gW.st r then gwTupS (gW.len r) (gW.gWs r) else gwTup (gW.len r) (gW.gWs r) := by rw [gW]
@[simp] theorem x_st0 : gW.st .nil = false := by rw [gW.st]
@[simp] theorem x_st1 (a r) : gW.st (.cons a r) = gW.st r := by rw [gW.st]
@[simp] theorem x_st2 (i) : gW.st (.star i) = true := by rw [gW.st]
@[simp ↓] theorem x_gws2 (i) : gW.gWs (.star i) = gwStL i := by rw [gW.gWs]
@[simp ↓] theorem x_gwl2 (i) : gW.len (.star i) = 0 := by rw [gW.len]
@[simp ↓] theorem x_117  : gW.gWs .nil = gwNil := by rw [gW.gWs]
@[simp ↓] theorem x_118 (a r) : gW.gWs (.cons a r) = gwCons (gW a) (gW.gWs r) := by rw [gW.gWs]
@[simp ↓] theorem x_119  : gW.len .nil = 0 := by rw [gW.len]
@[simp ↓] theorem x_120 (a r) : gW.len (.cons a r) = gW.len r + 1 := by rw [gW.len]
@[simp] theorem x_tr_n : truthD .non = some false := (rfl)
@[simp] theorem x_tr_b (b) : truthD (.bl b) = some b := (rfl)
@[simp] theorem x_tr_i (i) : truthD (.int i) = some (i != 0) := (rfl)
@[simp] theorem x_tr_l (xs) : truthD (.lst xs) = some (!xs.isEmpty) := (rfl)
@[simp] theorem x_tr_t (xs) : truthD (.tup xs) = some (!xs.isEmpty) := (rfl)
@[simp] theorem x_fl_n : flatD .non = true := (rfl)
@[simp] theorem x_fl_b (b) : flatD (.bl b) = true := (rfl)
@[simp] theorem x_fl_i (b) : flatD (.int b) = true := (rfl)
@[simp] theorem x_fl_s (b) : flatD (.str b) = true := (rfl)
@[simp] theorem x_nn_n : isNonD .non = true := (rfl)
@[simp] theorem x_nn_b (b) : isNonD (.bl b) = false := (rfl)
@[simp] theorem x_nn_i (b) : isNonD (.int b) = false := (rfl)
@[simp] theorem x_nn_s (b) : isNonD (.str b) = false := (rfl)
@[simp] theorem x_nn_l (b) : isNonD (.lst b) = false := (rfl)
@[simp] theorem x_nn_t (b) : isNonD (.tup b) = false := (rfl)
@[simp] theorem x_tms0 : tms [] = some [] := (rfl)
@[simp] theorem x_tms1 (d os) : tms (.tm d :: os) = (tms os).map (d :: ·) := (rfl)
@[simp] theorem x_res_t (env d) : Opd.res env (.tm d) = some d := (rfl)
@[simp] theorem x_ra0 (env) : resAll env [] = some [] := (rfl)
@[simp] theorem x_ld0 (env) : lendA env [] = some ([], env) := (rfl)
@[simp] theorem x_gv0 (env xs) : giveA env [] xs = env := by cases xs <;> rfl
@[simp] theorem x_gv1 (env i os x xs) : giveA env (.ls i :: os) (x :: xs) = giveA (env.set i (some x)) os xs := (rfl)
@[simp] theorem x_gv2 (env y os x xs) : giveA env (.vl y :: os) (x :: xs) = giveA env os xs := (rfl)
@[simp] theorem x_sa0 {α : Type} (l xs : List α) : setAll l [] xs = l := by cases xs <;> rfl
@[simp] theorem x_sa1 {α : Type} (l xs : List α) (i is x) : setAll l (i :: is) (x :: xs) = setAll (l.set i x) is xs := (rfl)
@[simp] theorem x_vl0 : vls [] = some [] := (rfl)
@[simp] theorem x_vl1 (x os) : vls (.vl x :: os) = (vls os).map (x :: ·) := (rfl)
@[simp] theorem x_cn0 : Cn.d .non = .non := (rfl)
@[simp] theorem x_cn1 (b) : Cn.d (.bl b) = .bl b := (rfl)
@[simp] theorem x_cn2 (b) : Cn.d (.int b) = .int b := (rfl)
@[simp] theorem x_cn3 (b) : Cn.d (.str b) = .str b := (rfl)
@[simp] theorem x_bo_add : BO.s .add = sAdd := (rfl)
@[simp] theorem x_bo_sub : BO.s .sub = sSub := (rfl)
@[simp] theorem x_bo_mul : BO.s .mul = sMulA := (rfl)
@[simp] theorem x_bo_div : BO.s .div = sDivA := (rfl)
@[simp] theorem x_bo_mod : BO.s .mod = sMod := (rfl)
@[simp] theorem x_bo_pow : BO.s .pow = sPow := (rfl)
@[simp] theorem x_ba_add : BO.sa .add = sAddI := (rfl)
@[simp] theorem x_ba_sub : BO.sa .sub = sSub := (rfl)
@[simp] theorem x_ba_mul : BO.sa .mul = sMul := (rfl)
@[simp] theorem x_ba_div : BO.sa .div = sDivA := (rfl)
@[simp] theorem x_ba_mod : BO.sa .mod = sMod := (rfl)
@[simp] theorem x_co_lt : CO.s .lt = sLt := (rfl)
@[simp] theorem x_co_le : CO.s .le = sLeS := (rfl)
@[simp] theorem x_co_gt : CO.s .gt = sGt := (rfl)
@[simp] theorem x_co_ge : CO.s .ge = sGe := (rfl)
@[simp] theorem x_co_eq : CO.s .eq = sEq false := (rfl)
@[simp] theorem x_co_ne : CO.s .ne = sEq true := (rfl)
@[simp] theorem x_co_is : CO.s .is = sIsX false := (rfl)
@[simp] theorem x_co_isnot : CO.s .isnot = sIsX true := (rfl)
@[simp] theorem x_co_isin : CO.s .isin = sInB false := (rfl)
@[simp] theorem x_co_notin : CO.s .notin = sInB true := (rfl)
@[simp] theorem x_bf_len : BF.s .len = sLen := (rfl)
@[simp] theorem x_bf_abs : BF.s .abs = sAbs := (rfl)
@[simp] theorem x_bf_int : BF.s .int = sIntOf := (rfl)
@[simp] theorem x_bf_list : BF.s .list = sList := (rfl)
@[simp] theorem x_bf_tuple : BF.s .tuple = sTuple := (rfl)
@[simp] theorem x_bf_all : BF.s .all = sAll := (rfl)
@[simp] theorem x_bf_any : BF.s .any = sAny := (rfl)
@[simp] theorem x_bf_repr : BF.s .repr = sRepr := (rfl)
@[simp] theorem x_wip0 (env) : wipeD env [] = env := (rfl)
@[simp] theorem x_wip1 (env v vs) : wipeD env (v :: vs) = (wipeD env vs).set v none := (rfl)
@[simp] theorem x_bk0 (env0 env) : backD env0 env [] = env := (rfl)
@[simp] theorem x_bk1 (env0 env v vs) : backD env0 env (v :: vs) = backD env0 (env.set v (((wipeD env0 vs)[v]?).getD none)) vs := (rfl)
@[simp ↓] theorem x_env0 (N args) : env0 N args = args.map some ++ List.replicate (N.length - args.length) none := (rfl)
@[simp ↓] theorem x_ea0 (n P env) : endA n P .nx env = FinA n env (P (fz .non)) := (rfl)
@[simp ↓] theorem x_ea1 (n P v env) : endA n P (.rt v) env = FinA n env (P v) := (rfl)
@[simp ↓] theorem x_eb0 (a P env) : endB a P .nx env = P (fz .non) a := (rfl)
@[simp ↓] theorem x_eb1 (a P v env) : endB a P (.rt v) env = P v a := (rfl)
@[simp] theorem x_oa0 : outA [] = some [] := (rfl)
@[simp] theorem x_oa1 (x r) : outA (some x :: r) = (outA r).map (x :: ·) := by show (match outA r with | some l => some (x :: l) | none => none) = _; cases outA r <;> rfl
@[simp] theorem x_pick0 {α : Type} (d : α) (l) : pick d [] l = [] := (rfl)
@[simp] theorem x_pick1 {α : Type} (d : α) (i is) (l : List α) : pick d (i :: is) l = l.getD i d :: pick d is l := (rfl)
@[simp ↓] theorem x_wsSeq (t u env P) : wsSeq t u env P = t env (fun o env1 => match o with | .nx => u env1 P | o => P o env1) := (rfl)
@[simp] theorem x_pu0 : pure' .non = true := (rfl)
@[simp] theorem x_pu1 (b) : pure' (.bl b) = true := (rfl)
@[simp] theorem x_pu2 (b) : pure' (.int b) = true := (rfl)
@[simp] theorem x_pu3 (b) : pure' (.str b) = true := (rfl)
@[simp] theorem x_pu4 (b) : pure' (.lst b) = pures b := (rfl)
@[simp] theorem x_pu5 (b) : pure' (.tup b) = pures b := (rfl)
@[simp] theorem x_pus0 : pures [] = true := (rfl)
@[simp] theorem x_pus1 (x xs) : pures (x :: xs) = (pure' x && pures xs) := (rfl)
/-- what follows, out of sight of simp -/
class Kt (α : Type) where
  run : α → Prop
def onB (d : D) [k : Kt Bool] : Prop := match d with
  | .bl b => k.run b
  | _ => False
def onS {α : Type} (o : Option α) [k : Kt α] : Prop := match o with
  | some x => k.run x
  | none => False
def onSS {α : Type} (o : Option (Option α)) [k : Kt α] : Prop := match o with
  | some (some x) => k.run x
  | _ => False
def op2 (s : S2) (x y : D) [k : Kt Val] : Prop := s x y k.run
def op1 (s : S1) (x : D) [k : Kt Val] : Prop := s x k.run
def opN (s : SN) (x : List D) [k : Kt Val] : Prop := s x k.run
def opD (t : DSpec) (x : List Val) [k : Kt (Val × List Val)] : Prop := t x fun v xs => k.run (v, xs)
def lcK (vs : List Nat) (g : WG) (tt : WT) (te : WE) (ds : List D) (acc : List D) (env : EnvD) [k : Kt (List D × EnvD)] : Prop := lcD vs g tt te ds acc env fun a e => k.run (a, e)
def lcOK (vs : List Nat) (g : WG) (tt : WT) (it1 : WI) (vs1 : List Nat) (g1 : WG) (tt1 : WT) (te : WE) (ds : List D) (acc : List D) (env : EnvD) [k : Kt (List D × EnvD)] : Prop := lcO vs g tt it1 vs1 g1 tt1 te ds acc env fun a e => k.run (a, e)
def forK (g : WG) (body : WS) (ds : List D) (env : EnvD) [k : Kt (Out × EnvD)] : Prop := forD g body ds env fun a e => k.run (a, e)
@[simp] theorem onB_bl (b k) : @onB (.bl b) k = k.run b := (rfl)
@[simp] theorem onS_some {α : Type} (b : α) (k) : @onS α (some b) k = k.run b := (rfl)
@[simp] theorem onSS_some {α : Type} (b : α) (k) : @onSS α (some (some b)) k = k.run b := (rfl)
theorem onB_eq (d : D) (k : Bool → Prop) : (∃ b, d = .bl b ∧ k b) = @onB d ⟨k⟩ := by
  cases d with
  | bl b => exact propext ⟨fun ⟨c, e, q⟩ => by cases e; exact q, fun q => ⟨b, rfl, q⟩⟩
  | _ => exact propext ⟨fun ⟨c, e, q⟩ => (by cases e), fun q => (show False from q).elim⟩
theorem onS_eq {α : Type} (o : Option α) (k : α → Prop) : (∃ b, o = some b ∧ k b) = @onS α o ⟨k⟩ := by
  cases o with
  | some b => exact propext ⟨fun ⟨c, e, q⟩ => by cases e; exact q, fun q => ⟨b, rfl, q⟩⟩
  | none => exact propext ⟨fun ⟨c, e, q⟩ => (by cases e), fun q => (show False from q).elim⟩
theorem onSS_eq {α : Type} (o : Option (Option α)) (k : α → Prop) : (∃ b, o = some (some b) ∧ k b) = @onSS α o ⟨k⟩ := by
  cases o with
  | some b => cases b with
    | some b => exact propext ⟨fun ⟨c, e, q⟩ => (by cases e; exact q), fun q => ⟨b, rfl, q⟩⟩
    | none => exact propext ⟨fun ⟨c, e, q⟩ => (by cases e), fun q => (show False from q).elim⟩
  | none => exact propext ⟨fun ⟨c, e, q⟩ => (by cases e), fun q => (show False from q).elim⟩
theorem onS_el {α : Type} {o : Option α} {k : Kt α} (h : @onS α o k) : ∃ x, o = some x ∧ k.run x := by
  cases o with
  | some x => exact ⟨x, rfl, h⟩
  | none => exact (show False from h).elim
theorem ex2 {α β : Type} {p : α → Prop} {q : β → Prop} {r : α → β → Prop} : (∃ x y, p x ∧ q y ∧ r x y) = ∃ x, p x ∧ ∃ y, q y ∧ r x y :=
  propext ⟨fun ⟨x, y, a, b, c⟩ => ⟨x, a, y, b, c⟩, fun ⟨x, a, y, b, c⟩ => ⟨x, y, a, b, c⟩⟩

def onL (x : Val) [k : Kt (List D)] : Prop := match x with
  | ⟨true, .lst ds⟩ => k.run ds
  | _ => False
def onI (d : D) [k : Kt Int] : Prop := match d with
  | .int i => k.run i
  | _ => False
@[simp] theorem onL_l (ds k) : @onL ⟨true, .lst ds⟩ k = k.run ds := (rfl)
@[simp] theorem onI_i (i k) : @onI (.int i) k = k.run i := (rfl)
theorem onL_eq (x : Val) (k : List D → Prop) : (∃ ds, x = ⟨true, .lst ds⟩ ∧ k ds) = @onL x ⟨k⟩ := by
  obtain ⟨o, d⟩ := x
  cases o <;> cases d <;> first
    | exact propext ⟨fun ⟨c, e, q⟩ => (by cases e; exact q), fun q => ⟨_, rfl, q⟩⟩
    | exact propext ⟨fun ⟨c, e, q⟩ => (by cases e), fun q => (show False from q).elim⟩
theorem onI_eq (x : D) (k : Int → Prop) : (∃ ds, x = .int ds ∧ k ds) = @onI x ⟨k⟩ := by
  cases x <;> first
    | exact propext ⟨fun ⟨c, e, q⟩ => (by cases e; exact q), fun q => ⟨_, rfl, q⟩⟩
    | exact propext ⟨fun ⟨c, e, q⟩ => (by cases e), fun q => (show False from q).elim⟩
theorem onSL_eq {o : Option (Option Val)} {k : List D → Prop} : (∃ ds, o = some (some ⟨true, .lst ds⟩) ∧ k ds) = @onSS _ o ⟨fun x => @onL x ⟨k⟩⟩ := by
  rw [← onSS_eq]
  simp only [← onL_eq]
  exact propext ⟨fun ⟨ds, h, q⟩ => ⟨_, h, ds, rfl, q⟩, fun ⟨x, h, ds, e, q⟩ => ⟨ds, by rw [h, e], q⟩⟩
@[simp ↓] theorem x_wVar (i env P) : wVar i env P = @onSS _ env[i]? ⟨fun x => P (fz x.d) (env.set i (some (fz x.d)))⟩ := by unfold wVar; rw [onSS_eq]
@[simp ↓] theorem x_wVarX (i env P) : wVarX i env P = @onSS _ env[i]? ⟨fun _ => P (.sl i) env⟩ := by
  unfold wVarX; rw [← onSS_eq]; exact propext ⟨fun ⟨⟨x, h⟩, p⟩ => ⟨x, h, p⟩, fun ⟨x, h, p⟩ => ⟨⟨x, h⟩, p⟩⟩
@[simp ↓] theorem x_wBin (s ta tb env P) : wBin s ta tb env P = ta env fun oa env1 => tb env1 fun ob env2 => @onS _ (oa.res env2) ⟨fun x => @onS _ (ob.res env2) ⟨fun y => @op2 s x y ⟨fun val => P val env2⟩⟩⟩ := by
  unfold wBin op2; simp only [ex2, onS_eq]
@[simp ↓] theorem x_wUn (s ta env P) : wUn s ta env P = ta env fun oa env1 => @onS _ (oa.res env1) ⟨fun x => @op1 s x ⟨fun val => P val env1⟩⟩ := by unfold wUn op1; simp only [onS_eq]
@[simp ↓] theorem x_wCall (s ts env P) : wCall s ts env P = ts env fun os env1 => @onS _ (resAll env1 os) ⟨fun ds => @opN s ds ⟨fun val => P val env1⟩⟩ := by unfold wCall opN; simp only [onS_eq]
@[simp ↓] theorem x_wCut (ta tl th env P) : wCut ta tl th env P = ta env fun oa env1 => tl env1 fun lo env2 => th env2 fun hi env3 => @onS _ (oa.res env3) ⟨fun x => @op1 (sCut lo hi) x ⟨fun val => P val env3⟩⟩ := by unfold wCut op1; simp only [onS_eq]
@[simp ↓] theorem x_wLst (ts env P) : wLst ts env P = ts env fun os env1 => @onS _ (tms os) ⟨fun ds => ds.length ≤ 16777216 ∧ P ⟨true, .lst ds⟩ env1⟩ := by unfold wLst; simp only [onS_eq]
@[simp ↓] theorem x_wTup (ts env P) : wTup ts env P = ts env fun os env1 => @onS _ (tms os) ⟨fun ds => ds.length ≤ 16777216 ∧ P (fz (.tup ds)) env1⟩ := by unfold wTup; simp only [onS_eq]
@[simp ↓] theorem x_wCallF (n t ts env P) : wCallF n t ts env P = ts env fun os env1 => @onS _ (lendA env1 os) ⟨fun r => os.length = n ∧ @opD t r.1 ⟨fun p => P p.1 (giveA r.2 os p.2)⟩⟩ := by unfold wCallF opD; simp only [onS_eq]
@[simp ↓] theorem x_wCallK (n npos nk perm dD t tp tk env P) : wCallK n npos nk perm dD t tp tk env P = tp env fun os env1 => tk env1 fun os2 env2 => @onS _ (tms os) ⟨fun ds => @onS _ (tms os2) ⟨fun es => ds.length = npos ∧ es.length = nk ∧ perm.length = n ∧ @opD t ((pick .non perm (ds ++ (es ++ dD))).map fz) ⟨fun p => P p.1 env2⟩⟩⟩ := by
  unfold wCallK opD; simp only [ex2, onS_eq]
@[simp ↓] theorem x_wsRetV (i env P) : wsRetV i env P = @onSS _ env[i]? ⟨fun x => P (.rt x) (env.set i none)⟩ := by unfold wsRetV; rw [onSS_eq]
@[simp ↓] theorem x_wsAug (i s te env P) : wsAug i s te env P = @onSS _ env[i]? ⟨fun _ => te env fun val env1 => @onSS _ env1[i]? ⟨fun x => @op2 s x.d val.d ⟨fun z => P .nx (env1.set i (some z))⟩⟩⟩ := by
  unfold wsAug op2; simp only [onSS_eq]
  rw [← onSS_eq]; exact propext ⟨fun ⟨⟨x, h⟩, p⟩ => ⟨x, h, p⟩, fun ⟨x, h, p⟩ => ⟨⟨x, h⟩, p⟩⟩
@[simp ↓] theorem x_fin (n env Q) : FinA n env Q = @onS _ (outA (env.take n)) ⟨Q⟩ := by unfold FinA; rw [onS_eq]
@[simp ↓] theorem x_wTB (t env P) : wTB t env P = t env (fun val env1 => @onB val.d ⟨fun b => P b env1⟩) := by
  unfold wTB; simp only [onB_eq]
@[simp ↓] theorem x_wTru (t env P) : wTru t env P = t env (fun o env1 => @onS _ (o.res env1) ⟨fun d => @onS _ (truthD d) ⟨fun b => P b env1⟩⟩) := by
  unfold wTru
  congr 1; funext o env1
  rw [← onS_eq]
  simp only [← onS_eq]
  exact propext ⟨fun ⟨d, b, h1, h2, h3⟩ => ⟨d, h1, b, h2, h3⟩, fun ⟨d, h1, b, h2, h3⟩ => ⟨d, b, h1, h2, h3⟩⟩
@[simp ↓] theorem x_wAndV (t u env P) : wAndV t u env P = t env (fun val env1 => @onS _ (truthD val.d) ⟨fun b => if b then u env1 P else P val env1⟩) := by
  unfold wAndV; simp only [onS_eq]
@[simp ↓] theorem x_wOrV (t u env P) : wOrV t u env P = t env (fun val env1 => @onS _ (truthD val.d) ⟨fun b => if b then P val env1 else u env1 P⟩) := by
  unfold wOrV; simp only [onS_eq]
@[simp ↓] theorem x_wNotV (t env P) : wNotV t env P = t env (fun val env1 => @onS _ (truthD val.d) ⟨fun b => P (fz (.bl (!b))) env1⟩) := by
  unfold wNotV; simp only [onS_eq]
@[simp ↓] theorem x_wLc (it vs g tt te env P) : wLc it vs g tt te env P = it env fun ds env1 => @lcK vs g tt te ds [] (wipeD env1 vs) ⟨fun p => P ⟨true, .lst p.1⟩ (backD env1 p.2 vs)⟩ := (rfl)
@[simp ↓] theorem x_wLc2 (it vs g tt it1 vs1 g1 tt1 te env P) : wLc2 it vs g tt it1 vs1 g1 tt1 te env P = it env fun ds env1 => @lcOK vs g tt it1 vs1 g1 tt1 te ds [] (wipeD env1 vs) ⟨fun p => P ⟨true, .lst p.1⟩ (backD env1 p.2 vs)⟩ := (rfl)
@[simp ↓] theorem x_wsFor (it g body env P) : wsFor it g body env P = it env fun ds env1 => @forK g body ds env1 ⟨fun p => P p.1 p.2⟩ := (rfl)
@[simp ↓] theorem x_wsApp (i te env P) : wsApp i te env P = @onSS _ env[i]? ⟨fun x => @onL x ⟨fun _ => te env fun val env1 => @onSS _ env1[i]? ⟨fun x => @onL x ⟨fun ds => ds.length < 16777216 ∧ P .nx (env1.set i (some ⟨true, .lst (ds ++ [val.d])⟩))⟩⟩⟩⟩ := by
  unfold wsApp; simp only [onSL_eq]; rw [← onSL_eq]
  exact propext ⟨fun ⟨⟨ds, h⟩, p⟩ => ⟨ds, h, p⟩, fun ⟨ds, h, p⟩ => ⟨⟨ds, h⟩, p⟩⟩
@[simp ↓] theorem x_wsSetI (i tv ti env P) : wsSetI i tv ti env P = tv env fun val env1 => @onSS _ env1[i]? ⟨fun _ => ti env1 fun iv env2 => @onSS _ env2[i]? ⟨fun x => @onL x ⟨fun ds => @onI iv.d ⟨fun j => @onS _ (ixN ds.length j) ⟨fun k => P .nx (env2.set i (some ⟨true, .lst (ds.set k val.d)⟩))⟩⟩⟩⟩⟩ := by
  unfold wsSetI
  congr 1; funext val env1
  rw [← onSS_eq]
  have : ∀ (iv : Val) (env2 : EnvD), (∃ (ds : List D) (j : Int) (k : Nat), env2[i]? = some (some ⟨true, .lst ds⟩) ∧ iv.d = .int j ∧ ixN ds.length j = some k ∧ P .nx (env2.set i (some ⟨true, .lst (ds.set k val.d)⟩))) =
      @onSS _ env2[i]? ⟨fun x => @onL x ⟨fun ds => @onI iv.d ⟨fun j => @onS _ (ixN ds.length j) ⟨fun k => P .nx (env2.set i (some ⟨true, .lst (ds.set k val.d)⟩))⟩⟩⟩⟩ := by
    intro iv env2
    rw [← onSL_eq]
    simp only [← onI_eq, ← onS_eq]
    exact propext ⟨fun ⟨ds, j, k, a, b, c, d⟩ => ⟨ds, a, j, b, k, c, d⟩, fun ⟨ds, a, j, b, k, c, d⟩ => ⟨ds, j, k, a, b, c, d⟩⟩
  simp only [this]
  exact propext ⟨fun ⟨⟨ds, h⟩, p⟩ => ⟨ds, h, p⟩, fun ⟨ds, h, p⟩ => ⟨⟨ds, h⟩, p⟩⟩
def stA (x : Val) (i v : D) [k : Kt Val] : Prop := match x with
  | ⟨true, .lst ds⟩ => @onI i ⟨fun j => @onS _ (ixN ds.length j) ⟨fun n => k.run ⟨true, .lst (ds.set n v)⟩⟩⟩
  | ⟨true, .dic ks ds⟩ => @onS _ (keyU i) ⟨fun key => ks.length < 16777216 ∧ k.run ⟨true, .dic (dput ks ds key v).1 (dput ks ds key v).2⟩⟩
  | _ => False
@[simp] theorem stA_l (ds i v k) : @stA ⟨true, .lst ds⟩ i v k = @onI i ⟨fun j => @onS _ (ixN ds.length j) ⟨fun n => k.run ⟨true, .lst (ds.set n v)⟩⟩⟩ := (rfl)
@[simp] theorem stA_d (ks ds i v k) : @stA ⟨true, .dic ks ds⟩ i v k = @onS _ (keyU i) ⟨fun key => ks.length < 16777216 ∧ k.run ⟨true, .dic (dput ks ds key v).1 (dput ks ds key v).2⟩⟩ := (rfl)
theorem stA_eq (o : Option (Option Val)) (i v : D) (Pn : Val → Prop) :
    ((∃ ds j k, o = some (some ⟨true, .lst ds⟩) ∧ i = .int j ∧ ixN ds.length j = some k ∧ Pn ⟨true, .lst (ds.set k v)⟩) ∨
      ∃ ks ds k, o = some (some ⟨true, .dic ks ds⟩) ∧ keyU i = some k ∧ ks.length < 16777216 ∧ Pn ⟨true, .dic (dput ks ds k v).1 (dput ks ds k v).2⟩) = @onSS _ o ⟨fun x => @stA x i v ⟨Pn⟩⟩ := by
  rw [← onSS_eq]
  refine propext ⟨fun h => ?_, fun ⟨x, e, h⟩ => ?_⟩
  · rcases h with ⟨ds, j, k, a, b, c, d⟩ | ⟨ks, ds, k, a, b, c, d⟩
    · refine ⟨_, a, ?_⟩
      rw [stA_l, ← onI_eq]; simp only [← onS_eq]
      exact ⟨j, b, k, c, d⟩
    · refine ⟨_, a, ?_⟩
      rw [stA_d, ← onS_eq]
      exact ⟨k, b, c, d⟩
  · unfold stA at h
    split at h
    · rw [← onI_eq] at h; simp only [← onS_eq] at h
      obtain ⟨j, b, k, c, d⟩ := h
      exact .inl ⟨_, j, k, e, b, c, d⟩
    · rw [← onS_eq] at h
      obtain ⟨k, b, c, d⟩ := h
      exact .inr ⟨_, _, k, e, b, c, d⟩
    · exact h.elim
@[simp ↓] theorem x_wsSetA (i tv ti env P) : wsSetA i tv ti env P = tv env fun val env1 => @onSS _ env1[i]? ⟨fun _ => ti env1 fun iv env2 => @onSS _ env2[i]? ⟨fun x => @stA x iv.d val.d ⟨fun nv => P .nx (env2.set i (some nv))⟩⟩⟩ := by
  unfold wsSetA
  congr 1; funext val env1
  rw [← onSS_eq]
  have : ∀ (iv : Val) (env2 : EnvD), _ = _ := fun iv env2 => stA_eq env2[i]? iv.d val.d fun nv => P .nx (env2.set i (some nv))
  simp only [this]
  exact propext ⟨fun ⟨⟨ds, h⟩, p⟩ => ⟨ds, h, p⟩, fun ⟨ds, h, p⟩ => ⟨⟨ds, h⟩, p⟩⟩
def onDic (d : D) [k : Kt (List D × List D)] : Prop := match d with
  | .dic ks ds => k.run (ks, ds)
  | _ => False
@[simp] theorem onDic_d (ks ds k) : @onDic (.dic ks ds) k = k.run (ks, ds) := (rfl)
theorem onDic_eq (o : Option D) (k : List D × List D → Prop) : (∃ ks ds, o = some (.dic ks ds) ∧ k (ks, ds)) = @onS _ o ⟨fun d => @onDic d ⟨k⟩⟩ := by
  rw [← onS_eq]
  refine propext ⟨fun ⟨ks, ds, e, q⟩ => ⟨_, e, q⟩, fun ⟨d, e, q⟩ => ?_⟩
  cases d with
  | dic ks ds => exact ⟨ks, ds, e, q⟩
  | _ => exact (show False from q).elim
@[simp ↓] theorem x_wDget1 (ta ty env P) : wDget1 ta ty env P = ta env fun oa env1 => @onS _ (oa.res env1) ⟨fun d => @onDic d ⟨fun _ => ty env1 fun ob env2 => @onS _ (oa.res env2) ⟨fun d => @onDic d ⟨fun p => @onS _ (ob.res env2) ⟨fun y => @onS _ (keyU y) ⟨fun k =>
    P (fz ((dget p.1 p.2 k).getD .non)) env2⟩⟩⟩⟩⟩⟩ := by
  unfold wDget1
  congr 1; funext oa env1
  rw [← onDic_eq]
  have : ∀ (ob : Opd) (env2 : EnvD), (∃ (ks ds : List D) (y : D) (k : Key), oa.res env2 = some (.dic ks ds) ∧ ob.res env2 = some y ∧ keyU y = some k ∧ P (fz ((dget ks ds k).getD .non)) env2) =
      @onS _ (oa.res env2) ⟨fun d => @onDic d ⟨fun p => @onS _ (ob.res env2) ⟨fun y => @onS _ (keyU y) ⟨fun k => P (fz ((dget p.1 p.2 k).getD .non)) env2⟩⟩⟩⟩ := by
    intro ob env2
    rw [← onDic_eq]
    simp only [← onS_eq]
    exact propext ⟨fun ⟨ks, ds, y, k, a, b, c, d⟩ => ⟨ks, ds, a, y, b, k, c, d⟩, fun ⟨ks, ds, a, y, b, k, c, d⟩ => ⟨ks, ds, y, k, a, b, c, d⟩⟩
  simp only [this]
  exact propext ⟨fun ⟨⟨ks, ds, h⟩, p⟩ => ⟨ks, ds, h, p⟩, fun ⟨ks, ds, h, p⟩ => ⟨⟨ks, ds, h⟩, p⟩⟩
@[simp ↓] theorem x_wDget2 (ta ty tx env P) : wDget2 ta ty tx env P = ta env fun oa env1 => @onS _ (oa.res env1) ⟨fun d => @onDic d ⟨fun _ => ty env1 fun ob env2 => tx env2 fun oc env3 => @onS _ (oa.res env3) ⟨fun d => @onDic d ⟨fun p => @onS _ (ob.res env3) ⟨fun y =>
    @onS _ (oc.res env3) ⟨fun z => @onS _ (keyU y) ⟨fun k => plainD z = true ∧ P (fz ((dget p.1 p.2 k).getD z)) env3⟩⟩⟩⟩⟩⟩⟩ := by
  unfold wDget2
  congr 1; funext oa env1
  rw [← onDic_eq]
  have : ∀ (ob oc : Opd) (env3 : EnvD), (∃ (ks ds : List D) (y z : D) (k : Key), oa.res env3 = some (.dic ks ds) ∧ ob.res env3 = some y ∧ oc.res env3 = some z ∧ keyU y = some k ∧ plainD z = true ∧ P (fz ((dget ks ds k).getD z)) env3) =
      @onS _ (oa.res env3) ⟨fun d => @onDic d ⟨fun p => @onS _ (ob.res env3) ⟨fun y => @onS _ (oc.res env3) ⟨fun z => @onS _ (keyU y) ⟨fun k => plainD z = true ∧ P (fz ((dget p.1 p.2 k).getD z)) env3⟩⟩⟩⟩⟩ := by
    intro ob oc env3
    rw [← onDic_eq]
    simp only [← onS_eq]
    exact propext ⟨fun ⟨ks, ds, y, z, k, a, b, c, d, e⟩ => ⟨ks, ds, a, y, b, z, c, k, d, e⟩, fun ⟨ks, ds, a, y, b, z, c, k, d, e⟩ => ⟨ks, ds, y, z, k, a, b, c, d, e⟩⟩
  simp only [this]
  exact propext ⟨fun ⟨⟨ks, ds, h⟩, p⟩ => ⟨ks, ds, h, p⟩, fun ⟨ks, ds, h, p⟩ => ⟨⟨ks, ds, h⟩, p⟩⟩
@[simp] theorem plainD_n : plainD .non = true := (rfl)
@[simp] theorem plainD_b (b) : plainD (.bl b) = true := (rfl)
@[simp] theorem plainD_i (b) : plainD (.int b) = true := (rfl)
@[simp] theorem plainD_s (b) : plainD (.str b) = true := (rfl)
@[simp] theorem plainD_t (b) : plainD (.tup b) = true := (rfl)
@[simp ↓] theorem x_glb {G : Gm} (k env P) : wM G (.glb k) env P = @onS _ G.cs[k]? ⟨fun d => wC d env P⟩ := by
  unfold wM; cases G.cs[k]? <;> rfl
@[simp ↓] theorem x_call {G : Gm} (k a env P) : wM G (.call k a) env P = @onS _ G.fs[k]? ⟨fun f => wCallF f.n f.t (wAs G a) env P⟩ := by
  unfold wM; cases G.fs[k]? <;> rfl
@[simp ↓] theorem x_callk {G : Gm} (k p q env P) : wM G (.callk k p q) env P = @onS _ G.kw[k]? ⟨fun f => wCallK f.n f.npos f.nk f.perm f.dD f.t (wFs G p) (wFs G q) env P⟩ := by
  unfold wM; cases G.kw[k]? <;> rfl
@[simp] theorem x_res_s (env i) : Opd.res env (.sl i) = (env[i]?).bind fun o => o.map (·.d) := by
  show (match env[i]? with | some (some x) => some x.d | _ => none) = _
  cases env[i]? with
  | none => rfl
  | some o => cases o <;> rfl
@[simp] theorem x_ra1 (env o os) : resAll env (o :: os) = (o.res env).bind fun d => (resAll env os).map (d :: ·) := by
  show (match o.res env, resAll env os with | some d, some ds => some (d :: ds) | _, _ => none) = _
  cases o.res env <;> cases resAll env os <;> rfl
@[simp] theorem x_ld1 (env x os) : lendA env (.vl x :: os) = (lendA env os).map fun r => (x :: r.1, r.2) := by
  show (match lendA env os with | some r => some (x :: r.1, r.2) | none => none) = _
  cases lendA env os <;> rfl
@[simp] theorem x_ld2 (env i os) : lendA env (.ls i :: os) = (env[i]?).bind fun o => o.bind fun x => (lendA (env.set i none) os).map fun r => (x :: r.1, r.2) := by
  show (match env[i]? with | some (some x) => (match lendA (env.set i none) os with | some r => some (x :: r.1, r.2) | none => none) | _ => none) = _
  cases env[i]? with
  | none => rfl
  | some o => cases o with
    | none => rfl
    | some x => cases h : lendA (env.set i none) os <;> simp


def onC (ds : List D) [k : Kt (D × List D)] : Prop := match ds with
  | d :: r => k.run (d, r)
  | [] => False
def onQ (d : D) [k : Kt (List D)] : Prop := match d with
  | .lst ds => k.run ds
  | .tup ds => k.run ds
  | _ => False
@[simp] theorem onC_c (d r k) : @onC (d :: r) k = k.run (d, r) := (rfl)
@[simp] theorem onQ_l (d k) : @onQ (.lst d) k = k.run d := (rfl)
@[simp] theorem onQ_t (d k) : @onQ (.tup d) k = k.run d := (rfl)
theorem onQ_el {d : D} {k : Kt (List D)} (h : @onQ d k) : ∃ ds, (d = .lst ds ∨ d = .tup ds) ∧ k.run ds := by
  cases d with
  | lst ds => exact ⟨ds, .inl rfl, h⟩
  | tup ds => exact ⟨ds, .inr rfl, h⟩
  | _ => exact (show False from h).elim
@[simp ↓] theorem x_gwCons (g gs ds env P) : gwCons g gs ds env P = @onC ds ⟨fun p => g (fz p.1) env fun env1 => gs p.2 env1 P⟩ := by
  cases ds with
  | nil => exact propext ⟨fun ⟨d, r, e, _⟩ => (by cases e), fun q => (show False from q).elim⟩
  | cons d r => exact propext ⟨fun ⟨d', r', e, q⟩ => (by cases e; exact q), fun q => ⟨d, r, rfl, q⟩⟩
def onU (d : D) [k : Kt (List D)] : Prop := match d with
  | .lst ds => k.run ds
  | .tup ds => k.run ds
  | .lse ds => k.run ds
  | _ => False
@[simp] theorem onU_l (d k) : @onU (.lst d) k = k.run d := (rfl)
@[simp] theorem onU_t (d k) : @onU (.tup d) k = k.run d := (rfl)
@[simp] theorem onU_e (d k) : @onU (.lse d) k = k.run d := (rfl)
@[simp ↓] theorem x_gwTup (n g val env P) : gwTup n g val env P = @onU val.d ⟨fun ds => ds.length = n ∧ g ds env P⟩ := by
  obtain ⟨o, d⟩ := val
  unfold gwTup
  cases d <;> first
    | exact propext ⟨fun ⟨d', e, q⟩ => (by rcases e with e | e | e <;> cases e; exact q), fun q => ⟨_, by simp, q⟩⟩
    | exact propext ⟨fun ⟨d', e, q⟩ => (by rcases e with e | e | e <;> cases e), fun q => (show False from q).elim⟩
def onW (d : D) [k : Kt (List D)] : Prop := match d with
  | .lst ds => k.run ds
  | .tup ds => k.run ds
  | .str s => k.run (charsD s)
  | _ => False
@[simp] theorem onW_l (d k) : @onW (.lst d) k = k.run d := (rfl)
@[simp] theorem onW_t (d k) : @onW (.tup d) k = k.run d := (rfl)
@[simp] theorem onW_s (d k) : @onW (.str d) k = k.run (charsD d) := (rfl)
theorem onW_el {d : D} {k : Kt (List D)} (h : @onW d k) : ∃ ds, (d = .lst ds ∨ d = .tup ds ∨ ∃ s, d = .str s ∧ ds = charsD s) ∧ k.run ds := by
  cases d with
  | lst ds => exact ⟨ds, .inl rfl, h⟩
  | tup ds => exact ⟨ds, .inr (.inl rfl), h⟩
  | str s => exact ⟨_, .inr (.inr ⟨s, rfl, rfl⟩), h⟩
  | _ => exact (show False from h).elim
@[simp ↓] theorem x_wiSeqA (t env P) : wiSeqA t env P = t env fun val env1 => @onW val.d ⟨fun ds => P ds env1⟩ := by
  unfold wiSeqA
  congr 1; funext val env1
  obtain ⟨o, d⟩ := val
  cases d with
  | lst ds => exact propext ⟨fun h => (by rcases h with ⟨d', e | e, q⟩ | ⟨s, e, q⟩ <;> cases e; exact q), fun q => .inl ⟨_, .inl rfl, q⟩⟩
  | tup ds => exact propext ⟨fun h => (by rcases h with ⟨d', e | e, q⟩ | ⟨s, e, q⟩ <;> cases e; exact q), fun q => .inl ⟨_, .inr rfl, q⟩⟩
  | str s => exact propext ⟨fun h => (by rcases h with ⟨d', e | e, q⟩ | ⟨s, e, q⟩ <;> cases e; exact q), fun q => .inr ⟨_, rfl, q⟩⟩
  | _ => exact propext ⟨fun h => (by rcases h with ⟨d', e | e, q⟩ | ⟨s, e, q⟩ <;> cases e), fun q => (show False from q).elim⟩
def onI1 (l : List D) [k : Kt Int] : Prop := match l with
  | [.int i] => k.run i
  | _ => False
def onI2 (l : List D) [k : Kt (Int × Int)] : Prop := match l with
  | [.int i, .int j] => k.run (i, j)
  | _ => False
def onL1 (l : List D) [k : Kt (List D)] : Prop := match l with
  | [.lst i] => k.run i
  | _ => False
def onL2 (l : List D) [k : Kt (List D × List D)] : Prop := match l with
  | [.lst i, .lst j] => k.run (i, j)
  | _ => False
@[simp] theorem onI1_i (i k) : @onI1 [.int i] k = k.run i := (rfl)
@[simp] theorem onI2_i (i j k) : @onI2 [.int i, .int j] k = k.run (i, j) := (rfl)
@[simp] theorem onL1_i (i k) : @onL1 [.lst i] k = k.run i := (rfl)
@[simp] theorem onL2_i (i j k) : @onL2 [.lst i, .lst j] k = k.run (i, j) := (rfl)
theorem onI1_eq (o : Option (List D)) (k : Int → Prop) : (∃ j, o = some [.int j] ∧ k j) = @onS _ o ⟨fun l => @onI1 l ⟨k⟩⟩ := by
  rw [← onS_eq]
  refine propext ⟨fun ⟨j, e, q⟩ => ⟨_, e, q⟩, fun ⟨l, e, q⟩ => ?_⟩
  unfold onI1 at q
  split at q
  · exact ⟨_, e, q⟩
  · exact q.elim
theorem onI2_eq (o : Option (List D)) (k : Int → Int → Prop) : (∃ i j, o = some [.int i, .int j] ∧ k i j) = @onS _ o ⟨fun l => @onI2 l ⟨fun p => k p.1 p.2⟩⟩ := by
  rw [← onS_eq]
  refine propext ⟨fun ⟨i, j, e, q⟩ => ⟨_, e, q⟩, fun ⟨l, e, q⟩ => ?_⟩
  unfold onI2 at q
  split at q
  · exact ⟨_, _, e, q⟩
  · exact q.elim
theorem onL1_eq (o : Option (List D)) (k : List D → Prop) : (∃ j, o = some [.lst j] ∧ k j) = @onS _ o ⟨fun l => @onL1 l ⟨k⟩⟩ := by
  rw [← onS_eq]
  refine propext ⟨fun ⟨j, e, q⟩ => ⟨_, e, q⟩, fun ⟨l, e, q⟩ => ?_⟩
  unfold onL1 at q
  split at q
  · exact ⟨_, e, q⟩
  · exact q.elim
theorem onL2_eq (o : Option (List D)) (k : List D → List D → Prop) : (∃ i j, o = some [.lst i, .lst j] ∧ k i j) = @onS _ o ⟨fun l => @onL2 l ⟨fun p => k p.1 p.2⟩⟩ := by
  rw [← onS_eq]
  refine propext ⟨fun ⟨i, j, e, q⟩ => ⟨_, e, q⟩, fun ⟨l, e, q⟩ => ?_⟩
  unfold onL2 at q
  split at q
  · exact ⟨_, _, e, q⟩
  · exact q.elim
@[simp ↓] theorem x_wiRng1 (t env P) : wiRng1 t env P = t env fun os env1 => @onS _ (resAll env1 os) ⟨fun l => @onI1 l ⟨fun j => -(2 ^ 62) ≤ j ∧ j < 2 ^ 62 ∧ P (rngD 0 j.toNat) env1⟩⟩ := by
  unfold wiRng1; simp only [onI1_eq]
@[simp ↓] theorem x_wiRng2 (t env P) : wiRng2 t env P = t env fun os env1 => @onS _ (resAll env1 os) ⟨fun l => @onI2 l ⟨fun p => (-(2 ^ 62) ≤ p.1 ∧ p.1 < 2 ^ 62 ∧ -(2 ^ 62) ≤ p.2 ∧ p.2 < 2 ^ 62) ∧ P (rngD p.1 (p.2 - p.1).toNat) env1⟩⟩ := by
  unfold wiRng2; simp only [onI2_eq]
@[simp ↓] theorem x_wiEnum (t env P) : wiEnum t env P = t env fun os env1 => @onS _ (tms os) ⟨fun l => @onL1 l ⟨fun j => P (enumD j) env1⟩⟩ := by
  unfold wiEnum; simp only [onL1_eq]
@[simp ↓] theorem x_wiZip (t env P) : wiZip t env P = t env fun os env1 => @onS _ (tms os) ⟨fun l => @onL2 l ⟨fun p => P (zipD p.1 p.2) env1⟩⟩ := by
  unfold wiZip; simp only [onL2_eq]
@[simp] theorem o_add_i (i j k) : @op2 sAdd (.int i) (.int j) k = k.run (fz (.int (i + j))) := (rfl)
@[simp] theorem o_add_s (s t k) : @op2 sAdd (.str s) (.str t) k = (s.length + t.length ≤ 16777216 ∧ k.run (fz (.str (s ++ t)))) := (rfl)
@[simp] theorem o_add_l (xs ys k) : @op2 sAdd (.lst xs) (.lst ys) k = (xs.length + ys.length ≤ 16777216 ∧ k.run ⟨true, .lst (xs ++ ys)⟩) := (rfl)
@[simp] theorem o_add_t (xs ys k) : @op2 sAdd (.tup xs) (.tup ys) k = (xs.length + ys.length ≤ 16777216 ∧ k.run (fz (.tup (xs ++ ys)))) := (rfl)
@[simp] theorem o_addI (i j k) : @op2 sAddI (.int i) (.int j) k = k.run (fz (.int (i + j))) := (rfl)
@[simp] theorem o_sub (i j k) : @op2 sSub (.int i) (.int j) k = k.run (fz (.int (i - j))) := (rfl)
@[simp] theorem o_mul0 (i j k) : @op2 sMul (.int i) (.int j) k = (((-(2 ^ 64) < i ∧ i < 2 ^ 64) ∨ (-(2 ^ 64) < j ∧ j < 2 ^ 64)) ∧ k.run (fz (.int (i * j)))) := (rfl)
@[simp] theorem o_div (i j k) : @op2 sDivA (.int i) (.int j) k = ((0 < j ∧ j < 1208925819614629174706176) ∧ k.run (fz (.int (i / j)))) := (rfl)
@[simp] theorem o_mod (i j k) : @op2 sMod (.int i) (.int j) k = (0 < j ∧ k.run (fz (.int (i % j)))) := (rfl)
@[simp] theorem o_pow (i j k) : @op2 sPow (.int i) (.int j) k = ((0 ≤ j ∧ j ≤ 1000000 ∧ i.natAbs < 2 ^ 64) ∧ k.run (fz (.int (i ^ j.toNat)))) := (rfl)
@[simp] theorem o_lt (i j k) : @op2 sLt (.int i) (.int j) k = k.run (fz (.bl (decide (i < j)))) := (rfl)
@[simp] theorem o_lts (i j k) : @op2 sLt (.str i) (.str j) k = k.run (fz (.bl (decide (i.cps.toList < j.cps.toList)))) := (rfl)
@[simp] theorem o_le (i j k) : @op2 sLeS (.int i) (.int j) k = k.run (fz (.bl (decide (i ≤ j)))) := (rfl)
@[simp] theorem o_gt (i j k) : @op2 sGt (.int i) (.int j) k = k.run (fz (.bl (decide (j < i)))) := (rfl)
@[simp] theorem o_ge (i j k) : @op2 sGe (.int i) (.int j) k = k.run (fz (.bl (decide (j ≤ i)))) := (rfl)
@[simp] theorem o_eq (neg x y k) : @op2 (sEq neg) x y k = (pure' x = true ∧ pure' y = true ∧ (depthD x ≤ 64 ∨ depthD y ≤ 64) ∧ k.run (fz (.bl (if neg then !eqD x y else eqD x y)))) := (rfl)
@[simp] theorem o_les (i j k) : @op2 sLeS (.str i) (.str j) k = k.run (fz (.bl (!decide (j.cps.toList < i.cps.toList)))) := (rfl)
@[simp] theorem o_is (neg x k) : @op2 (sIsX neg) x .non k = k.run (fz (.bl (if neg then !isNonD x else isNonD x))) := propext ⟨fun h => h.elim (fun z => by cases x <;> exact z) fun z => by cases x <;> exact (show False from z).elim, fun z => .inl (by cases x <;> exact z)⟩
@[simp] theorem o_isxi (neg i b k) : @op2 (sIsX neg) (.int i) (.bl b) k = k.run (fz (.bl neg)) := propext ⟨fun h => h.elim (fun z => (show False from z).elim) fun z => z.2, fun z => .inr ⟨rfl, z⟩⟩
@[simp] theorem o_iss (neg i b k) : @op2 (sIsX neg) (.str i) (.bl b) k = k.run (fz (.bl neg)) := propext ⟨fun h => h.elim (fun z => (show False from z).elim) fun z => z.2, fun z => .inr ⟨rfl, z⟩⟩
@[simp] theorem o_isl (neg i b k) : @op2 (sIsX neg) (.lst i) (.bl b) k = k.run (fz (.bl neg)) := propext ⟨fun h => h.elim (fun z => (show False from z).elim) fun z => z.2, fun z => .inr ⟨rfl, z⟩⟩
@[simp] theorem o_ist (neg i b k) : @op2 (sIsX neg) (.tup i) (.bl b) k = k.run (fz (.bl neg)) := propext ⟨fun h => h.elim (fun z => (show False from z).elim) fun z => z.2, fun z => .inr ⟨rfl, z⟩⟩
@[simp] theorem o_isn (neg b k) : @op2 (sIsX neg) .non (.bl b) k = k.run (fz (.bl neg)) := propext ⟨fun h => h.elim (fun z => (show False from z).elim) fun z => z.2, fun z => .inr ⟨rfl, z⟩⟩
@[simp] theorem o_isb (neg a b k) : @op2 (sIsX neg) (.bl a) (.bl b) k = k.run (fz (.bl (if neg then !decide (a = b) else decide (a = b)))) := propext ⟨fun h => h.elim (fun z => z) fun z => (Bool.false_ne_true z.1).elim, fun z => .inl z⟩
@[simp] theorem o_mul (i j k) : @op2 sMulA (.int i) (.int j) k = (((-(2 ^ 64) < i ∧ i < 2 ^ 64) ∨ (-(2 ^ 64) < j ∧ j < 2 ^ 64)) ∧ k.run (fz (.int (i * j)))) := (rfl)
@[simp] theorem o_muls (s j k) : @op2 sMulA (.str s) (.int j) k = ((-(2 ^ 62) ≤ j ∧ j < 2 ^ 62 ∧ s.length * j.toNat ≤ 16777216) ∧ k.run (fz (.str (repS s j)))) := (rfl)
@[simp] theorem o_in_l (neg x xs k) : @op2 (sInB neg) x (.lst xs) k = (((flatD x = true ∧ xs.all flatD = true) ∨ (pure' x = true ∧ pures xs = true ∧ depthDs xs ≤ 60)) ∧ k.run (fz (.bl (if neg then !inD x xs else inD x xs)))) := by
  refine propext ⟨fun h => ?_, fun h => ?_⟩
  · rcases h with (h | h) | h
    · have h : flatD x = true ∧ xs.all flatD = true ∧ k.run (fz (.bl (if neg then !inD x xs else inD x xs))) := by cases x <;> exact h
      exact ⟨.inl ⟨h.1, h.2.1⟩, h.2.2⟩
    · cases x <;> exact (show False from h).elim
    · have h : pure' x = true ∧ pures xs = true ∧ depthDs xs ≤ 60 ∧ k.run (fz (.bl (if neg then !inD x xs else inD x xs))) := by cases x <;> exact h
      exact ⟨.inr ⟨h.1, h.2.1, h.2.2.1⟩, h.2.2.2⟩
  · obtain ⟨h | h, q⟩ := h
    · exact .inl (.inl (by cases x <;> exact ⟨h.1, h.2, q⟩))
    · exact .inr (by cases x <;> exact ⟨h.1, h.2.1, h.2.2, q⟩)
@[simp] theorem o_in_t (neg x xs k) : @op2 (sInB neg) x (.tup xs) k = (((flatD x = true ∧ xs.all flatD = true) ∨ (pure' x = true ∧ pures xs = true ∧ depthDs xs ≤ 60)) ∧ k.run (fz (.bl (if neg then !inD x xs else inD x xs)))) := by
  refine propext ⟨fun h => ?_, fun h => ?_⟩
  · rcases h with (h | h) | h
    · have h : flatD x = true ∧ xs.all flatD = true ∧ k.run (fz (.bl (if neg then !inD x xs else inD x xs))) := by cases x <;> exact h
      exact ⟨.inl ⟨h.1, h.2.1⟩, h.2.2⟩
    · cases x <;> exact (show False from h).elim
    · have h : pure' x = true ∧ pures xs = true ∧ depthDs xs ≤ 60 ∧ k.run (fz (.bl (if neg then !inD x xs else inD x xs))) := by cases x <;> exact h
      exact ⟨.inr ⟨h.1, h.2.1, h.2.2.1⟩, h.2.2.2⟩
  · obtain ⟨h | h, q⟩ := h
    · exact .inl (.inl (by cases x <;> exact ⟨h.1, h.2, q⟩))
    · exact .inr (by cases x <;> exact ⟨h.1, h.2.1, h.2.2, q⟩)
@[simp] theorem o_in_d (neg x ks ds k) : @op2 (sInB neg) x (.dic ks ds) k = @onS _ (keyU x) ⟨fun key => k.run (fz (.bl (if neg then !(dget ks ds key).isSome else (dget ks ds key).isSome)))⟩ := by
  rw [← onS_eq]
  refine propext ⟨fun h => ?_, fun z => .inl (.inr (by cases x <;> exact z))⟩
  rcases h with (z | z) | z
  · cases x <;> exact (show False from z).elim
  · cases x <;> exact z
  · cases x <;> exact (show False from z).elim
@[simp] theorem keyU_i (i) : keyU (.int i) = some (.inl i) := (rfl)
@[simp] theorem keyU_s (i) : keyU (.str i) = some (.inr i) := (rfl)
@[simp ↓] theorem x_opx {G : Gm} (a) : wM G (.opx a) = wOpx (wM G a) := by rw [wM]
@[simp ↓] theorem x_wOpx (t env P) : wOpx t env P = t env fun val env1 => P (opnV val) env1 := (rfl)
@[simp ↓] theorem x_tupb {G : Gm} (a) : wM G (.tupb a) = wTupB (wAs G a) := by rw [wM]
@[simp ↓] theorem x_mutb {G : Gm} (m i j a) : wM G (.mutb m i j a) = wMutB m.s i j (wFs G a) := by rw [wM]
@[simp ↓] theorem x_callr {G : Gm} (k a env P) : wM G (.callr k a) env P = @onS _ G.fs[k]? ⟨fun f => wCallR f.n f.t (wXs G a) env P⟩ := by
  unfold wM; cases G.fs[k]? <;> rfl
@[simp ↓] theorem x_wCallR (n t ts env P) : wCallR n t ts env P = ts env fun os env1 => @onS _ (resAll env1 os) ⟨fun ds => os.length = n ∧ @opD t (ds.map fun d => fz (unb d)) ⟨fun p => flatR p.1.d = true ∧ P (fz p.1.d) env1⟩⟩ := by
  unfold wCallR opD; simp only [onS_eq]
@[simp ↓] theorem x_wMv (i env P) : wMv i env P = @onSS _ env[i]? ⟨fun x => P (.vl x) (env.set i none)⟩ := by unfold wMv; rw [onSS_eq]
def sBK (xs : List Val) [k : Kt (List D)] : Prop := sB xs k.run
@[simp] theorem sBK_0 (k) : @sBK [] k = k.run [] := (rfl)
@[simp] theorem sBK_f (d r k) : @sBK (⟨false, d⟩ :: r) k = @sBK r ⟨fun ds => k.run (d :: ds)⟩ := (rfl)
@[simp] theorem sBK_o (l r k) : @sBK (⟨true, .lst l⟩ :: r) k = ∀ a, @sBK r ⟨fun ds => k.run (.own a l :: ds)⟩ := (rfl)
@[simp ↓] theorem x_wTupB (ts env P) : wTupB ts env P = ts env fun os env1 => @onS _ (vls os) ⟨fun xs => xs.length ≤ 16777216 ∧ @sBK xs ⟨fun ds => P ⟨true, .box (.tup ds)⟩ env1⟩⟩ := by
  unfold wTupB sBK; simp only [onS_eq]
@[simp] theorem opn_t (ds) : opnV ⟨true, .box (.tup ds)⟩ = fz (.tup (ds.map cl1)) := (rfl)
@[simp] theorem opn_l (ds) : opnV ⟨true, .box (.lst ds)⟩ = ⟨true, .lst (ds.map cl1)⟩ := (rfl)
@[simp] theorem opn_d (ks ds) : opnV ⟨true, .box (.dic ks ds)⟩ = ⟨true, .dic ks (ds.map cl1)⟩ := (rfl)
@[simp] theorem opn_f (d) : opnV ⟨false, d⟩ = ⟨false, d⟩ := (rfl)
@[simp] theorem opn_ol (ds) : opnV ⟨true, .lst ds⟩ = ⟨true, .lst ds⟩ := (rfl)
@[simp] theorem cl1_o (a xs) : cl1 (.own a xs) = .lst xs := (rfl)
@[simp] theorem cl1_n : cl1 .non = .non := (rfl)
@[simp] theorem cl1_b (b) : cl1 (.bl b) = .bl b := (rfl)
@[simp] theorem cl1_i (b) : cl1 (.int b) = .int b := (rfl)
@[simp] theorem cl1_s (b) : cl1 (.str b) = .str b := (rfl)
@[simp] theorem cl1_l (b) : cl1 (.lst b) = .lst b := (rfl)
@[simp] theorem cl1_t (b) : cl1 (.tup b) = .tup b := (rfl)
@[simp] theorem unb_b (c) : unb (.box c) = opnD c := (rfl)
@[simp] theorem unb_n : unb .non = .non := (rfl)
@[simp] theorem unb_bl (b) : unb (.bl b) = .bl b := (rfl)
@[simp] theorem unb_i (b) : unb (.int b) = .int b := (rfl)
@[simp] theorem unb_s (b) : unb (.str b) = .str b := (rfl)
@[simp] theorem unb_l (b) : unb (.lst b) = .lst b := (rfl)
@[simp] theorem unb_t (b) : unb (.tup b) = .tup b := (rfl)
@[simp] theorem opnD_t (ds) : opnD (.tup ds) = .tup (ds.map cl1) := (rfl)
@[simp] theorem opnD_l (ds) : opnD (.lst ds) = .lst (ds.map cl1) := (rfl)
@[simp] theorem opnD_d (ks ds) : opnD (.dic ks ds) = .dic ks (ds.map cl1) := (rfl)
@[simp] theorem flatR_n : flatR .non = true := (rfl)
@[simp] theorem flatR_b (b) : flatR (.bl b) = true := (rfl)
@[simp] theorem flatR_i (b) : flatR (.int b) = true := (rfl)
@[simp] theorem flatR_s (b) : flatR (.str b) = true := (rfl)
@[simp ↓] theorem opX_opx (a t) : opX (.opx a) t = wTm t := (rfl)
@[simp ↓] theorem opX_tupb (a t) : opX (.tupb a) t = wTm t := (rfl)
@[simp ↓] theorem opX_mutb (m i j a t) : opX (.mutb m i j a) t = wTm t := (rfl)
@[simp ↓] theorem opX_callr (k a t) : opX (.callr k a) t = wTm t := (rfl)
@[simp ↓] theorem x_disp {G : Gm} (a b) : wM G (.disp a b) = wDisp ((wMl G a).zip (wMl G b)) := by rw [wM]
@[simp ↓] theorem x_wMl0 {G : Gm} : wMl G .nil = [] := by rw [wMl]
@[simp ↓] theorem x_wMl1 {G : Gm} (a r) : wMl G (.cons a r) = wM G a :: wMl G r := by rw [wMl]
@[simp ↓] theorem x_altW0 : altW [] = wXnil := (rfl)
@[simp ↓] theorem x_altW1 (p r) : altW (p :: r) = wXcons (wTm p.1) (wXcons (wTm p.2) (altW r)) := (rfl)
@[simp] theorem x_alt0 : unAlt [] = some [] := (rfl)
@[simp] theorem x_alt1 (k v r) : unAlt (k :: v :: r) = (keyU k).bind fun x => (unAlt r).map fun xs => (x, v) :: xs := by
  show (match keyU k, unAlt r with | some x, some xs => some ((x, v) :: xs) | _, _ => none) = _
  cases keyU k <;> cases unAlt r <;> rfl
@[simp ↓] theorem x_wDisp (ps env P) : wDisp ps env P = altW ps env fun os env1 => @onS _ (tms os) ⟨fun ds => @onS _ (unAlt ds) ⟨fun l => l.length ≤ 15 ∧ P ⟨true, .dic (dmerge ([], []) l).1 (dmerge ([], []) l).2⟩ env1⟩⟩ := by
  unfold wDisp; simp only [onS_eq]
@[simp ↓] theorem opX_disp (a b t) : opX (.disp a b) t = wTm t := (rfl)
@[simp ↓] theorem opX_gin (k neg b t) : opX (.gin k neg b) t = wTm t := (rfl)
@[simp ↓] theorem x_ext {G : Gm} (i a) : wM G (.ext i a) = wExt i (wM G a) := by rw [wM]
@[simp ↓] theorem opX_ext (i a t) : opX (.ext i a) t = wTm t := (rfl)
@[simp ↓] theorem x_bdn {G : Gm} : wM G .bdn = wBnew := by rw [wM]
@[simp ↓] theorem x_wBnew (env P) : wBnew env P = P ⟨true, .box (.dic [] [])⟩ env := (rfl)
@[simp ↓] theorem x_opv {G : Gm} (i) : wM G (.opv i) = wOpv i := by rw [wM]
@[simp ↓] theorem x_sda {G : Gm} (i k n a) : wM G (.sda i k n a) = wSda suApp i (wM G k) (wM G n) (wXcons (wTm (wM G a)) wXnil) := by rw [wM]
@[simp ↓] theorem opX_bdn (t) : opX .bdn t = wTm t := (rfl)
@[simp ↓] theorem opX_opv (i t) : opX (.opv i) t = wTm t := (rfl)
@[simp ↓] theorem opX_sda (i k n a t) : opX (.sda i k n a) t = wTm t := (rfl)
@[simp ↓] theorem x_dnew {G : Gm} : wM G .dnew = wDnew := by rw [wM]
@[simp ↓] theorem x_wDnew (env P) : wDnew env P = P ⟨true, .dic [] []⟩ env := (rfl)
@[simp ↓] theorem x_dg1 {G : Gm} (a b) : wM G (.dg1 a b) = wDget1 (opX a (wM G a)) (opX b (wM G b)) := by rw [wM]
@[simp ↓] theorem x_dg2 {G : Gm} (a b c) : wM G (.dg2 a b c) = wDget2 (opX a (wM G a)) (opX b (wM G b)) (opX c (wM G c)) := by rw [wM]
@[simp ↓] theorem opX_dg1 (a b t) : opX (.dg1 a b) t = wTm t := (rfl)
@[simp ↓] theorem opX_dg2 (a b c t) : opX (.dg2 a b c) t = wTm t := (rfl)
@[simp ↓] theorem opX_dnew (t) : opX .dnew t = wTm t := (rfl)
@[simp] theorem o_ix_l (xs i k) : @op2 sIxA (.lst xs) (.int i) k = @onS _ (atI xs i) ⟨fun d => k.run (fz d)⟩ := by rw [← onS_eq]; exact propext ⟨fun h => h.elim id fun z => (show False from z).elim, .inl⟩
@[simp] theorem o_ix_t (xs i k) : @op2 sIxA (.tup xs) (.int i) k = @onS _ (atI xs i) ⟨fun d => k.run (fz d)⟩ := by rw [← onS_eq]; exact propext ⟨fun h => h.elim id fun z => (show False from z).elim, .inl⟩
@[simp] theorem o_ix_d (ks ds x k) : @op2 sIxA (.dic ks ds) x k = @onS _ (keyU x) ⟨fun key => @onS _ (dget ks ds key) ⟨fun d => k.run (fz d)⟩⟩ := by
  rw [← onS_eq]; simp only [← onS_eq]
  exact propext ⟨fun h => h.elim (fun z => (show False from z).elim) fun ⟨key, d, a, b, c⟩ => ⟨key, a, d, b, c⟩, fun ⟨key, a, d, b, c⟩ => .inr ⟨key, d, a, b, c⟩⟩
@[simp] theorem o_ix_ldc (ks ds x k) : @op2 sIxA (.ldc ks ds) x k = @onS _ (keyU x) ⟨fun key => @onS _ (dget ks ds key) ⟨fun d => k.run (fz d)⟩⟩ := by
  rw [← onS_eq]; simp only [← onS_eq]
  exact propext ⟨fun h => h.elim (fun z => (show False from z).elim) fun ⟨key, d, a, b, c⟩ => ⟨key, a, d, b, c⟩, fun ⟨key, a, d, b, c⟩ => .inr ⟨key, d, a, b, c⟩⟩
@[simp] theorem o_neg (i k) : @op1 sNeg (.int i) k = k.run (fz (.int (-i))) := (rfl)
@[simp] theorem o_cut_l (lo hi xs k) : @op1 (sCut lo hi) (.lst xs) k = k.run ⟨true, .lst (cut xs lo hi)⟩ := (rfl)
@[simp] theorem o_cut_t (lo hi xs k) : @op1 (sCut lo hi) (.tup xs) k = k.run (fz (.tup (cut xs lo hi))) := (rfl)
@[simp] theorem o_max2 (i j k) : @opN sMax [.int i, .int j] k = k.run (fz (.int (if j > i then j else i))) := (rfl)
@[simp] theorem o_min2 (i j k) : @opN sMin [.int i, .int j] k = k.run (fz (.int (if j < i then j else i))) := (rfl)
@[simp] theorem o_maxl (xs k) : @opN sMax [.lst xs] k = @onS _ (unInts xs) ⟨fun ns => 0 < ns.length ∧ ∀ m, m ∈ ns → (∀ y, y ∈ ns → y ≤ m) → k.run (fz (.int m))⟩ := by rw [← onS_eq]; rfl
@[simp] theorem o_minl (xs k) : @opN sMin [.lst xs] k = @onS _ (unInts xs) ⟨fun ns => 0 < ns.length ∧ ∀ m, m ∈ ns → (∀ y, y ∈ ns → m ≤ y) → k.run (fz (.int m))⟩ := by rw [← onS_eq]; rfl
@[simp] theorem o_suml (xs k) : @opN sSum [.lst xs] k = @onS _ (unInts xs) ⟨fun ns => k.run (fz (.int ns.sum))⟩ := by rw [← onS_eq]; rfl
theorem o_sortI {xs : List D} {ns : List Int} {k : Kt Val} (h : unInts xs = some ns) (q : ∀ ns' : List Int, ns'.Perm ns → ns'.Pairwise (· ≤ ·) → k.run ⟨true, .lst (ns'.map .int)⟩) : @opN sSorted [.lst xs] k := .inl ⟨ns, h, q⟩
theorem o_sortS {xs : List D} {ns : List Str} {k : Kt Val} (h : unStrs xs = some ns) (hn : ns.length < 64) (q : ∀ ns' : List Str, ns'.Perm ns → sortedS ns' = true → k.run ⟨true, .lst (ns'.map .str)⟩) : @opN sSorted [.lst xs] k := .inr ⟨ns, h, hn, q⟩
@[simp] theorem o_str_s (s k) : @opN sStr [.str s] k = k.run (fz (.str s)) := (rfl)
@[simp] theorem o_str_i (i k) : @opN sStr [.int i] k = ((-1000000000000000000000000000000 < i ∧ i < 1000000000000000000000000000000) ∧ k.run (fz (.str (toString i)))) := (rfl)
@[simp] theorem x_bf_max : BF.s .max = sMax := (rfl)
@[simp] theorem x_bf_min : BF.s .min = sMin := (rfl)
@[simp] theorem x_bf_sum : BF.s .sum = sSum := (rfl)
@[simp] theorem x_bf_sorted : BF.s .sorted = sSortedA := (rfl)
@[simp] theorem x_bf_dict : BF.s .dict = sDict := (rfl)
@[simp] theorem x_bf_str : BF.s .str = sStr := (rfl)
@[simp] theorem o_isi (t d k) : @op1 (sIsi t) d k = @onS _ (isD t d) ⟨fun b => k.run (fz (.bl b))⟩ := by rw [← onS_eq]; rfl
@[simp] theorem o_isiT (t d k) : @op1 (sIsiT t) d k = @onS _ (isDs t d) ⟨fun b => k.run (fz (.bl b))⟩ := by rw [← onS_eq]; rfl
@[simp] theorem o_rev (xs k) : @op1 sRev (.lst xs) k = k.run ⟨true, .lst xs.reverse⟩ := (rfl)
@[simp] theorem o_lrg (n k) : @op1 sLrg (.int n) k = ((-(2 ^ 62) ≤ n ∧ n ≤ 16777216) ∧ k.run ⟨true, .lst (rngD 0 n.toNat)⟩) := (rfl)
@[simp] theorem o_divmod (i j k) : @opN sDivmod [.int i, .int j] k = ((0 < j ∧ j < 1073741824) ∧ k.run (fz (.tup [.int (i / j), .int (i % j)]))) := (rfl)
@[simp] theorem isD_n (t) : isD t .non = some false := (rfl)
@[simp] theorem isD_b (t b) : isD t (.bl b) = some (decide (t = .bool) || decide (t = .int)) := (rfl)
@[simp] theorem isD_i (t b) : isD t (.int b) = some (decide (t = .int)) := (rfl)
@[simp] theorem isD_s (t b) : isD t (.str b) = some (decide (t = .str)) := (rfl)
@[simp] theorem isD_l (t b) : isD t (.lst b) = some (decide (t = .list)) := (rfl)
@[simp] theorem isD_t (t b) : isD t (.tup b) = some (decide (t = .tuple)) := (rfl)
@[simp] theorem isDs_0 (d) : isDs [] d = some false := (rfl)
@[simp] theorem isDs_1 (t ts d) : isDs (t :: ts) d = (isD t d).bind fun a => (isDs ts d).map (a || ·) := (rfl)
@[simp ↓] theorem x_isi1 {G : Gm} (t a) : wM G (.isi [t] false a) = wUn (sIsi t) (opX a (wM G a)) := by rw [wM, isiS_1]
@[simp ↓] theorem x_isi2 {G : Gm} (ts a) : wM G (.isi ts true a) = wUn (sIsiT ts) (opX a (wM G a)) := by rw [wM, isiS_t]
@[simp ↓] theorem x_rvk {G : Gm} (a k) : wM G (.rvk a k) = wUn (sRvk k) (opX a (wM G a)) := by rw [wM]
@[simp ↓] theorem opX_rvk (a k t) : opX (.rvk a k) t = wTm t := (rfl)
@[simp] theorem o_rvk (n xs k) : @op1 (sRvk n) (.lst xs) k = k.run ⟨true, .lst (xs.reverse.take (n - 1))⟩ := (rfl)
@[simp ↓] theorem x_dge {G : Gm} (a b) : wM G (.dge a b) = wDget1 (opX a (wM G a)) (opX b (wM G b)) := by rw [wM]
@[simp ↓] theorem opX_dge (a b t) : opX (.dge a b) t = wTm t := (rfl)
@[simp ↓] theorem x_rev {G : Gm} (a) : wM G (.rev a) = wUn sRev (opX a (wM G a)) := by rw [wM]
@[simp ↓] theorem x_lrg {G : Gm} (a) : wM G (.lrg a) = wUn sLrg (opX a (wM G a)) := by rw [wM]
@[simp ↓] theorem x_chain {G : Gm} (o o' a b c) : wM G (.chain o o' a b c) = wChain o.s o'.s (opX a (wM G a)) (opX b (wM G b)) (opX c (wM G c)) := by rw [wM]
@[simp ↓] theorem x_tchain {G : Gm} (o o' a b c) : wT G (.chain o o' a b c) = wTB (wChain o.s o'.s (opX a (wM G a)) (opX b (wM G b)) (opX c (wM G c))) := by rw [wT]
@[simp ↓] theorem opX_isi (a b c t) : opX (.isi a b c) t = wTm t := (rfl)
@[simp ↓] theorem opX_rev (a t) : opX (.rev a) t = wTm t := (rfl)
@[simp ↓] theorem opX_lrg (a t) : opX (.lrg a) t = wTm t := (rfl)
@[simp ↓] theorem opX_chain (o o' a b c t) : opX (.chain o o' a b c) t = wTm t := (rfl)
@[simp] theorem x_bf_divmod : BF.s .divmod = sDivmod := (rfl)
@[simp ↓] theorem x_gix (i j) : gW (.ix i j) = gwIx i j := by rw [gW]
@[simp ↓] theorem x_gwIx (i j val env P) : gwIx i j val env P = @onSS _ env[i]? ⟨fun x => @onL x ⟨fun ds => j < ds.length ∧ P (env.set i (some ⟨true, .lst (ds.set j val.d)⟩))⟩⟩ := by
  unfold gwIx; rw [← onSL_eq]
@[simp ↓] theorem x_wChain (s s' ta tb tc env P) : wChain s s' ta tb tc env P = ta env fun oa env1 => tb env1 fun ob env2 => @onS _ (oa.res env2) ⟨fun x => @onS _ (ob.res env2) ⟨fun y => @op2 s x y ⟨fun val => @onB val.d ⟨fun b =>
    if b then tc env2 fun oc env3 => @onS _ (ob.res env3) ⟨fun y => @onS _ (oc.res env3) ⟨fun z => @op2 s' y z ⟨fun val => P val env3⟩⟩⟩ else P (fz (.bl false)) env2⟩⟩⟩⟩ := by
  unfold wChain op2; simp only [ex2, onS_eq, onB_eq]
def onZ (l : List D) [k : Kt (List D × List D)] : Prop := match l with
  | [.lst i, .lst j] => k.run (i, j)
  | [.tup i, .tup j] => k.run (i, j)
  | _ => False
@[simp] theorem onZ_l (i j k) : @onZ [.lst i, .lst j] k = k.run (i, j) := (rfl)
@[simp] theorem onZ_t (i j k) : @onZ [.tup i, .tup j] k = k.run (i, j) := (rfl)
@[simp ↓] theorem x_wiZipA (t env P) : wiZipA t env P = t env fun os env1 => @onS _ (tms os) ⟨fun l => @onZ l ⟨fun p => P (zipD p.1 p.2) env1⟩⟩ := by
  unfold wiZipA
  congr 1; funext os env1
  rw [← onS_eq]
  refine propext ⟨fun ⟨d, e, h, ds, es, hd, q⟩ => ⟨_, h, ?_⟩, fun ⟨l, e, q⟩ => ?_⟩
  · rcases hd with ⟨rfl, rfl⟩ | ⟨rfl, rfl⟩ <;> exact q
  · unfold onZ at q
    split at q
    · exact ⟨_, _, e, _, _, .inl ⟨rfl, rfl⟩, q⟩
    · exact ⟨_, _, e, _, _, .inr ⟨rfl, rfl⟩, q⟩
    · exact q.elim
def onZs (l : List D) [k : Kt (List D × List D)] : Prop := match l with
  | [x, y] => match sqD x, sqD y with
    | some ds, some es => ds.length = es.length ∧ k.run (ds, es)
    | _, _ => False
  | _ => False
@[simp] theorem onZs_ll (i j k) : @onZs [.lst i, .lst j] k = (i.length = j.length ∧ k.run (i, j)) := (rfl)
@[simp] theorem onZs_lt (i j k) : @onZs [.lst i, .tup j] k = (i.length = j.length ∧ k.run (i, j)) := (rfl)
@[simp] theorem onZs_tl (i j k) : @onZs [.tup i, .lst j] k = (i.length = j.length ∧ k.run (i, j)) := (rfl)
@[simp] theorem onZs_tt (i j k) : @onZs [.tup i, .tup j] k = (i.length = j.length ∧ k.run (i, j)) := (rfl)
@[simp ↓] theorem x_wiZipS (t env P) : wiZipS t env P = t env fun os env1 => @onS _ (tms os) ⟨fun l => @onZs l ⟨fun p => P (zipD p.1 p.2) env1⟩⟩ := by
  unfold wiZipS
  congr 1; funext os env1
  rw [← onS_eq]
  refine propext ⟨fun ⟨x, y, ds, es, h, a, b, c, q⟩ => ⟨_, h, ?_⟩, fun ⟨l, e, q⟩ => ?_⟩
  · show match sqD x, sqD y with | some ds, some es => ds.length = es.length ∧ _ | _, _ => False
    rw [a, b]
    exact ⟨c, q⟩
  · unfold onZs at q
    split at q
    · rename_i x y
      split at q
      · rename_i ds es a b
        exact ⟨x, y, ds, es, e, a, b, q.1, q.2⟩
      · exact q.elim
    · exact q.elim
def onZ3 (l : List D) [k : Kt (List D × List D × List D)] : Prop := match l with
  | [.lst i, .lst j, .lst m] => k.run (i, j, m)
  | _ => False
@[simp] theorem onZ3_l (i j m k) : @onZ3 [.lst i, .lst j, .lst m] k = k.run (i, j, m) := (rfl)
@[simp ↓] theorem x_wiZip3 (t env P) : wiZip3 t env P = t env fun os env1 => @onS _ (tms os) ⟨fun l => @onZ3 l ⟨fun p => P (zip3D p.1 p.2.1 p.2.2) env1⟩⟩ := by
  unfold wiZip3
  congr 1; funext os env1
  rw [← onS_eq]
  refine propext ⟨fun ⟨ds, es, fs, h, q⟩ => ⟨_, h, q⟩, fun ⟨l, e, q⟩ => ?_⟩
  unfold onZ3 at q
  split at q
  · exact ⟨_, _, _, e, q⟩
  · exact q.elim
@[simp] theorem o_len_l (xs k) : @opN sLen [.lst xs] k = k.run (fz (.int xs.length)) := (rfl)
@[simp] theorem o_len_t (xs k) : @opN sLen [.tup xs] k = k.run (fz (.int xs.length)) := (rfl)
@[simp] theorem o_len_s (s k) : @opN sLen [.str s] k = (s.length ≤ 16777216 ∧ k.run (fz (.int s.length))) := (rfl)
@[simp] theorem o_abs (i k) : @opN sAbs [.int i] k = k.run (fz (.int (if i < 0 then -i else i))) := (rfl)
@[simp] theorem o_int_i (i k) : @opN sIntOf [.int i] k = k.run (fz (.int i)) := (rfl)
@[simp] theorem o_int_b (b k) : @opN sIntOf [.bl b] k = k.run (fz (.int (if b then 1 else 0))) := (rfl)
@[simp] theorem o_list_l (xs k) : @opN sList [.lst xs] k = k.run ⟨true, .lst xs⟩ := (rfl)
@[simp] theorem o_list_t (xs k) : @opN sList [.tup xs] k = k.run ⟨true, .lst xs⟩ := (rfl)
@[simp] theorem o_tuple_l (xs k) : @opN sTuple [.lst xs] k = k.run (fz (.tup xs)) := (rfl)
@[simp] theorem o_tuple_t (xs k) : @opN sTuple [.tup xs] k = k.run (fz (.tup xs)) := (rfl)
@[simp] theorem o_repr (d k) : @opN sRepr [d] k = (costD d ≤ 16777216 ∧ depthD d ≤ 60 ∧ k.run (fz (.str (reprD d)))) := (rfl)
def unBls : List D → Option (List Bool)
  | [] => some []
  | .bl b :: ds => (unBls ds).map (b :: ·)
  | _ => none
@[simp] theorem unBls_nil : unBls [] = some [] := (rfl)
@[simp] theorem unBls_cons (b ds) : unBls (.bl b :: ds) = (unBls ds).map (b :: ·) := (rfl)
@[simp] theorem unBls_w (ns : List Bool) : unBls (ns.map D.bl) = some ns := by
  induction ns with
  | nil => rfl
  | cons w ws ih => rw [List.map_cons, unBls_cons, ih]; rfl
theorem unBls_eq {ds : List D} {ns : List Bool} (h : unBls ds = some ns) : ds = ns.map D.bl := by
  induction ds generalizing ns with
  | nil => cases h; rfl
  | cons d ds ih =>
    cases d with
    | bl b =>
      rw [unBls_cons, Option.map_eq_some_iff] at h
      obtain ⟨l, h1, rfl⟩ := h
      rw [List.map_cons, ← ih h1]
    | _ => cases h
@[simp] theorem o_all (xs k) : @opN sAll [.lst xs] k = @onS _ (unBls xs) ⟨fun bs => k.run (fz (.bl (bs.all id)))⟩ := by
  rw [← onS_eq]
  exact propext ⟨fun ⟨bs, e, q⟩ => ⟨bs, by rw [e, unBls_w], q⟩, fun ⟨bs, e, q⟩ => ⟨bs, unBls_eq e, q⟩⟩
@[simp] theorem o_any (xs k) : @opN sAny [.lst xs] k = @onS _ (unBls xs) ⟨fun bs => k.run (fz (.bl (bs.any id)))⟩ := by
  rw [← onS_eq]
  exact propext ⟨fun ⟨bs, e, q⟩ => ⟨bs, by rw [e, unBls_w], q⟩, fun ⟨bs, e, q⟩ => ⟨bs, unBls_eq e, q⟩⟩
theorem lcK_c {vs : List Nat} {g : WG} {tt : WT} {te : WE} {d : D} {ds acc : List D} {env : EnvD} {k : Kt (List D × EnvD)} : @lcK vs g tt te (d :: ds) acc env k =
    g (fz d) env fun e1 => tt e1 fun b e2 => if b then te e2 fun val e3 => acc.length < 16777216 ∧ @lcK vs g tt te ds (acc ++ [val.d]) (wipeD e3 vs) k else @lcK vs g tt te ds acc (wipeD e2 vs) k := (rfl)
theorem lcK_n {vs : List Nat} {g : WG} {tt : WT} {te : WE} {acc : List D} {env : EnvD} {k : Kt (List D × EnvD)} : @lcK vs g tt te [] acc env k = k.run (acc, env) := (rfl)
theorem rng2 : rngD 0 2 = [.int 0, .int 1] := (rfl)
theorem rng3 : rngD 0 3 = [.int 0, .int 1, .int 2] := (rfl)
theorem rng_int {lo : Int} {n : Nat} : ∀ d ∈ rngD lo n, ∃ i : Int, d = .int i ∧ lo ≤ i ∧ i < lo + n := by
  intro d hd
  unfold rngD at hd
  simp only [List.mem_map, List.mem_range] at hd
  obtain ⟨a, h, rfl⟩ := hd
  exact ⟨_, rfl, by omega, by omega⟩
theorem cut_map {α β : Type} (f : α → β) (xs : List α) (lo hi : Option Int) : cut (xs.map f) lo hi = (cut xs lo hi).map f := by
  unfold cut
  rw [List.length_map, List.map_take, List.map_drop]
theorem ixN_lt {n : Nat} {j : Int} (h0 : 0 ≤ j) (h1 : j < n) : ixN n j = some j.toNat := by
  unfold ixN
  rw [if_pos h0, if_pos h1]
theorem enum_ints {ms : List Int} : ∀ d ∈ enumD (ms.map D.int), ∃ (i : Nat) (c : Int), d = .lse [.int i, .int c] ∧ i < ms.length := by
  intro d hd
  unfold enumD at hd
  simp only [List.mem_map, List.mem_range, List.length_map] at hd
  obtain ⟨a, h, rfl⟩ := hd
  refine ⟨a, ms[a], ?_, h⟩
  simp [List.getD, h]
theorem set_ints {cs : List Int} {k : Nat} {v : Int} : (cs.map D.int).set k (.int v) = (cs.set k v).map D.int := by rw [List.map_set]
theorem cut_len {α : Type} (xs : List α) (lo hi : Option Int) : (cut xs lo hi).length ≤ xs.length := by
  unfold cut
  rw [List.length_take, List.length_drop]; omega
theorem cut_to {α : Type} (xs : List α) {u : Int} (h : 0 ≤ u) : cut xs none (some u) = xs.take u.toNat := by
  unfold cut HT.sIx
  simp only [if_neg (show ¬ u < 0 by omega), List.drop_zero, Nat.sub_zero]
  rw [Nat.min_def]
  split
  · rfl
  · rw [List.take_of_length_le (Nat.le_refl _), List.take_of_length_le (by omega)]
theorem cut_from {α : Type} (xs : List α) {u v : Int} (h : 0 ≤ u) (hv : 0 ≤ v) (hn : u.toNat ≥ xs.length) : cut xs (some u) (some v) = [] := by
  unfold cut HT.sIx
  simp only [if_neg (show ¬ u < 0 by omega)]
  rw [Nat.min_eq_right hn, List.drop_length, List.take_nil]
theorem lcK_ind {vs : List Nat} {g : WG} {tt : WT} {te : WE} {k : Kt (List D × EnvD)} (I : List D → List D → EnvD → Prop)
    (step : ∀ d ds acc env, I (d :: ds) acc env → ∀ K : List D → EnvD → Prop, (∀ a e, I ds a e → K a e) → g (fz d) env fun e1 => tt e1 fun b e2 => if b then te e2 fun val e3 => acc.length < 16777216 ∧ K (acc ++ [val.d]) (wipeD e3 vs) else K acc (wipeD e2 vs))
    (fin : ∀ acc env, I [] acc env → k.run (acc, env)) (ds acc : List D) (env : EnvD) (h : I ds acc env) : @lcK vs g tt te ds acc env k := lcD_ind I step fin ds acc env h
theorem lcO_ind {vs : List Nat} {g : WG} {tt : WT} {it1 : WI} {vs1 : List Nat} {g1 : WG} {tt1 : WT} {te : WE} {P : List D → EnvD → Prop} (I : List D → List D → EnvD → Prop)
    (step : ∀ d ds acc env, I (d :: ds) acc env → ∀ K : List D → EnvD → Prop, (∀ a e, I ds a e → K a e) → g (fz d) env fun e1 => tt e1 fun b e2 => if b then it1 e2 fun ds1 e3 => @lcK vs1 g1 tt1 te ds1 acc (wipeD e3 vs1) ⟨fun p => K p.1 (wipeD p.2 vs)⟩ else K acc (wipeD e2 vs))
    (fin : ∀ acc env, I [] acc env → P acc env) : ∀ (ds acc : List D) (env : EnvD), I ds acc env → lcO vs g tt it1 vs1 g1 tt1 te ds acc env P
  | [], acc, env, h => fin acc env h
  | d :: ds, acc, env, h => step d ds acc env h (fun a e => lcO vs g tt it1 vs1 g1 tt1 te ds a e P) fun a e he => lcO_ind I step fin ds a e he
theorem lcOK_ind {vs : List Nat} {g : WG} {tt : WT} {it1 : WI} {vs1 : List Nat} {g1 : WG} {tt1 : WT} {te : WE} {k : Kt (List D × EnvD)} (I : List D → List D → EnvD → Prop)
    (step : ∀ d ds acc env, I (d :: ds) acc env → ∀ K : List D → EnvD → Prop, (∀ a e, I ds a e → K a e) → g (fz d) env fun e1 => tt e1 fun b e2 => if b then it1 e2 fun ds1 e3 => @lcK vs1 g1 tt1 te ds1 acc (wipeD e3 vs1) ⟨fun p => K p.1 (wipeD p.2 vs)⟩ else K acc (wipeD e2 vs))
    (fin : ∀ acc env, I [] acc env → k.run (acc, env)) (ds acc : List D) (env : EnvD) (h : I ds acc env) : @lcOK vs g tt it1 vs1 g1 tt1 te ds acc env k := lcO_ind I step fin ds acc env h
theorem forK_ind {g : WG} {body : WS} {k : Kt (Out × EnvD)} (I : List D → EnvD → Prop) (step : ∀ d ds env, I (d :: ds) env → ∀ K : EnvD → Prop, (∀ e, I ds e → K e) → g (fz d) env fun e1 => body e1 fun o e2 => match o with
      | .nx => K e2
      | .ct => K e2
      | .bk => k.run (.nx, e2)
      | .rt v => k.run (.rt v, e2)) (fin : ∀ env, I [] env → k.run (.nx, env)) (ds : List D) (env : EnvD) (h : I ds env) : @forK g body ds env k := forD_ind I step fin ds env h
theorem qI {α : Type} {Q : Val → α → Prop} {a b : Int} {x : α} (q : Q (fz (.int a)) x) (h : a = b) : Q (fz (.int b)) x := h ▸ q
@[simp] theorem x_dp_s (s) : depthD (.str s) = 0 := (rfl)
@[simp] theorem x_dp_i (s) : depthD (.int s) = 0 := (rfl)
@[simp] theorem x_dp_b (s) : depthD (.bl s) = 0 := (rfl)
@[simp] theorem x_dp_n : depthD .non = 0 := (rfl)
@[simp] theorem x_eq_ii (a b) : eqD (.int a) (.int b) = (a == b) := (rfl)
@[simp] theorem x_eq_ss (a b) : eqD (.str a) (.str b) = (a == b) := (rfl)
@[simp] theorem x_eq_bb (a b) : eqD (.bl a) (.bl b) = (a == b) := (rfl)
@[simp] theorem x_eq_nn : eqD .non .non = true := (rfl)
@[simp] theorem x_eq_ll (a b) : eqD (.lst a) (.lst b) = eqDs a b := (rfl)
@[simp] theorem x_eq_tt (a b) : eqD (.tup a) (.tup b) = eqDs a b := (rfl)
@[simp] theorem x_eq_0 : eqDs [] [] = true := (rfl)
@[simp] theorem x_eq_1 (x y xs ys) : eqDs (x :: xs) (y :: ys) = (eqD x y && eqDs xs ys) := (rfl)
@[simp] theorem x_eq_2 (x xs) : eqDs (x :: xs) [] = false := (rfl)
@[simp] theorem x_eq_3 (x xs) : eqDs [] (x :: xs) = false := (rfl)
theorem cost_int {i : Int} (h : -1000000000000000000000000000000 < i) (h2 : i < 1000000000000000000000000000000) : costD (.int i) = 31 := by
  show (if i.natAbs < 10 ^ 30 then 31 else 1000000000) = 31
  rw [if_pos (by omega)]
@[simp] theorem x_co_b (b) : costD (.bl b) = 5 := (rfl)
@[simp] theorem x_co_n : costD .non = 4 := (rfl)
@[simp] theorem x_co_s (s) : costD (.str s) = 10 * s.length + 2 := (rfl)
@[simp] theorem x_co_l (s) : costD (.lst s) = costDs s + 3 := (rfl)
@[simp] theorem x_co_t (s) : costD (.tup s) = costDs s + 3 := (rfl)
@[simp] theorem x_co_0 : costDs [] = 0 := (rfl)
@[simp] theorem x_co_1 (x xs) : costDs (x :: xs) = costD x + 2 + costDs xs := (rfl)
@[simp] theorem x_dp_l (s) : depthD (.lst s) = depthDs s + 1 := (rfl)
@[simp] theorem x_dp_t (s) : depthD (.tup s) = depthDs s + 1 := (rfl)
@[simp] theorem x_dps_0 : depthDs [] = 0 := (rfl)
@[simp] theorem x_dps_1 (x xs) : depthDs (x :: xs) = max (depthD x) (depthDs xs) := (rfl)
theorem atI_ints {ns : List Int} {k : Int} (h0 : 0 ≤ k) (h1 : k < ns.length) : ∃ c, atI (ns.map D.int) k = some (.int c) := by
  obtain ⟨n, rfl⟩ : ∃ n : Nat, k = n := ⟨k.toNat, by omega⟩
  have h : n < ns.length := by omega
  refine ⟨ns[n], ?_⟩
  rw [atI_nat, List.getElem?_map, List.getElem?_eq_getElem h]; rfl
/-! ### behind V1 .. V7 -/
theorem mapC_inj : ∀ {l m : List Char}, l.map Char.toNat = m.map Char.toNat → l = m
  | [], [], _ => rfl
  | [], _ :: _, h => by cases h
  | _ :: _, [], h => by cases h
  | a :: l, b :: m, h => by
    simp only [List.map_cons, List.cons.injEq] at h
    rw [Char.toNat_inj.mp h.1, mapC_inj h.2]
theorem Str_inj {a b : String} : Str.ofString a = Str.ofString b ↔ a = b := by
  constructor
  · intro h
    rw [Str.ofString_eq_toList, Str.ofString_eq_toList, Str.mk.injEq] at h
    have h5 : a.toList.map Char.toNat = b.toList.map Char.toNat := by simpa using congrArg Array.toList h
    exact String.toList_injective (mapC_inj h5)
  · rintro rfl; rfl
def onUT (d : D) [k : Kt (List D)] : Prop := match d with
  | .tup ds => k.run ds
  | .lse ds => k.run ds
  | _ => False
@[simp] theorem onUT_t (d k) : @onUT (.tup d) k = k.run d := (rfl)
@[simp] theorem onUT_e (d k) : @onUT (.lse d) k = k.run d := (rfl)
@[simp ↓] theorem x_gwTupS (n g val env P) : gwTupS n g val env P = @onUT val.d ⟨fun ds => n ≤ ds.length ∧ g ds env P⟩ := by
  obtain ⟨o, d⟩ := val
  unfold gwTupS
  cases d <;> first
    | exact propext ⟨fun ⟨d', e, q⟩ => (by rcases e with e | e <;> cases e; exact q), fun q => ⟨_, by simp, q⟩⟩
    | exact propext ⟨fun ⟨d', e, q⟩ => (by rcases e with e | e <;> cases e), fun q => (show False from q).elim⟩
@[simp ↓] theorem x_gwStL (i ds env P) : gwStL i ds env P = (i < env.length ∧ P (env.set i (some ⟨true, .lst ds⟩))) := (rfl)
def onStr (d : D) [k : Kt Str] : Prop := match d with
  | .str s => k.run s
  | _ => False
@[simp] theorem onStr_s (d k) : @onStr (.str d) k = k.run d := (rfl)
def onFn (d : D) [k : Kt Str] : Prop := match d with
  | .fn s => k.run s
  | _ => False
@[simp] theorem onFn_s (d k) : @onFn (.fn d) k = k.run d := (rfl)
@[simp] theorem lookS_0 (s) : lookS s [] = none := (rfl)
@[simp] theorem lookS_1 (s p ps) : lookS s (p :: ps) = if s = p.1 then some p.2 else lookS s ps := (rfl)
@[simp] theorem findFE_0 (s) : findFE s [] = none := (rfl)
@[simp] theorem findFE_1 (s p ps) : findFE s (p :: ps) = if s = p.x then some p else findFE s ps := (rfl)
theorem onStr_eq (o : Option D) (k : Str → Prop) : (∃ s, o = some (.str s) ∧ k s) = @onS _ o ⟨fun d => @onStr d ⟨k⟩⟩ := by
  rw [← onS_eq]
  refine propext ⟨fun ⟨s, h, q⟩ => ⟨_, h, q⟩, fun ⟨d, h, q⟩ => ?_⟩
  cases d with
  | str s => exact ⟨s, h, q⟩
  | _ => exact (show False from q).elim
theorem onFn_eq (o : Option (Option Val)) (k : Str → Prop) : (∃ o' x, o = some (some ⟨o', .fn x⟩) ∧ k x) = @onSS _ o ⟨fun v => @onFn v.d ⟨k⟩⟩ := by
  rw [← onSS_eq]
  refine propext ⟨fun ⟨o, s, h, q⟩ => ⟨_, h, q⟩, fun ⟨v, h, q⟩ => ?_⟩
  obtain ⟨o, d⟩ := v
  cases d with
  | fn s => exact ⟨o, s, h, q⟩
  | _ => exact (show False from q).elim
@[simp ↓] theorem x_wGix (tab t env P) : wGix tab t env P = t env fun o env1 => @onS _ (o.res env1) ⟨fun d => @onStr d ⟨fun s => @onS _ (lookS s tab) ⟨fun d => P (fz d) env1⟩⟩⟩ := by
  unfold wGix
  congr 1; funext o env1
  rw [← onStr_eq]
  simp only [← onS_eq]
  exact propext ⟨fun ⟨s, d, a, b, c⟩ => ⟨s, a, d, b, c⟩, fun ⟨s, a, d, b, c⟩ => ⟨s, d, a, b, c⟩⟩
@[simp ↓] theorem x_gixM {G : Gm} (k b env P) : wM G (.gix k b) env P = @onS _ G.ds[k]? ⟨fun tab => wGix tab (opX b (wM G b)) env P⟩ := by
  unfold wM; cases G.ds[k]? <;> rfl
@[simp ↓] theorem x_ginM {G : Gm} (k neg b env P) : wM G (.gin k neg b) env P = @onS _ G.ds[k]? ⟨fun tab => wGin neg tab (opX b (wM G b)) env P⟩ := by
  unfold wM; cases G.ds[k]? <;> rfl
@[simp ↓] theorem x_ginT {G : Gm} (k neg b env P) : wT G (.gin k neg b) env P = @onS _ G.ds[k]? ⟨fun tab => wTB (wGin neg tab (opX b (wM G b))) env P⟩ := by
  unfold wT
  cases G.ds[k]? with
  | none => exact propext ⟨fun h => h, fun h => h⟩
  | some tab => rfl
@[simp ↓] theorem x_wGin (neg tab t env P) : wGin neg tab t env P = t env fun o env1 => @onS _ (o.res env1) ⟨fun d => @onStr d ⟨fun s => P (fz (.bl (if neg then !(lookS s tab).isSome else (lookS s tab).isSome))) env1⟩⟩ := by
  unfold wGin
  congr 1; funext o env1
  exact onStr_eq _ _
@[simp ↓] theorem x_callv {G : Gm} (i a) : wM G (.callv i a) = wCallV G.fs i (wAs G a) := by rw [wM]
@[simp ↓] theorem x_wCallV (fs i ts env P) : wCallV fs i ts env P = @onSS _ env[i]? ⟨fun v => @onFn v.d ⟨fun x => @onS _ (findFE x fs) ⟨fun f => wCallF f.n f.t ts env P⟩⟩⟩ := by
  unfold wCallV
  rw [← onFn_eq]
  simp only [← onS_eq]
  exact propext ⟨fun ⟨o, x, f, a, b, c⟩ => ⟨o, x, a, f, b, c⟩, fun ⟨o, x, a, f, b, c⟩ => ⟨o, x, f, a, b, c⟩⟩
def opM (s : SM) (x : D) (ds : List D) [k : Kt Val] : Prop := s x ds k.run
def opU (s : SMu) (x : D) (ds : List D) [k : Kt (D × Val)] : Prop := s x ds fun d v => k.run (d, v)
@[simp ↓] theorem x_meth {G : Gm} (m o a) : wM G (.meth m o a) = wMeth m.T m.s (opX o (wM G o)) (wXs G a) := by rw [wM]
@[simp ↓] theorem x_wMeth (T s to ts env P) : wMeth T s to ts env P = to env fun o env1 => @onS _ (o.res env1) ⟨fun x => tyM x = T ∧ ts env1 fun os env2 => @onS _ (o.res env2) ⟨fun x => @onS _ (resAll env2 os) ⟨fun ds => @opM s x ds ⟨fun val => P val env2⟩⟩⟩⟩ := by
  have e : ∀ (o : Opd) (os : List Opd) (env2 : EnvD), (∃ x ds, o.res env2 = some x ∧ resAll env2 os = some ds ∧ s x ds fun val => P val env2) = @onS _ (o.res env2) ⟨fun x => @onS _ (resAll env2 os) ⟨fun ds => @opM s x ds ⟨fun val => P val env2⟩⟩⟩ := by
    intro o os env2
    unfold opM; simp only [ex2, onS_eq]
  unfold wMeth
  simp only [e]
  congr 1; funext o env1
  rw [← onS_eq]
  exact propext ⟨fun ⟨⟨x, a, b⟩, c⟩ => ⟨x, a, b, c⟩, fun ⟨x, a, b, c⟩ => ⟨⟨x, a, b⟩, c⟩⟩
@[simp ↓] theorem x_mutm {G : Gm} (m i a) : wM G (.mutm m i a) = wMut "list" m.s i (wFs G a) := by rw [wM]
def onOw (x : Val) [k : Kt D] : Prop := match x with
  | ⟨true, d⟩ => k.run d
  | _ => False
@[simp] theorem onOw_t (d k) : @onOw ⟨true, d⟩ k = k.run d := (rfl)
theorem onOw_eq {o : Option (Option Val)} {k : D → Prop} : (∃ d, o = some (some ⟨true, d⟩) ∧ k d) = @onSS _ o ⟨fun x => @onOw x ⟨k⟩⟩ := by
  rw [← onSS_eq]
  refine propext ⟨fun ⟨d, h, q⟩ => ⟨_, h, q⟩, fun ⟨x, h, q⟩ => ?_⟩
  obtain ⟨o, d⟩ := x
  cases o with
  | true => exact ⟨d, h, q⟩
  | false => exact (show False from q).elim
@[simp ↓] theorem x_wMut (T s i ts env P) : wMut T s i ts env P = @onSS _ env[i]? ⟨fun x => @onOw x ⟨fun d => tyM d = T ∧ ts env fun os env1 => @onSS _ env1[i]? ⟨fun x => @onOw x ⟨fun d => @onS _ (tms os) ⟨fun ds => @opU s d ds ⟨fun p => P p.2 (env1.set i (some ⟨true, p.1⟩))⟩⟩⟩⟩⟩⟩ := by
  have e : ∀ (os : List Opd) (env1 : EnvD), (∃ d ds, env1[i]? = some (some ⟨true, d⟩) ∧ tms os = some ds ∧ s d ds fun d' val => P val (env1.set i (some ⟨true, d'⟩))) =
      @onSS _ env1[i]? ⟨fun x => @onOw x ⟨fun d => @onS _ (tms os) ⟨fun ds => @opU s d ds ⟨fun p => P p.2 (env1.set i (some ⟨true, p.1⟩))⟩⟩⟩⟩ := by
    intro os env1
    unfold opU; simp only [ex2, onS_eq, onOw_eq]
  unfold wMut
  simp only [e]
  rw [← onOw_eq]
  exact propext ⟨fun ⟨⟨x, a, b⟩, c⟩ => ⟨x, a, b, c⟩, fun ⟨x, a, b, c⟩ => ⟨⟨x, a, b⟩, c⟩⟩
@[simp] theorem tyM_s (s) : tyM (.str s) = "str" := (rfl)
@[simp] theorem tyM_l (s) : tyM (.lst s) = "list" := (rfl)
@[simp] theorem tyM_d (k s) : tyM (.dic k s) = "dict" := (rfl)
@[simp] theorem Mth_T0 : Mth.T .join = "str" := (rfl)
@[simp] theorem Mth_s0 : Mth.s .join = sJoin := (rfl)
@[simp] theorem Mth_T1 : Mth.T .strip = "str" := (rfl)
@[simp] theorem Mth_s1 : Mth.s .strip = sStrp := (rfl)
@[simp] theorem o_strp (a b k) : @opM sStrp (.str a) [.str b] k = (a.length ≤ 16777216 ∧ k.run (fz (.str (Txt.stripChars a b)))) := (rfl)
@[simp] theorem Mut_s0 : Mut.s .rev = suRev := (rfl)
@[simp] theorem Mut_s1 : Mut.s .clear = suClear := (rfl)
@[simp] theorem Mut_s2 : Mut.s .pop = suPop := (rfl)
@[simp] theorem Mut_s3 : Mut.s .popAt = suPopAt := (rfl)
@[simp] theorem Mut_s4 : Mut.s .ins = suIns := (rfl)
@[simp] theorem Mut_s5 : Mut.s .app = suApp := (rfl)
@[simp] theorem o_joinl (a xs k) : @opM sJoin (.str a) [.lst xs] k = @onS _ (unStrs xs) ⟨fun ss => (ss.map (·.length)).sum + ss.length * a.length ≤ 16777216 ∧ k.run (fz (.str (Str.join a ss)))⟩ := by rw [← onS_eq]; rfl
@[simp] theorem o_joint (a xs k) : @opM sJoin (.str a) [.tup xs] k = @onS _ (unStrs xs) ⟨fun ss => (ss.map (·.length)).sum + ss.length * a.length ≤ 16777216 ∧ k.run (fz (.str (Str.join a ss)))⟩ := by rw [← onS_eq]; rfl
@[simp] theorem o_mrev (xs k) : @opU suRev (.lst xs) [] k = k.run (.lst xs.reverse, fz .non) := (rfl)
@[simp] theorem o_mclear (xs k) : @opU suClear (.lst xs) [] k = k.run (.lst [], fz .non) := (rfl)
@[simp] theorem o_mpop (xs k) : @opU suPop (.lst xs) [] k = @onS _ xs[xs.length - 1]? ⟨fun d => k.run (.lst xs.dropLast, fz d)⟩ := by rw [← onS_eq]; rfl
@[simp] theorem o_mpopAt (xs i k) : @opU suPopAt (.lst xs) [.int i] k = ((-(2 ^ 63) ≤ i ∧ i < 2 ^ 63) ∧ @onS _ (seqIndex? i xs.length) ⟨fun n => @onS _ xs[n]? ⟨fun d => k.run (.lst (xs.eraseIdx n), fz d)⟩⟩) := by
  simp only [← onS_eq]
  exact propext ⟨fun ⟨n, d, a, b, c, q⟩ => ⟨a, n, b, d, c, q⟩, fun ⟨a, n, b, d, c, q⟩ => ⟨n, d, a, b, c, q⟩⟩
@[simp] theorem o_mins (xs i d k) : @opU suIns (.lst xs) [.int i, d] k = ((xs.length < 16777216 ∧ 0 ≤ i ∧ i < 2 ^ 63) ∧ k.run (.lst (xs.take i.toNat ++ [d] ++ xs.drop i.toNat), fz .non)) := (rfl)
@[simp] theorem o_mapp (xs d k) : @opU suApp (.lst xs) [d] k = (xs.length < 16777216 ∧ k.run (.lst (xs ++ [d]), fz .non)) := (rfl)
@[simp ↓] theorem x_dp1 {G : Gm} (i a) : wM G (.dp1 i a) = wDpop1 i (opX a (wM G a)) := by rw [wM]
@[simp ↓] theorem x_dp2 {G : Gm} (i a b) : wM G (.dp2 i a b) = wDpop2 i (opX a (wM G a)) (opX b (wM G b)) := by rw [wM]
theorem onOD_eq {o : Option (Option Val)} {k : List D × List D → Prop} : (∃ ks ds, o = some (some ⟨true, .dic ks ds⟩) ∧ k (ks, ds)) = @onSS _ o ⟨fun x => @onOw x ⟨fun d => @onDic d ⟨k⟩⟩⟩ := by
  rw [← onOw_eq]
  refine propext ⟨fun ⟨ks, ds, h, q⟩ => ⟨_, h, q⟩, fun ⟨d, h, q⟩ => ?_⟩
  cases d with
  | dic ks ds => exact ⟨ks, ds, h, q⟩
  | _ => exact (show False from q).elim
@[simp ↓] theorem x_wDpop2 (i tk tx env P) : wDpop2 i tk tx env P = @onSS _ env[i]? ⟨fun x => @onOw x ⟨fun d => @onDic d ⟨fun _ => tk env fun o env1 => tx env1 fun o2 env2 => @onSS _ env2[i]? ⟨fun x => @onOw x ⟨fun d => @onDic d ⟨fun p => @onS _ (o.res env2) ⟨fun y => @onS _ (o2.res env2) ⟨fun z => @onS _ (keyU y) ⟨fun k =>
    plainD z = true ∧ (∀ d, dget p.1 p.2 k = some d → P (fz d) (env2.set i (some ⟨true, .dic (ddrop p.1 p.2 k).1 (ddrop p.1 p.2 k).2⟩))) ∧ (dget p.1 p.2 k = none → P (fz z) env2)⟩⟩⟩⟩⟩⟩⟩⟩⟩ := by
  have e : ∀ (o o2 : Opd) (env2 : EnvD), (∃ ks ds y z k, env2[i]? = some (some ⟨true, .dic ks ds⟩) ∧ o.res env2 = some y ∧ o2.res env2 = some z ∧ plainD z = true ∧ keyU y = some k ∧
      (∀ d, dget ks ds k = some d → P (fz d) (env2.set i (some ⟨true, .dic (ddrop ks ds k).1 (ddrop ks ds k).2⟩))) ∧ (dget ks ds k = none → P (fz z) env2)) = @onSS _ env2[i]? ⟨fun x => @onOw x ⟨fun d => @onDic d ⟨fun p => @onS _ (o.res env2) ⟨fun y => @onS _ (o2.res env2) ⟨fun z => @onS _ (keyU y) ⟨fun k =>
    plainD z = true ∧ (∀ d, dget p.1 p.2 k = some d → P (fz d) (env2.set i (some ⟨true, .dic (ddrop p.1 p.2 k).1 (ddrop p.1 p.2 k).2⟩))) ∧ (dget p.1 p.2 k = none → P (fz z) env2)⟩⟩⟩⟩⟩⟩ := by
    intro o o2 env2
    rw [← onOD_eq]
    simp only [← onS_eq]
    exact propext ⟨fun ⟨ks, ds, y, z, k, a, b, c, d, e, f⟩ => ⟨ks, ds, a, y, b, z, c, k, e, d, f⟩, fun ⟨ks, ds, a, y, b, z, c, k, e, d, f⟩ => ⟨ks, ds, y, z, k, a, b, c, d, e, f⟩⟩
  unfold wDpop2
  simp only [e]
  rw [← onOD_eq]
  exact propext ⟨fun ⟨⟨ks, ds, h⟩, p⟩ => ⟨ks, ds, h, p⟩, fun ⟨ks, ds, h, p⟩ => ⟨⟨ks, ds, h⟩, p⟩⟩
@[simp ↓] theorem x_wDpop1 (i tk env P) : wDpop1 i tk env P = @onSS _ env[i]? ⟨fun x => @onOw x ⟨fun d => @onDic d ⟨fun _ => tk env fun o env1 => @onSS _ env1[i]? ⟨fun x => @onOw x ⟨fun d => @onDic d ⟨fun p => @onS _ (o.res env1) ⟨fun y => @onS _ (keyU y) ⟨fun k => @onS _ (dget p.1 p.2 k) ⟨fun d =>
    P (fz d) (env1.set i (some ⟨true, .dic (ddrop p.1 p.2 k).1 (ddrop p.1 p.2 k).2⟩))⟩⟩⟩⟩⟩⟩⟩⟩⟩ := by
  have e : ∀ (o : Opd) (env1 : EnvD), (∃ ks ds y k d, env1[i]? = some (some ⟨true, .dic ks ds⟩) ∧ o.res env1 = some y ∧ keyU y = some k ∧ dget ks ds k = some d ∧ P (fz d) (env1.set i (some ⟨true, .dic (ddrop ks ds k).1 (ddrop ks ds k).2⟩))) =
      @onSS _ env1[i]? ⟨fun x => @onOw x ⟨fun d => @onDic d ⟨fun p => @onS _ (o.res env1) ⟨fun y => @onS _ (keyU y) ⟨fun k => @onS _ (dget p.1 p.2 k) ⟨fun d => P (fz d) (env1.set i (some ⟨true, .dic (ddrop p.1 p.2 k).1 (ddrop p.1 p.2 k).2⟩))⟩⟩⟩⟩⟩⟩ := by
    intro o env1
    rw [← onOD_eq]
    simp only [← onS_eq]
    exact propext ⟨fun ⟨ks, ds, y, k, d, a, b, c, e, f⟩ => ⟨ks, ds, a, y, b, k, c, d, e, f⟩, fun ⟨ks, ds, a, y, b, k, c, d, e, f⟩ => ⟨ks, ds, y, k, d, a, b, c, e, f⟩⟩
  unfold wDpop1
  simp only [e]
  rw [← onOD_eq]
  exact propext ⟨fun ⟨⟨ks, ds, h⟩, p⟩ => ⟨ks, ds, h, p⟩, fun ⟨ks, ds, h, p⟩ => ⟨⟨ks, ds, h⟩, p⟩⟩
@[simp ↓] theorem x_sdi {G : Gm} (a) : wM G (.sdi a) = wUn sSortIt (opX a (wM G a)) := by rw [wM]
@[simp] theorem o_sdi (ks ds k) : @op1 sSortIt (.dic ks ds) k = (okSort (itemsL ks ds) = true ∧ k.run ⟨true, .lst (sortD (itemsL ks ds))⟩) := (rfl)
@[simp ↓] theorem x_sst {G : Gm} (a) : wM G (.sst a) = wUn sSst (opX a (wM G a)) := by rw [wM]
@[simp ↓] theorem x_upr {G : Gm} (a) : wM G (.upr a) = wUn sUpr (opX a (wM G a)) := by rw [wM]
@[simp] theorem o_sst_l (xs k) : @op1 sSst (.lst xs) k = @onS _ (unStrs xs) ⟨fun ss => ss.length ≤ 4000 ∧ k.run ⟨true, .lst ((usort ss).map .str)⟩⟩ := by rw [← onS_eq]; rfl
@[simp] theorem o_sst_t (xs k) : @op1 sSst (.tup xs) k = @onS _ (unStrs xs) ⟨fun ss => ss.length ≤ 4000 ∧ k.run ⟨true, .lst ((usort ss).map .str)⟩⟩ := by rw [← onS_eq]; rfl
@[simp] theorem o_upr (a k) : @op1 sUpr (.str a) k = (a.length ≤ 5592405 ∧ PyData.strOk (Txt.upper a) = true ∧ k.run (fz (.str (Txt.upper a)))) := (rfl)
@[simp ↓] theorem x_lrep {G : Gm} (a b) : wM G (.lrep a b) = wLrep (wFs G a) (opX b (wM G b)) := by rw [wM]
@[simp ↓] theorem x_wLrep (ts tb env P) : wLrep ts tb env P = ts env fun os env1 => @onS _ (tms os) ⟨fun ds => ds.length ≤ 16777216 ∧ tb env1 fun o env2 => @onS _ (o.res env2) ⟨fun d => @onI d ⟨fun k => (-(2 ^ 63) ≤ k ∧ k < 2 ^ 63 ∧ ds.length * k.toNat ≤ 16777216) ∧ P ⟨true, .lst (List.replicate k.toNat ds).flatten⟩ env2⟩⟩⟩ := by
  have e : ∀ (ds : List D) (o : Opd) (env2 : EnvD), (∃ k, o.res env2 = some (.int k) ∧ (-(2 ^ 63) ≤ k ∧ k < 2 ^ 63 ∧ ds.length * k.toNat ≤ 16777216) ∧ P ⟨true, .lst (List.replicate k.toNat ds).flatten⟩ env2) =
      @onS _ (o.res env2) ⟨fun d => @onI d ⟨fun k => (-(2 ^ 63) ≤ k ∧ k < 2 ^ 63 ∧ ds.length * k.toNat ≤ 16777216) ∧ P ⟨true, .lst (List.replicate k.toNat ds).flatten⟩ env2⟩⟩ := by
    intro ds o env2
    rw [← onS_eq]
    simp only [← onI_eq]
    exact propext ⟨fun ⟨k, a, b⟩ => ⟨_, a, k, rfl, b⟩, fun ⟨d, a, k, h, b⟩ => ⟨k, by rw [a, h], b⟩⟩
  unfold wLrep
  simp only [e]
  rw [x_wLst]
  congr 1; funext os env1
  simp only [← onS_eq]
  exact propext ⟨fun ⟨ds, a, b, ds', h, c⟩ => ⟨ds, a, b, by cases h; exact c⟩, fun ⟨ds, a, b, c⟩ => ⟨ds, a, b, ds, rfl, c⟩⟩
@[simp] theorem o_sorted_t (xs k) : @opN sSortedA [.tup xs] k = (okSort xs = true ∧ k.run ⟨true, .lst (sortD xs)⟩) := (rfl)
@[simp] theorem o_sorted (xs k) : @opN sSortedA [.lst xs] k = (okSort xs = true ∧ k.run ⟨true, .lst (sortD xs)⟩) := (rfl)
@[simp] theorem o_dict_t (xs k) : @opN sDict [.tup xs] k = @onS _ (unPairs xs) ⟨fun l => k.run ⟨true, .dic (dmerge ([], []) l).1 (dmerge ([], []) l).2⟩⟩ := by rw [← onS_eq]; rfl
@[simp] theorem o_dict_l (xs k) : @opN sDict [.lst xs] k = @onS _ (unPairs xs) ⟨fun l => k.run ⟨true, .dic (dmerge ([], []) l).1 (dmerge ([], []) l).2⟩⟩ := by rw [← onS_eq]; rfl
@[simp] theorem o_dict_d (ks ds k) : @opN sDict [.dic ks ds] k = k.run ⟨true, .dic ks ds⟩ := (rfl)
@[simp] theorem o_ix_s (s i k) : @op2 sIxA (.str s) (.int i) k = (s.length ≤ 16777216 ∧ @onS _ (atI s.cps.toList i) ⟨fun c => k.run (fz (.str ⟨#[c]⟩))⟩) := by rw [← onS_eq]; exact propext ⟨fun h => h.elim id fun z => (show False from z).elim, .inl⟩
@[simp ↓] theorem opX_gix (a b t) : opX (.gix a b) t = wTm t := (rfl)
@[simp ↓] theorem opX_callv (a b t) : opX (.callv a b) t = wTm t := (rfl)
@[simp ↓] theorem opX_meth (a b c t) : opX (.meth a b c) t = wTm t := (rfl)
@[simp ↓] theorem opX_mutm (a b c t) : opX (.mutm a b c) t = wTm t := (rfl)
@[simp ↓] theorem opX_dp1 (a b t) : opX (.dp1 a b) t = wTm t := (rfl)
@[simp ↓] theorem opX_dp2 (a b c t) : opX (.dp2 a b c) t = wTm t := (rfl)
@[simp ↓] theorem opX_sdi (a t) : opX (.sdi a) t = wTm t := (rfl)
@[simp ↓] theorem opX_sst (a t) : opX (.sst a) t = wTm t := (rfl)
@[simp ↓] theorem opX_upr (a t) : opX (.upr a) t = wTm t := (rfl)
@[simp ↓] theorem opX_lrep (a b t) : opX (.lrep a b) t = wTm t := (rfl)
@[simp ↓] theorem x_nev {G : Gm} (env P) : wS G .nev env P = False := by rw [wS]
def onQ1 (l : List D) [k : Kt (List D)] : Prop := match l with
  | [.lst i] => k.run i
  | [.tup i] => k.run i
  | _ => False
@[simp] theorem onQ1_l (i k) : @onQ1 [.lst i] k = k.run i := (rfl)
@[simp] theorem onQ1_t (i k) : @onQ1 [.tup i] k = k.run i := (rfl)
@[simp ↓] theorem x_wiEnumA (t env P) : wiEnumA t env P = t env fun os env1 => @onS _ (tms os) ⟨fun l => @onQ1 l ⟨fun j => P (enumD j) env1⟩⟩ := by
  unfold wiEnumA
  congr 1; funext os env1
  rw [← onS_eq]
  refine propext ⟨fun ⟨d, ds, h, hd, q⟩ => ⟨_, h, ?_⟩, fun ⟨l, e, q⟩ => ?_⟩
  · rcases hd with rfl | rfl <;> exact q
  · unfold onQ1 at q
    split at q
    · exact ⟨_, _, e, .inl rfl, q⟩
    · exact ⟨_, _, e, .inr rfl, q⟩
    · exact q.elim
end TL

/-! WL: wishes, states, answers in plain Lean; what done tells -/
namespace WL
open PySem PySem.Spec PyProof.Rows L2 TL
abbrev Row := Str × Int
def rowD (p : Row) : D := .tup [.str p.1, .int p.2]
def leP (a b : Row) : Bool := leS (rowD a) (rowD b)
theorem pyT_row (p : Row) : pyT (rowD p) = .tuple [.str p.1, .int p.2] := rfl
theorem leP_eq (a b : Row) : leP a b = PySem.W.sortLe (listOrd itemOrd) false (fun p : Row => PySem.W.keyToks (.tuple [.str p.1, .int p.2])) a b := rfl
theorem leP_trans (a b c : Row) (h1 : leP a b = true) (h2 : leP b c = true) : leP a c = true := (PySem.W.sortLe_total (listOrd itemOrd) false (fun p : Row => PySem.W.keyToks (.tuple [.str p.1, .int p.2]))).trans a b c h1 h2
theorem leP_total (a b : Row) : (leP a b || leP b a) = true := by
  rw [Bool.or_eq_true]
  exact (PySem.W.sortLe_total (listOrd itemOrd) false (fun p : Row => PySem.W.keyToks (.tuple [.str p.1, .int p.2]))).total a b
theorem leP_anti {a b : Row} (h1 : leP a b = true) (h2 : leP b a = true) : a = b := by
  have e1 : (!(listOrd itemOrd).blt (PySem.W.keyToks (.tuple [.str b.1, .int b.2])) (PySem.W.keyToks (.tuple [.str a.1, .int a.2]))) = true := h1
  have e2 : (!(listOrd itemOrd).blt (PySem.W.keyToks (.tuple [.str a.1, .int a.2])) (PySem.W.keyToks (.tuple [.str b.1, .int b.2]))) = true := h2
  have e := (listOrd itemOrd).total _ _ (by simpa using e2) (by simpa using e1)
  have e3 : [Sum.inl (1 : Int), Sum.inr a.1.cps.toList, Sum.inl 1, Sum.inl a.2, Sum.inl 0] = [Sum.inl (1 : Int), Sum.inr b.1.cps.toList, Sum.inl 1, Sum.inl b.2, Sum.inl 0] := e
  simp only [List.cons.injEq, Sum.inr.injEq, Sum.inl.injEq, true_and, and_true] at e3
  exact Prod.ext (PySem.W.str_of_cps e3.1) e3.2
def srt (l : List Row) : List Row := l.mergeSort leP
theorem srt_perm (l : List Row) : (srt l).Perm l := List.mergeSort_perm _ _
theorem srt_sorted (l : List Row) : (srt l).Pairwise fun a b => leP a b = true := List.pairwise_mergeSort leP_trans leP_total l
theorem sorted_eq : ∀ {l m : List Row}, l.Perm m → l.Pairwise (fun a b => leP a b = true) → m.Pairwise (fun a b => leP a b = true) → l = m
  | [], m, p, _, _ => (List.nil_perm.mp p).symm ▸ rfl
  | a :: l, m, p, h1, h2 => by
    cases m with
    | nil => exact absurd p.symm (by simp)
    | cons b m =>
      have e : a = b := by
        rcases List.mem_cons.mp (p.mem_iff.mp List.mem_cons_self) with z | z
        · exact z
        · rcases List.mem_cons.mp (p.mem_iff.mpr List.mem_cons_self) with y | y
          · exact y.symm
          · exact leP_anti ((List.pairwise_cons.mp h1).1 b y) ((List.pairwise_cons.mp h2).1 a z)
      subst e
      rw [sorted_eq (List.perm_cons a |>.mp p) (List.pairwise_cons.mp h1).2 (List.pairwise_cons.mp h2).2]
theorem srt_congr {l m : List Row} (p : l.Perm m) : srt l = srt m := sorted_eq ((srt_perm l).trans (p.trans (srt_perm m).symm)) (srt_sorted l) (srt_sorted m)
theorem sortD_rows (l : List Row) : sortD (l.map rowD) = (srt l).map rowD := by
  unfold sortD srt
  exact (List.map_mergeSort (r := leP) (s := leS) (f := rowD) fun a _ b _ => rfl).symm
theorem srt_len (l : List Row) : (srt l).length = l.length := (srt_perm l).length_eq
def keys (l : List Row) : List Str := l.map (·.1)
def tyT (l : List Row) : Prop := (keys l).Nodup ∧ srt l = l
def lk : List Row → Str → Option Int
  | [], _ => none
  | p :: l, k => if p.1 = k then some p.2 else lk l k
def put (l : List Row) (k : Str) (n : Int) : List Row := if k ∈ keys l then l.map fun p => if p.1 = k then (p.1, n) else p else l ++ [(k, n)]
def drp (l : List Row) (k : Str) : List Row := l.filter fun p => decide (p.1 ≠ k)
theorem lk_none {l : List Row} {k : Str} : lk l k = none ↔ k ∉ keys l := by
  induction l with
  | nil => simp [lk, keys]
  | cons p l ih =>
    unfold lk
    unfold keys at ih ⊢
    by_cases e : p.1 = k
    · simp [e]
    · simp only [if_neg e, ih, List.map_cons, List.mem_cons, not_or]
      exact ⟨fun h => ⟨fun z => e z.symm, h⟩, fun h => h.2⟩
theorem lk_mem {l : List Row} {k : Str} {n : Int} (h : lk l k = some n) : (k, n) ∈ l := by
  induction l with
  | nil => cases h
  | cons p l ih =>
    unfold lk at h
    split at h
    · rename_i e
      cases h
      rw [← e]; exact List.mem_cons_self
    · exact List.mem_cons_of_mem _ (ih h)
theorem mem_lk {l : List Row} {k : Str} {n : Int} (nd : (keys l).Nodup) (h : (k, n) ∈ l) : lk l k = some n := by
  induction l with
  | nil => cases h
  | cons p l ih =>
    have nd := List.nodup_cons.mp nd
    unfold lk
    rcases List.mem_cons.mp h with h | h
    · subst h; simp
    · rw [if_neg (fun e => nd.1 (by show p.1 ∈ _; rw [e]; exact List.mem_map.mpr ⟨_, h, rfl⟩)), ih nd.2 h]
theorem keys_perm {l m : List Row} (p : l.Perm m) : (keys l).Perm (keys m) := p.map _
theorem nd_perm {l m : List Row} (p : l.Perm m) (h : (keys l).Nodup) : (keys m).Nodup := (keys_perm p).nodup_iff.mp h
theorem lk_perm {l m : List Row} (p : l.Perm m) (nd : (keys l).Nodup) (k : Str) : lk l k = lk m k := by
  cases e : lk l k with
  | some n => exact (mem_lk (nd_perm p nd) (p.mem_iff.mp (lk_mem e))).symm
  | none =>
    symm
    rw [lk_none] at e ⊢
    exact fun h => e ((keys_perm p).mem_iff.mpr h)
theorem put_perm {l m : List Row} (p : l.Perm m) (k : Str) (n : Int) : (put l k n).Perm (put m k n) := by
  unfold put
  by_cases h : k ∈ keys l
  · rw [if_pos h, if_pos ((keys_perm p).mem_iff.mp h)]
    exact p.map _
  · rw [if_neg h, if_neg (fun z => h ((keys_perm p).mem_iff.mpr z))]
    exact p.append_right _
theorem drp_perm {l m : List Row} (p : l.Perm m) (k : Str) : (drp l k).Perm (drp m k) := p.filter _
theorem put_keys {l : List Row} {k : Str} {n : Int} : keys (put l k n) = if k ∈ keys l then keys l else keys l ++ [k] := by
  unfold put
  split
  · unfold keys
    rw [List.map_map]
    apply List.map_congr_left
    intro p _
    show (if p.1 = k then (p.1, n) else p).1 = p.1
    split <;> rfl
  · simp [keys]
theorem put_nd {l : List Row} {k : Str} {n : Int} (h : (keys l).Nodup) : (keys (put l k n)).Nodup := by
  rw [put_keys]
  split
  · exact h
  · rename_i hk
    exact List.nodup_append.mpr ⟨h, by simp, fun a ha b hb => by simp at hb; subst hb; exact fun e => hk (e ▸ ha)⟩
theorem drp_nd {l : List Row} {k : Str} (h : (keys l).Nodup) : (keys (drp l k)).Nodup := h.sublist (List.Sublist.map _ List.filter_sublist)
theorem put_back {l : List Row} {k : Str} {a n : Int} (nd : (keys l).Nodup) (h : lk l k = some a) : put (put l k n) k a = l := by
  have hk : k ∈ keys l := by
    rcases Classical.em (k ∈ keys l) with z | z
    · exact z
    · rw [lk_none.mpr z] at h; cases h
  have hk2 : k ∈ keys (put l k n) := by rw [put_keys, if_pos hk]; exact hk
  rw [put, if_pos hk2]
  unfold put
  rw [if_pos hk, List.map_map]
  conv => rhs; rw [← List.map_id l]
  apply List.map_congr_left
  intro p hp
  show (if (if p.1 = k then (p.1, n) else p).1 = k then ((if p.1 = k then (p.1, n) else p).1, a) else (if p.1 = k then (p.1, n) else p)) = p
  by_cases e : p.1 = k
  · simp only [if_pos e]
    have : lk l p.1 = some p.2 := mem_lk nd hp
    rw [e, h] at this
    cases this
    rfl
  · simp only [if_neg e]
theorem put_self {l : List Row} {k : Str} {a : Int} (nd : (keys l).Nodup) (h : lk l k = some a) : put l k a = l := by
  have := put_back (n := a) nd h
  have hk : k ∈ keys l := by
    rcases Classical.em (k ∈ keys l) with z | z
    · exact z
    · rw [lk_none.mpr z] at h; cases h
  unfold put at this ⊢
  rw [if_pos hk] at this ⊢
  conv => rhs; rw [← List.map_id l]
  apply List.map_congr_left
  intro p hp
  show (if p.1 = k then (p.1, a) else p) = p
  by_cases e : p.1 = k
  · rw [if_pos e]
    have : lk l p.1 = some p.2 := mem_lk nd hp
    rw [e, h] at this
    cases this
    rfl
  · rw [if_neg e]
theorem drp_put {l : List Row} {k : Str} {n : Int} (h : lk l k = none) : drp (put l k n) k = l := by
  have hk := lk_none.mp h
  unfold put drp
  rw [if_neg hk, List.filter_append, List.filter_eq_self.mpr, List.filter_cons_of_neg (by simp)]
  · simp
  · intro p hp
    simp only [decide_eq_true_eq]
    exact fun e => hk (e ▸ List.mem_map.mpr ⟨p, hp, rfl⟩)
theorem drp_none {l : List Row} {k : Str} (h : lk l k = none) : drp l k = l := by
  have hk := lk_none.mp h
  unfold drp
  rw [List.filter_eq_self.mpr]
  intro p hp
  simp only [decide_eq_true_eq]
  exact fun e => hk (e ▸ List.mem_map.mpr ⟨p, hp, rfl⟩)
theorem put_drp {l : List Row} {k : Str} {a : Int} (nd : (keys l).Nodup) (h : lk l k = some a) : (put (drp l k) k a).Perm l := by
  induction l with
  | nil => cases h
  | cons p l ih =>
    have nd' := List.nodup_cons.mp nd
    have nk : k ∉ keys (drp (p :: l) k) := by
      unfold keys drp
      simp
    unfold put
    rw [if_neg nk]
    unfold lk at h
    unfold drp
    by_cases e : p.1 = k
    · rw [if_pos e] at h
      cases h
      rw [List.filter_cons_of_neg (by simp [e])]
      have : l.filter (fun p => decide (p.1 ≠ k)) = l := by
        rw [List.filter_eq_self.mpr]
        intro q hq
        simp only [decide_eq_true_eq]
        exact fun e2 => nd'.1 (by show p.1 ∈ _; rw [e, ← e2]; exact List.mem_map.mpr ⟨q, hq, rfl⟩)
      rw [this, ← e]
      exact List.perm_append_singleton _ _
    · rw [if_neg e] at h
      rw [List.filter_cons_of_pos (by simp [e])]
      have nk2 : k ∉ keys (drp l k) := by unfold keys drp; simp
      have := ih nd'.2 h
      unfold put at this
      rw [if_neg nk2] at this
      exact this.cons p
/-! ### as data -/
def sD (l : List Row) : List D := l.map fun p => .str p.1
def iD (l : List Row) : List D := l.map fun p => .int p.2
def pD (l : List Row) : List (Key × D) := l.map fun p => (.inr p.1, .int p.2)
@[simp] theorem unPairs_rows : ∀ l : List Row, unPairs (l.map rowD) = some (pD l)
  | [] => rfl
  | p :: l => by
    show (match unPair (rowD p), unPairs (l.map rowD) with | some x, some xs => some (x :: xs) | _, _ => none) = _
    rw [unPairs_rows l]; rfl
@[simp] theorem itemsL_rows : ∀ l : List Row, itemsL (sD l) (iD l) = l.map rowD
  | [] => rfl
  | p :: l => by
    show rowD p :: itemsL (sD l) (iD l) = _
    rw [itemsL_rows l]; rfl
theorem any_key_rows (l : List Row) (k : Str) : ((sD l).any fun x => decide (keyU x = some (.inr k))) = decide (k ∈ keys l) := by
  unfold sD keys
  rw [List.any_map]
  induction l with
  | nil => rfl
  | cons p l ih =>
    rw [List.any_cons, ih]
    show (decide ((some (Sum.inr p.1) : Option Key) = some (.inr k)) || _) = _
    by_cases e : p.1 = k
    · simp [e]
    · have : ¬ ((some (Sum.inr p.1) : Option Key) = some (.inr k)) := fun z => e (by cases z; rfl)
      rw [decide_eq_false this]
      simp [Ne.symm e]
theorem dput_rows (l : List Row) (k : Str) (n : Int) : dput (sD l) (iD l) (.inr k) (.int n) = (sD (put l k n), iD (put l k n)) := by
  unfold dput put
  rw [any_key_rows]
  by_cases h : k ∈ keys l
  · simp only [h, decide_true, if_true]
    refine Prod.ext ?_ ?_
    · show sD l = _
      unfold sD
      rw [List.map_map]
      apply List.map_congr_left
      intro p _
      show D.str p.1 = .str (if p.1 = k then (p.1, n) else p).1
      split <;> rfl
    · show List.zipWith _ (sD l) (iD l) = _
      unfold sD iD
      rw [List.map_map]
      clear h
      induction l with
      | nil => rfl
      | cons p l ih =>
        simp only [List.map_cons, List.zipWith_cons_cons]
        rw [ih]
        congr 1
        show (if (some (Sum.inr p.1) : Option Key) = some (.inr k) then D.int n else .int p.2) = .int (if p.1 = k then (p.1, n) else p).2
        by_cases e : p.1 = k
        · rw [if_pos (by rw [e]), if_pos e]
        · rw [if_neg (fun z => e (by cases z; rfl)), if_neg e]
  · simp only [h, decide_false, if_false, Bool.false_eq_true]
    simp [sD, iD, keyD]
theorem dget_rows (l : List Row) (k : Str) : dget (sD l) (iD l) (.inr k) = (lk l k).map .int := by
  induction l with
  | nil => rfl
  | cons p l ih =>
    unfold sD iD at ih ⊢
    simp only [List.map_cons]
    unfold lk
    unfold dget
    show (if (some (Sum.inr p.1) : Option Key) = some (.inr k) then _ else _) = _
    by_cases e : p.1 = k
    · rw [if_pos (by rw [e]), if_pos e]; rfl
    · rw [if_neg (fun z => e (by cases z; rfl)), if_neg e]; exact ih
theorem ddrop_rows (l : List Row) (k : Str) : ddrop (sD l) (iD l) (.inr k) = (sD (drp l k), iD (drp l k)) := by
  induction l with
  | nil => rfl
  | cons p l ih =>
    unfold ddrop at ih ⊢
    unfold sD iD drp at ih ⊢
    simp only [Prod.mk.injEq] at ih
    simp only [List.map_cons, List.zip_cons_cons]
    have kp : keyU (D.str p.1) = some (.inr p.1) := rfl
    by_cases e : p.1 = k
    · rw [List.filter_cons_of_neg (by rw [kp, e]; simp), List.filter_cons_of_neg (by simp only [kp, e]; simp), List.filter_cons_of_neg (by simp [e])]
      exact Prod.ext ih.1 ih.2
    · have ne : ¬ ((some (Sum.inr p.1) : Option Key) = some (.inr k)) := fun z => e (by cases z; rfl)
      rw [List.filter_cons_of_pos (by rw [kp]; exact decide_eq_true ne), List.filter_cons_of_pos (by simp only [kp]; exact decide_eq_true ne), List.filter_cons_of_pos (by simp [e])]
      simp only [List.map_cons]
      exact Prod.ext (congrArg (D.str p.1 :: ·) ih.1) (congrArg (D.int p.2 :: ·) ih.2)
theorem dmerge_rows : ∀ (l acc : List Row), (keys (acc ++ l)).Nodup → dmerge (sD acc, iD acc) (pD l) = (sD (acc ++ l), iD (acc ++ l))
  | [], acc, _ => by rw [List.append_nil]; rfl
  | p :: l, acc, h => by
    have nk : p.1 ∉ keys acc := by
      unfold keys at h ⊢
      rw [List.map_append, List.nodup_append] at h
      exact fun z => h.2.2 _ z _ (by simp) rfl
    show dmerge (dput (sD acc) (iD acc) (.inr p.1) (.int p.2)) (pD l) = _
    rw [dput_rows]
    unfold put
    rw [if_neg nk, dmerge_rows l _ (by rw [List.append_assoc]; exact h), List.append_assoc]
    rfl
theorem dict_rows {l : List Row} (h : (keys l).Nodup) : dmerge ([], []) (pD l) = (sD l, iD l) := by
  have := dmerge_rows l [] (by simpa using h)
  simpa [sD, iD] using this
theorem pures_rows : ∀ l : List Row, pures (l.map rowD) = true
  | [] => rfl
  | p :: l => by
    show (pure' (rowD p) && pures (l.map rowD)) = true
    rw [pures_rows l]; rfl
theorem okSort_rows (l : List Row) : okSort (l.map rowD) = true := by
  unfold okSort
  rw [pures_rows, Bool.true_and]
  simp only [Bool.and_eq_true, Bool.or_eq_true, List.all_eq_true, List.mem_map]
  refine ⟨⟨?_, .inl ?_⟩, ?_⟩
  · unfold alikeD
    rw [List.all_eq_true]
    intro x hx
    rw [List.all_eq_true]
    intro y hy
    obtain ⟨p, _, rfl⟩ := List.mem_map.mp hx
    obtain ⟨q, _, rfl⟩ := List.mem_map.mp hy
    rfl
  · rintro _ ⟨p, _, rfl⟩; rfl
  · rintro _ ⟨p, _, rfl⟩; rfl
/-! ### kinds, states, wishes, answers -/
inductive Kd where
  | counter | pile | queue | table
  deriving DecidableEq
inductive Sta where
  | num (i : Int) | seq (l : List Int) | tab (l : List Row)
inductive Wi where
  | add (n : Int) | lift (n : Int) | read | put (n : Int) | take | set (k : Str) (n : Int) | get (k : Str) | drop (k : Str)
inductive An where
  | non | yes | num (i : Int)
def kdS : Kd → Str
  | .counter => "counter" | .pile => "pile" | .queue => "queue" | .table => "table"
def unKd (s : Str) : Option Kd := if s = "counter" then some .counter else if s = "pile" then some .pile else if s = "queue" then some .queue else if s = "table" then some .table else none
def stD : Sta → D
  | .num i => .int i | .seq l => .tup (l.map .int) | .tab l => .tup (l.map rowD)
def wiD : Wi → D
  | .add n => .tup [.str "add", .int n] | .lift n => .tup [.str "lift", .int n] | .read => .tup [.str "read"]
  | .put n => .tup [.str "put", .int n] | .take => .tup [.str "take"]
  | .set k n => .tup [.str "set", .str k, .int n] | .get k => .tup [.str "get", .str k] | .drop k => .tup [.str "drop", .str k]
def anD : An → D
  | .non => .non | .yes => .bl true | .num i => .int i
def oA : Option Int → An
  | none => .non | some i => .num i
def tyS : Kd → Sta → Prop
  | .counter, .num _ => True
  | .pile, .seq l => l.length < 1000000
  | .queue, .seq l => l.length < 1000000
  | .table, .tab l => tyT l ∧ l.length < 1000000
  | _, _ => False
def tyW : Kd → Wi → Prop
  | .counter, .add _ => True | .counter, .lift _ => True | .counter, .read => True
  | .pile, .put _ => True | .pile, .take => True | .queue, .put _ => True | .queue, .take => True
  | .table, .set _ _ => True | .table, .get _ => True | .table, .drop _ => True
  | _, _ => False
def stp : Kd → Sta → Wi → Sta × An
  | .counter, .num i, .add n => (.num (i + n), .num i)
  | .counter, .num i, .lift n => (.num (if n > i then n else i), .num i)
  | .counter, .num i, .read => (.num i, .num i)
  | .pile, .seq l, .put n => (.seq (l ++ [n]), .yes)
  | .pile, .seq l, .take => (.seq l.dropLast, oA l.getLast?)
  | .queue, .seq l, .put n => (.seq (l ++ [n]), .yes)
  | .queue, .seq l, .take => (.seq l.tail, oA l.head?)
  | .table, .tab l, .set k n => (.tab (srt (put l k n)), oA (lk l k))
  | .table, .tab l, .get k => (.tab (srt l), oA (lk l k))
  | .table, .tab l, .drop k => (.tab (srt (drp l k)), oA (lk l k))
  | _, s, _ => (s, .non)
def unRow : D → Option Row
  | .tup [.str k, .int n] => some (k, n)
  | _ => none
def unRows : List D → Option (List Row)
  | [] => some []
  | d :: ds => match unRow d, unRows ds with
    | some x, some xs => some (x :: xs)
    | _, _ => none
@[simp] theorem unRows_w : ∀ l : List Row, unRows (l.map rowD) = some l
  | [] => rfl
  | p :: l => by
    show (match unRow (rowD p), unRows (l.map rowD) with | some x, some xs => some (x :: xs) | _, _ => none) = _
    rw [unRows_w l]; rfl
theorem unRow_eq {d : D} {p : Row} (h : unRow d = some p) : d = rowD p := by
  unfold unRow at h
  split at h
  · cases h; rfl
  · cases h
theorem unRows_eq : ∀ {ds : List D} {l : List Row}, unRows ds = some l → ds = l.map rowD
  | [], _, h => by cases h; rfl
  | d :: ds, l, h => by
    unfold unRows at h
    split at h
    · rename_i x xs e1 e2
      cases h
      rw [unRow_eq e1, unRows_eq e2]; rfl
    · cases h
def unSt : Kd → D → Option Sta
  | .counter, .int i => some (.num i)
  | .pile, .tup ds => (unInts ds).map .seq
  | .queue, .tup ds => (unInts ds).map .seq
  | .table, .tup ds => (unRows ds).map .tab
  | _, _ => none
def unWi : Kd → D → Option Wi
  | .counter, .tup [.str w, .int n] => if w = "add" then some (.add n) else if w = "lift" then some (.lift n) else none
  | .counter, .tup [.str w] => if w = "read" then some .read else none
  | .pile, .tup [.str w, .int n] => if w = "put" then some (.put n) else none
  | .pile, .tup [.str w] => if w = "take" then some .take else none
  | .queue, .tup [.str w, .int n] => if w = "put" then some (.put n) else none
  | .queue, .tup [.str w] => if w = "take" then some .take else none
  | .table, .tup [.str w, .str k, .int n] => if w = "set" then some (.set k n) else none
  | .table, .tup [.str w, .str k] => if w = "get" then some (.get k) else if w = "drop" then some (.drop k) else none
  | _, _ => none
theorem unKd_eq {s : Str} {k : Kd} (h : unKd s = some k) : s = kdS k := by
  unfold unKd at h
  split at h
  · cases h; assumption
  · split at h
    · cases h; assumption
    · split at h
      · cases h; assumption
      · split at h
        · cases h; assumption
        · cases h
@[simp] theorem unKd_s (k : Kd) : unKd (kdS k) = some k := by cases k <;> decide +kernel
theorem unSt_eq {k : Kd} {d : D} {s : Sta} (h : unSt k d = some s) : d = stD s := by
  unfold unSt at h
  split at h
  · cases h; rfl
  · rw [Option.map_eq_some_iff] at h
    obtain ⟨l, h, rfl⟩ := h
    rw [unInts_eq h]; rfl
  · rw [Option.map_eq_some_iff] at h
    obtain ⟨l, h, rfl⟩ := h
    rw [unInts_eq h]; rfl
  · rw [Option.map_eq_some_iff] at h
    obtain ⟨l, h, rfl⟩ := h
    rw [unRows_eq h]; rfl
  · cases h
theorem unSt_s {k : Kd} {s : Sta} (h : tyS k s) : unSt k (stD s) = some s := by
  cases k <;> cases s <;> first | exact h.elim | (simp [unSt, stD]; done)
theorem unWi_eq {k : Kd} {d : D} {w : Wi} (h : unWi k d = some w) : d = wiD w ∧ tyW k w := by
  unfold unWi at h
  split at h <;> first | (cases h; done) | skip
  all_goals
    split at h
    · rename_i e
      cases h
      exact ⟨by rw [e]; rfl, trivial⟩
    · first
        | (cases h; done)
        | (split at h
           · rename_i e
             cases h
             exact ⟨by rw [e]; rfl, trivial⟩
           · cases h)
theorem unWi_w {k : Kd} {w : Wi} (h : tyW k w) : unWi k (wiD w) = some w := by
  cases k <;> cases w <;> first | exact h.elim | (simp [unWi, wiD, Str_inj]; done)
def sz : Sta → Nat
  | .num _ => 0 | .seq l => l.length | .tab l => l.length
theorem put_len (l : List Row) (k : Str) (n : Int) : (put l k n).length ≤ l.length + 1 := by
  unfold put
  split <;> simp
theorem drp_len (l : List Row) (k : Str) : (drp l k).length ≤ l.length := List.length_filter_le _ _
theorem tyT_srt {l : List Row} (h : (keys l).Nodup) : tyT (srt l) := ⟨nd_perm (srt_perm l).symm h, srt_congr (srt_perm l)⟩
theorem stp_ok {k : Kd} {s : Sta} {w : Wi} (h : tyS k s) (hw : tyW k w) (hz : sz s + 1 < 1000000) : tyS k (stp k s w).1 ∧ sz (stp k s w).1 ≤ sz s + 1 := by
  cases k <;> cases s <;> first | exact h.elim | skip
  · cases w <;> first | exact hw.elim | exact ⟨trivial, by simp [stp, sz]⟩
  · cases w <;> first | exact hw.elim | skip
    all_goals simp only [stp, tyS, sz, List.length_append, List.length_dropLast, List.length_singleton] at h hz ⊢
    all_goals omega
  · cases w <;> first | exact hw.elim | skip
    all_goals simp only [stp, tyS, sz, List.length_append, List.length_tail, List.length_singleton] at h hz ⊢
    all_goals omega
  · rename_i l
    obtain ⟨h1, h2⟩ := (show tyT l ∧ l.length < 1000000 from h)
    have hz : l.length + 1 < 1000000 := hz
    cases w <;> first | exact hw.elim | skip
    · rename_i k n
      have h3 := put_len l k n
      have h4 := srt_len (put l k n)
      exact ⟨⟨tyT_srt (put_nd h1.1), by omega⟩, by show (srt _).length ≤ l.length + 1; omega⟩
    · have h4 := srt_len l
      exact ⟨⟨tyT_srt h1.1, by omega⟩, by show (srt _).length ≤ l.length + 1; omega⟩
    · rename_i k
      have h3 := drp_len l k
      have h4 := srt_len (drp l k)
      exact ⟨⟨tyT_srt (drp_nd h1.1), by omega⟩, by show (srt _).length ≤ l.length + 1; omega⟩
theorem unSt_eqt {k : Kd} {s : Sta} (h : tyS k s) : unSt k (stD s) = some s := unSt_s h
end WL

/-! WLa: dicts of any keys as lists of pairs -/
namespace WL
open PySem PySem.Spec PyProof.Rows L2 TL
abbrev Al := List (Key × D)
def kD (l : Al) : List D := l.map fun p => keyD p.1
def vD (l : Al) : List D := l.map (·.2)
def alk : Al → Key → Option D
  | [], _ => none
  | p :: l, k => if p.1 = k then some p.2 else alk l k
def hasK (l : Al) (k : Key) : Bool := l.any fun p => decide (p.1 = k)
def aput (l : Al) (k : Key) (d : D) : Al := if hasK l k then l.map fun p => if p.1 = k then (p.1, d) else p else l ++ [(k, d)]
def adrp (l : Al) (k : Key) : Al := l.filter fun p => decide (p.1 ≠ k)
theorem dget_al (l : Al) (k : Key) : dget (kD l) (vD l) k = alk l k := by
  induction l with
  | nil => rfl
  | cons p l ih =>
    unfold kD vD at ih ⊢
    simp only [List.map_cons]
    unfold alk dget
    rw [keyU_keyD]
    by_cases e : p.1 = k
    · rw [if_pos (by rw [e]), if_pos e]
    · rw [if_neg (fun z => e (Option.some.inj z)), if_neg e]; exact ih
theorem has_any (l : Al) (k : Key) : ((kD l).any fun x => decide (keyU x = some k)) = hasK l k := by
  unfold kD hasK
  rw [List.any_map]
  congr 1
  funext p
  show decide (keyU (keyD p.1) = some k) = _
  rw [keyU_keyD]
  exact decide_eq_decide.mpr ⟨Option.some.inj, fun h => by rw [h]⟩
theorem dput_al (l : Al) (k : Key) (d : D) : dput (kD l) (vD l) k d = (kD (aput l k d), vD (aput l k d)) := by
  unfold dput aput
  rw [has_any]
  by_cases h : hasK l k = true
  · simp only [h, if_true]
    refine Prod.ext ?_ ?_
    · show kD l = _
      unfold kD
      rw [List.map_map]
      apply List.map_congr_left
      intro p _
      show keyD p.1 = keyD (if p.1 = k then (p.1, d) else p).1
      split <;> rfl
    · show List.zipWith _ (kD l) (vD l) = _
      unfold kD vD
      rw [List.map_map]
      clear h
      induction l with
      | nil => rfl
      | cons p l ih =>
        simp only [List.map_cons, List.zipWith_cons_cons]
        rw [ih]
        congr 1
        show (if keyU (keyD p.1) = some k then d else p.2) = (if p.1 = k then (p.1, d) else p).2
        rw [keyU_keyD]
        by_cases e : p.1 = k
        · rw [if_pos (by rw [e]), if_pos e]
        · rw [if_neg (fun z => e (Option.some.inj z)), if_neg e]
  · simp only [h, if_false, Bool.false_eq_true]
    simp [kD, vD]
theorem ddrop_al (l : Al) (k : Key) : ddrop (kD l) (vD l) k = (kD (adrp l k), vD (adrp l k)) := by
  induction l with
  | nil => rfl
  | cons p l ih =>
    unfold ddrop at ih ⊢
    unfold kD vD adrp at ih ⊢
    simp only [Prod.mk.injEq] at ih
    simp only [List.map_cons, List.zip_cons_cons]
    by_cases e : p.1 = k
    · rw [List.filter_cons_of_neg (by simp [keyU_keyD, e]), List.filter_cons_of_neg (by simp [keyU_keyD, e]), List.filter_cons_of_neg (by simp [e])]
      exact Prod.ext ih.1 ih.2
    · rw [List.filter_cons_of_pos (by simp [keyU_keyD, e]), List.filter_cons_of_pos (by simp [keyU_keyD, e]), List.filter_cons_of_pos (by simp [e])]
      simp only [List.map_cons]
      exact Prod.ext (congrArg (keyD p.1 :: ·) ih.1) (congrArg (p.2 :: ·) ih.2)
theorem alk_has {l : Al} {k : Key} : (alk l k).isSome = hasK l k := by
  induction l with
  | nil => rfl
  | cons p l ih =>
    unfold alk hasK
    rw [List.any_cons]
    by_cases e : p.1 = k
    · simp [e]
    · simp only [if_neg e, e, decide_false, Bool.false_or]; exact ih
theorem alk_put (l : Al) (k k' : Key) (d : D) : alk (aput l k d) k' = if k' = k then some d else alk l k' := by
  unfold aput
  by_cases h : hasK l k = true
  · rw [if_pos h]
    rw [← alk_has] at h
    induction l with
    | nil => cases h
    | cons p l ih =>
      rw [List.map_cons]
      unfold alk
      by_cases e : p.1 = k
      · by_cases e2 : k' = k
        · simp [e, e2]
        · have ne : ¬ k = k' := fun z => e2 z.symm
          simp only [e, if_true, if_neg ne, if_neg e2]
          have aux : ∀ l : Al, alk (l.map fun p => if p.1 = k then (p.1, d) else p) k' = alk l k' := by
            intro l
            induction l with
            | nil => rfl
            | cons q l ih2 =>
              rw [List.map_cons]
              unfold alk
              by_cases e3 : q.1 = k
              · simp only [e3, if_true, if_neg ne]; exact ih2
              · simp only [if_neg e3]; rw [ih2]
          exact aux l
      · simp only [if_neg e]
        have h2 : (alk l k).isSome = true := by
          unfold alk at h
          rw [if_neg e] at h
          exact h
        by_cases e2 : p.1 = k'
        · rw [if_pos e2, if_neg (fun z => e (e2.trans z)), if_pos e2]
        · rw [if_neg e2, ih h2, if_neg e2]
  · rw [if_neg h]
    have hn : alk l k = none := by
      rw [← alk_has] at h
      cases e : alk l k with
      | none => rfl
      | some _ => rw [e] at h; exact absurd rfl h
    clear h
    induction l with
    | nil =>
      show (if k = k' then some d else none) = _
      by_cases e : k' = k
      · simp [e]
      · rw [if_neg (fun z => e z.symm), if_neg e]; rfl
    | cons p l ih =>
      rw [List.cons_append]
      unfold alk at hn ⊢
      by_cases e : p.1 = k
      · rw [if_pos e] at hn; cases hn
      · rw [if_neg e] at hn
        by_cases e2 : p.1 = k'
        · rw [if_pos e2, if_pos e2, if_neg (fun z => e (e2.trans z))]
        · rw [if_neg e2, if_neg e2, ih hn]
theorem alk_drp (l : Al) (k k' : Key) : alk (adrp l k) k' = if k' = k then none else alk l k' := by
  induction l with
  | nil => unfold adrp; simp [alk]
  | cons p l ih =>
    unfold adrp at ih ⊢
    by_cases e : p.1 = k
    · rw [List.filter_cons_of_neg (by simp [e]), ih]
      by_cases e2 : k' = k
      · simp [e2]
      · rw [if_neg e2, if_neg e2]
        show _ = (if p.1 = k' then _ else _)
        rw [if_neg (fun z => e2 (z.symm.trans e))]
    · rw [List.filter_cons_of_pos (by simp [e])]
      show (if p.1 = k' then _ else _) = _
      by_cases e2 : p.1 = k'
      · rw [if_pos e2, if_neg (fun z => e (e2.trans z))]
        show _ = (if p.1 = k' then _ else _)
        rw [if_pos e2]
      · rw [if_neg e2, ih]
        show _ = if k' = k then none else (if p.1 = k' then _ else _)
        rw [if_neg e2]
theorem aput_len (l : Al) (k : Key) (d : D) : (aput l k d).length ≤ l.length + 1 := by
  unfold aput
  split <;> simp
theorem adrp_len (l : Al) (k : Key) : (adrp l k).length ≤ l.length := List.length_filter_le _ _
theorem kD_len (l : Al) : (kD l).length = l.length := List.length_map ..
end WL

/-! WLb: lemmas that the laws' proofs share -/
namespace WL
open PySem PySem.Spec PyProof.Rows L2 TL
theorem pures_i : ∀ l : List Int, pures (l.map .int) = true
  | [] => rfl
  | a :: l => by rw [List.map_cons, x_pus1, pures_i l]; rfl
theorem eqDs_nil {l : List D} : eqDs l [] = decide (l = []) := by
  cases l with
  | nil => rfl
  | cons a l => simp
theorem cut_init {α : Type} (xs : List α) (x : α) : cut (xs ++ [x]) none (some (-1)) = xs := by
  unfold cut
  rw [show HT.sIx (xs ++ [x]).length 0 none = 0 from rfl, List.drop_zero, show HT.sIx (xs ++ [x]).length (xs ++ [x]).length (some (-1)) - 0 = xs.length by
    show (if (-1 : Int) < 0 then ((-1 : Int) + ((xs ++ [x]).length : Int)).toNat else min (-1 : Int).toNat (xs ++ [x]).length) - 0 = _
    rw [if_pos (by omega), List.length_append]; simp; omega]
  exact List.take_left
theorem atI_last {α : Type} (xs : List α) (x : α) : atI (xs ++ [x]) (-1) = some x := by
  unfold atI ixN
  have e : (-1 + (((xs ++ [x]).length : Nat) : Int)).toNat = xs.length := by rw [List.length_append]; simp; omega
  rw [if_neg (by omega), if_pos (by rw [List.length_append]; simp; omega), e]
  simp
theorem cut_tail {α : Type} (x : α) (xs : List α) : cut (x :: xs) (some 1) none = xs := by
  unfold cut HT.sIx
  simp
theorem an_oA (o : Option Int) : anD (oA o) = (o.map D.int).getD .non := by cases o <;> rfl
theorem str_sorted (l : List Str) : okSort (l.map .str) = true := by
  unfold okSort
  have hp : ∀ l : List Str, pures (l.map .str) = true := by
    intro l
    induction l with
    | nil => rfl
    | cons a l ih => rw [List.map_cons, x_pus1, ih]; rfl
  rw [hp, Bool.true_and]
  simp only [Bool.and_eq_true, Bool.or_eq_true, List.all_eq_true, List.mem_map]
  refine ⟨⟨?_, .inr ?_⟩, ?_⟩
  · unfold alikeD
    rw [List.all_eq_true]
    intro x hx
    rw [List.all_eq_true]
    intro y hy
    obtain ⟨p, _, rfl⟩ := List.mem_map.mp hx
    obtain ⟨q, _, rfl⟩ := List.mem_map.mp hy
    rfl
  · rintro _ ⟨p, _, rfl⟩; rfl
  · rintro _ ⟨p, _, rfl⟩; rfl
def leK (a b : Str) : Bool := leS (.str a) (.str b)
theorem leK_trans (a b c : Str) (h1 : leK a b = true) (h2 : leK b c = true) : leK a c = true := (PySem.W.sortLe_total (PyProof.Rows.listOrd PyProof.Rows.itemOrd) false (fun p : Str => PySem.W.keyToks (.str p))).trans a b c h1 h2
theorem leK_total (a b : Str) : (leK a b || leK b a) = true := by
  rw [Bool.or_eq_true]
  exact (PySem.W.sortLe_total (PyProof.Rows.listOrd PyProof.Rows.itemOrd) false (fun p : Str => PySem.W.keyToks (.str p))).total a b
theorem leP_of {a b : Str} (m n : Int) (h : leK a b = true) (ne : a ≠ b) : leP (a, m) (b, n) = true := by
  have h1 : (!PyProof.Rows.lexLt PyProof.Rows.itemOrd [.inr b.cps.toList] [.inr a.cps.toList]) = true := h
  show (!PyProof.Rows.lexLt PyProof.Rows.itemOrd [.inl 1, .inr b.cps.toList, .inl 1, .inl n, .inl 0] [.inl 1, .inr a.cps.toList, .inl 1, .inl m, .inl 0]) = true
  have ne2 : (Sum.inr b.cps.toList : Int ⊕ List Nat) ≠ .inr a.cps.toList := fun z => ne (PySem.W.str_of_cps (Sum.inr.inj z)).symm
  rw [PyProof.Rows.lex_self, PyProof.Rows.lex_diff ne2]
  rw [PyProof.Rows.lex_diff ne2] at h1
  exact h1
theorem sortD_strs (l : List Str) : sortD (l.map .str) = (l.mergeSort leK).map .str := by
  unfold sortD
  exact (List.map_mergeSort (r := leK) (s := leS) (f := D.str) fun a _ b _ => rfl).symm
theorem tyT_of {rows : List WL.Row} {ks : List Str} (nd : ks.Nodup) (hs : ks.Pairwise fun a b => leK a b = true) (h : (keys rows).Sublist ks) : tyT rows := by
  have nd2 : (keys rows).Nodup := nd.sublist h
  have ps : (keys rows).Pairwise fun a b => leK a b = true := hs.sublist h
  refine ⟨nd2, List.mergeSort_of_pairwise ?_⟩
  clear h
  induction rows with
  | nil => exact .nil
  | cons p rows ih =>
    have nd3 := List.nodup_cons.mp nd2
    have ps3 := List.pairwise_cons.mp ps
    refine List.pairwise_cons.mpr ⟨fun q hq => ?_, ih nd3.2 ps3.2⟩
    have hm : q.1 ∈ keys rows := List.mem_map.mpr ⟨q, hq, rfl⟩
    exact leP_of p.2 q.2 (ps3.1 q.1 hm) (fun e => nd3.1 (by show p.1 ∈ _; rw [e]; exact hm))
theorem forK_c {g : WG} {body : WS} {d : D} {ds : List D} {env : EnvD} {k : Kt (Out × EnvD)} : @forK g body (d :: ds) env k = g (fz d) env fun e1 => body e1 fun o e2 => match o with
      | .nx => @forK g body ds e2 k
      | .ct => @forK g body ds e2 k
      | .bk => k.run (.nx, e2)
      | .rt v => k.run (.rt v, e2) := (rfl)
theorem forK_n {g : WG} {body : WS} {env : EnvD} {k : Kt (Out × EnvD)} : @forK g body [] env k = k.run (.nx, env) := (rfl)
theorem abc_len : Str.length (Str.ofString "abcdefghijklmnopqrstuvwxyz") = 26 := by decide +kernel
theorem abc_cps : (Str.ofString "abcdefghijklmnopqrstuvwxyz").cps.toList = (List.range 26).map (97 + ·) := by decide +kernel
theorem abc_at {r : Int} (h0 : 0 ≤ r) (h1 : r < 26) : atI (Str.ofString "abcdefghijklmnopqrstuvwxyz").cps.toList r = some (97 + r.toNat) := by
  rw [abc_cps]
  obtain ⟨n, rfl⟩ : ∃ n : Nat, r = n := ⟨r.toNat, by omega⟩
  rw [TL.atI_nat, List.getElem?_map, List.getElem?_range (by omega)]
  rfl
theorem join_len (a : Str) : ∀ ss : List Str, (Str.join a ss).length ≤ (ss.map (·.length)).sum + ss.length * a.length
  | [] => Nat.zero_le _
  | [x] => by
    show x.length ≤ _
    simp
  | x :: y :: r => by
    have ih := join_len a (y :: r)
    have e : (Str.join a (x :: y :: r)).length = x.length + a.length + (Str.join a (y :: r)).length := by
      show ((x ++ a) ++ Str.join a (y :: r)).cps.size = _
      show ((x.cps ++ a.cps) ++ (Str.join a (y :: r)).cps).size = _
      rw [Array.size_append, Array.size_append]; rfl
    rw [e, List.map_cons, List.sum_cons, List.length_cons, Nat.succ_mul]
    omega
theorem app_len (s t : Str) : (s ++ t).length = s.length + t.length := by
  show (s.cps ++ t.cps).size = _
  rw [Array.size_append]; rfl
theorem key_inj {s e f : Str} {c d : Nat} (h : s ++ ⟨#[c]⟩ ++ e = s ++ ⟨#[d]⟩ ++ f) : c = d ∧ e.length = f.length := by
  have h2 : (s.cps ++ #[c] ++ e.cps).toList = (s.cps ++ #[d] ++ f.cps).toList := congrArg (fun z : Str => z.cps.toList) h
  simp only [Array.toList_append, List.append_assoc] at h2
  have h3 := List.append_cancel_left h2
  simp only [List.cons_append, List.nil_append, List.cons.injEq] at h3
  refine ⟨h3.1, ?_⟩
  have h4 := congrArg List.length h3.2
  simpa [Str.length] using h4
end WL

/-! shapes of the defs, printed by prn.py -/
namespace Lk25
open PySem PySem.Spec PyProof.Rows L2 TL
def top (i : Nat) : Stmt := PySem.Challenge.pw_wishlane_k25_builds_or_not.main.body.getD i (.Pass ⟨0, 0, 0, 0⟩)
def fnN : List Str := ["is_build", "_law_is_build", "_law_take", "_law_pick", "_law_bent", "is_sound", "_law_sound", "_law_ways", "_law_right", "_law_box", "_law_cells"]
def cnN : List Str := ["KINDS", "GRAB", "OVER", "PLAIN", "WAYS"]
def kwN : List (Str × Nat × List Str) := [("is_build", 0, ["thing"]), ("is_sound", 0, ["falls", "build"])]
def dnN : List Str := []
def dsT : List (List (Str × D)) := []
def cs : List D := [(.tup [(.str "counter"), (.str "pile"), (.str "queue"), (.str "table")]), (.str "grab"), (.str "over"), (.str "plain"), (.tup [(.str "bare"), (.str "early"), (.str "grab"), (.str "halved"), (.str "mute"), (.str "over"), (.str "plain")])]
def N_is_build : List Str := ["thing", "way", "one", "other"]
def B_is_build : Tb := ⟨N_is_build, fnN, cnN, kwN, dnN⟩
def b_is_build : Ss :=
(.cons (.iff (.bop false (.cons (.not (.val (.isi [.tuple] false (.var 0)))) (.cons (.not (.val (.bf .all (.cons (.lc [("way", 1)] (.seq (.var 0)) (.name 1) .yes (.bop true (.cons (.isi [.str] false (.var 1)) (.cons (.cmp .isin (.var 1) (.glb 4)) .nil)))) .nil)))) .nil)))
(.cons (.ret (.cst (.bl false)))
.nil)
.nil)
(.cons (.ret (.bf .all (.cons (.lc [("one", 2), ("other", 3)] (.zip (.var 0) (.cut (.var 0) (.so (.cst (.int 1))) .no)) (.tup (.cons (.name 2) (.cons (.name 3) .nil))) .yes (.cmp .lt (.var 2) (.var 3))) .nil)))
.nil))
theorem c_is_build : ckSs B_is_build [] b_is_build (defScope (top 14)) (defScope (top 14)) (defBody (top 14)) = true := by decide +kernel
theorem s_is_build : FnScope B_is_build.N ["thing"] (defScope (top 14)) := ⟨rfl, rfl, rfl, by decide +kernel, rfl, by decide +kernel, by decide +kernel⟩
def N__law_is_build : List Str := ["_law_matter", "_law_one", "_law_some"]
def B__law_is_build : Tb := ⟨N__law_is_build, fnN, cnN, kwN, dnN⟩
def b__law_is_build : Ss :=
(.cons (.iff (.bop false (.cons (.not (.val (.isi [.tuple] false (.var 0)))) (.cons (.not (.val (.bf .all (.cons (.lc [("_law_one", 1)] (.seq (.var 0)) (.name 1) .yes (.isi [.str] false (.var 1))) .nil)))) .nil)))
(.cons (.ret (.cst (.bl false)))
.nil)
.nil)
(.cons (.asg (.name 2) (.lst (.cons (.cst (.str "bare")) (.cons (.cst (.str "early")) (.cons (.cst (.str "grab")) (.cons (.cst (.str "halved")) (.cons (.cst (.str "mute")) (.cons (.cst (.str "over")) (.cons (.cst (.str "plain")) .nil)))))))))
(.cons (.ret (.bop true (.cons (.cmp .eq (.bf .list (.cons (.var 0) .nil)) (.sst (.var 0))) (.cons (.cmp .eq (.lc [("_law_one", 1)] (.seq (.var 0)) (.name 1) (.cmp .notin (.var 1) (.var 2)) (.var 1)) (.lst .nil)) .nil))))
.nil)))
theorem c__law_is_build : ckSs B__law_is_build [] b__law_is_build (defScope (top 22)) (defScope (top 22)) (defBody (top 22)) = true := by decide +kernel
theorem s__law_is_build : FnScope B__law_is_build.N ["_law_matter"] (defScope (top 22)) := ⟨rfl, rfl, rfl, by decide +kernel, rfl, by decide +kernel, by decide +kernel⟩
def N__law_take : List Str := ["_law_box_here", "_law_many", "_law_found", "_law_mixed"]
def B__law_take : Tb := ⟨N__law_take, fnN, cnN, kwN, dnN⟩
def b__law_take : Ss :=
(.cons (.iff (.cmp .gt (.ix (.var 0) (.cst (.int 0))) (.cst (.int 0)))
(.cons (.asg (.name 2) (.bin .mod (.ix (.var 0) (.cst (.int 0))) (.var 1)))
(.cons (.setI 0 (.cst (.int 0)) (.bin .div (.ix (.var 0) (.cst (.int 0))) (.var 1)))
(.cons (.retv 2)
.nil)))
.nil)
(.cons (.setI 0 (.cst (.int 2)) (.bin .add (.ix (.var 0) (.cst (.int 2))) (.cst (.int 1))))
(.cons (.asg (.name 3) (.bin .mod (.bin .add (.ix (.var 0) (.cst (.int 1))) (.bin .mul (.cst (.int 1442695040888963407)) (.ix (.var 0) (.cst (.int 2))))) (.cst (.int 2305843009213693951))))
(.cons (.asg (.name 3) (.bin .mod (.bin .add (.bin .add (.bin .mul (.var 3) (.var 3)) (.bin .mul (.cst (.int 39373)) (.ix (.var 0) (.cst (.int 2))))) (.cst (.int 7))) (.cst (.int 2305843009213693921))))
(.cons (.asg (.name 3) (.bin .mod (.bin .add (.bin .mul (.var 3) (.bin .add (.bin .div (.var 3) (.cst (.int 65536))) (.cst (.int 3)))) (.ix (.var 0) (.cst (.int 2)))) (.cst (.int 2305843009213693907))))
(.cons (.ret (.bin .mod (.bin .div (.var 3) (.cst (.int 1048576))) (.var 1)))
.nil))))))
theorem c__law_take : ckSs B__law_take (List.range 2) b__law_take (defScope (top 18)) (defScope (top 18)) (defBody (top 18)) = true := by decide +kernel
theorem s__law_take : FnScope B__law_take.N ["_law_box_here", "_law_many"] (defScope (top 18)) := ⟨rfl, rfl, rfl, by decide +kernel, rfl, by decide +kernel, by decide +kernel⟩
def N__law_pick : List Str := ["_law_box_here", "_law_some"]
def B__law_pick : Tb := ⟨N__law_pick, fnN, cnN, kwN, dnN⟩
def b__law_pick : Ss :=
(.cons (.ret (.ix (.var 1) (.call 2 (.lend 0 (.fro (.bf .len (.cons (.var 1) .nil)) .nil)))))
.nil)
theorem c__law_pick : ckSs B__law_pick (List.range 2) b__law_pick (defScope (top 20)) (defScope (top 20)) (defBody (top 20)) = true := by decide +kernel
theorem s__law_pick : FnScope B__law_pick.N ["_law_box_here", "_law_some"] (defScope (top 20)) := ⟨rfl, rfl, rfl, by decide +kernel, rfl, by decide +kernel, by decide +kernel⟩
def N__law_bent : List Str := ["_law_box_here", "_law_matter", "_law_some", "_law_way", "_law_odd", "_law_at"]
def B__law_bent : Tb := ⟨N__law_bent, fnN, cnN, kwN, dnN⟩
def b__law_bent : Ss :=
(.cons (.par [2, 3] (.own (.bf .list (.cons (.var 1) .nil)) (.own (.call 2 (.lend 0 (.fro (.cst (.int 8)) .nil))) .nil)))
(.cons (.asg (.name 4) (.call 3 (.lend 0 (.fro (.lst (.cons (.cst .non) (.cons (.cst (.bl true)) (.cons (.cst (.int 0)) (.cons (.cst (.str "")) (.cons (.cst (.str "Bare")) (.cons (.cst (.str "ove")) (.cons (.cst (.str "overs")) (.cons (.tup (.cons (.cst (.str "over")) .nil)) (.cons (.lst (.cons (.cst (.str "bare")) .nil)) (.cons (.cst (.str "plain")) (.cons (.cst (.str "bare")) (.cons (.cst (.str "grab")) .nil))))))))))))) .nil))))
(.cons (.asg (.name 5) (.call 2 (.lend 0 (.fro (.bin .add (.bf .len (.cons (.var 2) .nil)) (.cst (.int 1))) .nil))))
(.cons (.iff (.cmp .eq (.var 3) (.cst (.int 0)))
(.cons (.retv 2)
.nil)
.nil)
(.cons (.iff (.cmp .eq (.var 3) (.cst (.int 1)))
(.cons (.ret (.bf .tuple (.cons (.rev (.var 2)) .nil)))
.nil)
.nil)
(.cons (.iff (.cmp .eq (.var 3) (.cst (.int 2)))
(.cons (.ret (.bf .tuple (.cons (.bin .add (.bin .add (.cut (.var 2) .no (.so (.var 5))) (.cut (.cut (.var 2) (.so (.var 5)) .no) .no (.so (.cst (.int 1))))) (.cut (.var 2) (.so (.var 5)) .no)) .nil)))
.nil)
.nil)
(.cons (.iff (.cmp .eq (.var 3) (.cst (.int 3)))
(.cons (.ret (.bf .tuple (.cons (.bin .add (.cut (.var 2) .no (.so (.var 5))) (.cut (.var 2) (.so (.bin .add (.var 5) (.cst (.int 1)))) .no)) .nil)))
.nil)
.nil)
(.cons (.iff (.cmp .eq (.var 3) (.cst (.int 4)))
(.cons (.retv 4)
.nil)
.nil)
(.cons (.ret (.bf .tuple (.cons (.bin .add (.bin .add (.cut (.var 2) .no (.so (.var 5))) (.lst (.cons (.var 4) .nil))) (.cut (.var 2) (.so (.bin .add (.var 5) (.bf .int (.cons (.cmp .eq (.var 3) (.cst (.int 5))) .nil)))) .no)) .nil)))
.nil)))))))))
theorem c__law_bent : ckSs B__law_bent (List.range 2) b__law_bent (defScope (top 23)) (defScope (top 23)) (defBody (top 23)) = true := by decide +kernel
theorem s__law_bent : FnScope B__law_bent.N ["_law_box_here", "_law_matter"] (defScope (top 23)) := ⟨rfl, rfl, rfl, by decide +kernel, rfl, by decide +kernel, by decide +kernel⟩
def N_is_sound : List Str := ["build", "falls", "way"]
def B_is_sound : Tb := ⟨N_is_sound, fnN, cnN, kwN, dnN⟩
def b_is_sound : Ss :=
(.cons (.iff (.cmp .gt (.var 1) (.cst (.int 0)))
(.cons (.ret (.bf .all (.cons (.lc [("way", 2)] (.seq (.var 0)) (.name 2) .yes (.cmp .eq (.var 2) (.glb 2))) .nil)))
.nil)
.nil)
(.cons (.ret (.bop true (.cons (.cmp .notin (.glb 1) (.var 0)) (.cons (.cmp .notin (.glb 3) (.var 0)) .nil))))
.nil))
theorem c_is_sound : ckSs B_is_sound [] b_is_sound (defScope (top 15)) (defScope (top 15)) (defBody (top 15)) = true := by decide +kernel
theorem s_is_sound : FnScope B_is_sound.N ["build", "falls"] (defScope (top 15)) := ⟨rfl, rfl, rfl, by decide +kernel, rfl, by decide +kernel, by decide +kernel⟩
def N__law_sound : List Str := ["_law_ways_here", "_law_often"]
def B__law_sound : Tb := ⟨N__law_sound, fnN, cnN, kwN, dnN⟩
def b__law_sound : Ss :=
(.cons (.iff (.cmp .eq (.var 1) (.cst (.int 0)))
(.cons (.ret (.bop true (.cons (.cmp .notin (.cst (.str "grab")) (.var 0)) (.cons (.cmp .notin (.cst (.str "plain")) (.var 0)) .nil))))
.nil)
.nil)
(.cons (.ret (.cmp .isin (.var 0) (.tup (.cons (.tup .nil) (.cons (.tup (.cons (.cst (.str "over")) .nil)) .nil)))))
.nil))
theorem c__law_sound : ckSs B__law_sound [] b__law_sound (defScope (top 24)) (defScope (top 24)) (defBody (top 24)) = true := by decide +kernel
theorem s__law_sound : FnScope B__law_sound.N ["_law_ways_here", "_law_often"] (defScope (top 24)) := ⟨rfl, rfl, rfl, by decide +kernel, rfl, by decide +kernel, by decide +kernel⟩
def N__law_ways : List Str := ["_law_box_here", "_law_some", "_law_odds", "_law_way"]
def B__law_ways : Tb := ⟨N__law_ways, fnN, cnN, kwN, dnN⟩
def b__law_ways : Ss :=
(.cons (.asg (.name 1) (.lst (.cons (.cst (.str "bare")) (.cons (.cst (.str "early")) (.cons (.cst (.str "grab")) (.cons (.cst (.str "halved")) (.cons (.cst (.str "mute")) (.cons (.cst (.str "over")) (.cons (.cst (.str "plain")) .nil)))))))))
(.cons (.asg (.name 2) (.ix (.lst (.cons (.cst (.int 1)) (.cons (.cst (.int 3)) (.cons (.cst (.int 9)) .nil)))) (.call 2 (.lend 0 (.fro (.cst (.int 3)) .nil)))))
(.cons (.ret (.bf .tuple (.cons (.lc [("_law_way", 3)] (.seq (.var 1)) (.name 3) (.cmp .lt (.call 2 (.lend 0 (.fro (.bin .add (.var 2) (.cst (.int 1))) .nil))) (.cst (.int 1))) (.var 3)) .nil)))
.nil)))
theorem c__law_ways : ckSs B__law_ways (List.range 1) b__law_ways (defScope (top 21)) (defScope (top 21)) (defBody (top 21)) = true := by decide +kernel
theorem s__law_ways : FnScope B__law_ways.N ["_law_box_here"] (defScope (top 21)) := ⟨rfl, rfl, rfl, by decide +kernel, rfl, by decide +kernel, by decide +kernel⟩
def N__law_right : List Str := ["_law_box_here", "_law_turn", "_law_ways_here", "_law_often", "_law_again", "_law_due", "_law_odd", "_law_before"]
def B__law_right : Tb := ⟨N__law_right, fnN, cnN, kwN, dnN⟩
def b__law_right : Ss :=
(.cons (.loop (.rng1 (.cst (.int 10))) (.name 1)
(.cons (.asg (.name 2) (.call 7 (.lend 0 .nil)))
(.cons (.iff (.cmp .ne (.bf .repr (.cons (.lst (.cons (.call 0 (.fro (.var 2) .nil)) (.cons (.callk 0 .nil (.cons (.var 2) .nil)) .nil))) .nil)) (.cst (.str "[True, True]")))
(.cons (.ret (.cst (.bl false)))
.nil)
.nil)
(.cons (.loop (.rng1 (.cst (.int 5))) (.name 3)
(.cons (.asg (.name 5) (.call 6 (.fro (.var 2) (.fro (.var 3) .nil))))
(.cons (.iff (.cmp .ne (.bf .repr (.cons (.lst (.cons (.call 5 (.fro (.var 2) (.fro (.var 3) .nil))) (.cons (.callk 1 .nil (.cons (.var 3) (.cons (.var 2) .nil))) .nil))) .nil)) (.bf .repr (.cons (.lst (.cons (.var 5) (.cons (.var 5) .nil))) .nil)))
(.cons (.ret (.cst (.bl false)))
.nil)
.nil)
.nil)))
(.cons (.loop (.rng1 (.cst (.int 6))) (.name 4)
(.cons (.asg (.name 6) (.call 4 (.lend 0 (.fro (.var 2) .nil))))
(.cons (.asg (.name 6) (.ifx (.bop true (.cons (.val (.isi [.tuple] false (.var 6))) (.cons (.cmp .eq (.call 2 (.lend 0 (.fro (.cst (.int 3)) .nil))) (.cst (.int 0))) .nil))) (.call 4 (.lend 0 (.fro (.var 6) .nil))) (.var 6)))
(.cons (.asg (.name 7) (.bf .repr (.cons (.var 6) .nil)))
(.cons (.iff (.bop false (.cons (.cmp .ne (.bf .repr (.cons (.lst (.cons (.call 0 (.fro (.var 6) .nil)) (.cons (.call 0 (.fro (.var 6) .nil)) .nil))) .nil)) (.bf .repr (.cons (.lrep (.cons (.call 1 (.fro (.var 6) .nil)) .nil) (.cst (.int 2))) .nil))) (.cons (.cmp .ne (.bf .repr (.cons (.var 6) .nil)) (.var 7)) .nil)))
(.cons (.ret (.cst (.bl false)))
.nil)
.nil)
.nil)))))
.nil)))))
(.cons (.ret (.cst (.bl true)))
.nil))
theorem c__law_right : ckSs B__law_right (List.range 1) b__law_right (defScope (top 25)) (defScope (top 25)) (defBody (top 25)) = true := by decide +kernel
theorem s__law_right : FnScope B__law_right.N ["_law_box_here"] (defScope (top 25)) := ⟨rfl, rfl, rfl, by decide +kernel, rfl, by decide +kernel, by decide +kernel⟩
def N__law_box : List Str := ["_law_cells_here", "_law_k", "_law_cell"]
def B__law_box : Tb := ⟨N__law_box, fnN, cnN, kwN, dnN⟩
def b__law_box : Ss :=
(.cons (.asg (.name 2) (.ix (.var 0) (.var 1)))
(.cons (.ret (.lst (.cons (.bin .mul (.bf .abs (.cons (.var 2) .nil)) (.bf .int (.cons (.cmp .ge (.bf .abs (.cons (.var 2) .nil)) (.bin .pow (.cst (.int 10)) (.cst (.int 18)))) .nil))) (.cons (.bin .add (.bin .add (.bin .mod (.var 2) (.cst (.int 2305843009213693951))) (.bin .mul (.cst (.int 15485863)) (.var 1))) (.cst (.int 11))) (.cons (.cst (.int 0)) .nil)))))
.nil))
theorem c__law_box : ckSs B__law_box [] b__law_box (defScope (top 17)) (defScope (top 17)) (defBody (top 17)) = true := by decide +kernel
theorem s__law_box : FnScope B__law_box.N ["_law_cells_here", "_law_k"] (defScope (top 17)) := ⟨rfl, rfl, rfl, by decide +kernel, rfl, by decide +kernel, by decide +kernel⟩
def N__law_cells : List Str := ["_law_script", "_law_utmost", "_law_cells_here", "_law_k", "_law_cell"]
def B__law_cells : Tb := ⟨N__law_cells, fnN, cnN, kwN, dnN⟩
def b__law_cells : Ss :=
(.cons (.asg (.name 2) (.bop false (.cons (.bf .list (.cons (.cut (.var 0) .no (.so (.var 1))) .nil)) (.cons (.lst (.cons (.cst (.int 0)) .nil)) .nil))))
(.cons (.loop (.enu (.cut (.var 0) (.so (.var 1)) (.so (.cst (.int 63))))) (.tup (.cons (.name 3) (.cons (.name 4) .nil)))
(.cons (.setI 2 (.bin .mod (.var 3) (.var 1)) (.bin .add (.ix (.var 2) (.bin .mod (.var 3) (.var 1))) (.bin .mul (.var 4) (.bin .add (.var 3) (.cst (.int 2))))))
.nil))
(.cons (.retv 2)
.nil)))
theorem c__law_cells : ckSs B__law_cells [] b__law_cells (defScope (top 19)) (defScope (top 19)) (defBody (top 19)) = true := by decide +kernel
theorem s__law_cells : FnScope B__law_cells.N ["_law_script", "_law_utmost"] (defScope (top 19)) := ⟨rfl, rfl, rfl, by decide +kernel, rfl, by decide +kernel, by decide +kernel⟩
def N_law : List Str := ["_law_script", "_law_known", "_law_way", "_law_cells_here", "_law_k"]
def B_law : Tb := ⟨N_law, fnN, cnN, kwN, dnN⟩
def b_law : Ss :=
(.cons (.asg (.name 1) (.lst (.cons (.glb 0) (.cons (.glb 4) .nil))))
(.cons (.iff (.bop false (.cons (.cmp .ne (.bf .repr (.cons (.var 1) .nil)) (.bf .repr (.cons (.bin .add (.lst (.cons (.tup (.cons (.cst (.str "counter")) (.cons (.cst (.str "pile")) (.cons (.cst (.str "queue")) (.cons (.cst (.str "table")) .nil))))) .nil)) (.lst (.cons (.bf .tuple (.cons (.bf .sorted (.cons (.glb 4) .nil)) .nil)) .nil))) .nil))) (.cons (.cmp .ne (.bf .len (.cons (.glb 4) .nil)) (.cst (.int 7))) .nil)))
(.cons (.ret (.cst (.bl false)))
.nil)
.nil)
(.cons (.iff (.not (.val (.bf .all (.cons (.lc [("_law_way", 2)] (.seq (.glb 4)) (.name 2) .yes (.call 0 (.fro (.tup (.cons (.var 2) .nil)) .nil))) .nil))))
(.cons (.ret (.cst (.bl false)))
.nil)
.nil)
(.cons (.asg (.name 3) (.call 10 (.fro (.var 0) (.fro (.cst (.int 4)) .nil))))
(.cons (.ret (.bf .all (.cons (.lc [("_law_k", 4)] (.rng1 (.bf .len (.cons (.var 3) .nil))) (.name 4) .yes (.call 8 (.own (.call 9 (.fro (.var 3) (.fro (.var 4) .nil))) .nil))) .nil)))
.nil)))))
theorem c_law : ckSs B_law [] b_law (defScope (top 26)) (defScope (top 26)) (defBody (top 26)) = true := by decide +kernel
theorem s_law : FnScope B_law.N ["_law_script"] (defScope (top 26)) := ⟨rfl, rfl, rfl, by decide +kernel, rfl, by decide +kernel, by decide +kernel⟩
end Lk25

/-! what each def promises -/
namespace Lk25
open PySem PySem.Spec PyProof.Rows L2 TL WL
abbrev bxD (a b c : Int) : D := .lst [.int a, .int b, .int c]
def Bx (n : Int) (a b c : Int) : Prop := 0 ≤ a ∧ 0 ≤ b ∧ b < 4611686018427387904 ∧ 0 ≤ c ∧ c + n < 1000000000
def Itm (n d : Nat) (x : D) : Prop := costD x ≤ n ∧ depthD x ≤ d
def waysL : List Str := ["bare", "early", "grab", "halved", "mute", "over", "plain"]
def ascB : List Str → Bool
  | a :: b :: r => decide (a.cps.toList < b.cps.toList) && ascB (b :: r)
  | _ => true
def bldB : D → Bool
  | .tup xs => match unStrs xs with
    | some ss => ss.all (fun s => decide (s ∈ waysL)) && ascB ss
    | none => false
  | _ => false
def filt : List Bool → List Str → List Str
  | b :: bs, s :: ss => if b then s :: filt bs ss else filt bs ss
  | _, _ => []
def wayD (bs : List Bool) : D := .tup ((filt bs waysL).map .str)
def noGP (ss : List Str) : Bool := !decide (("grab" : Str) ∈ ss) && !decide (("plain" : Str) ∈ ss)
/-- a thing bent so far: small; where it is a tuple, of few small things -/
def Bt (n : Nat) (r : D) : Prop := Itm 3000 10 r ∧ ∀ ys, r = .tup ys → ys.length ≤ n ∧ ∀ y ∈ ys, Itm 100 3 y
/-! ### promises -/
def t_is_build : DSpec
  | [⟨false, x⟩], Q => Itm 3000 20 x ∧ Q (fz (.bl (bldB x))) [fz x]
  | _, _ => False
-- e<
@[simp] theorem e_is_build (x k_) : @opD t_is_build [⟨false, x⟩] k_ = ((fun Q : Val → List Val → Prop => Itm 3000 20 x ∧ Q (fz (.bl (bldB x))) [fz x]) fun v_ xs_ => k_.run (v_, xs_)) := (rfl)
-- >e
def t__law_is_build : DSpec
  | [⟨false, x⟩], Q => Itm 3000 20 x ∧ Q (fz (.bl (bldB x))) [fz x]
  | _, _ => False
-- e<
@[simp] theorem e__law_is_build (x k_) : @opD t__law_is_build [⟨false, x⟩] k_ = ((fun Q : Val → List Val → Prop => Itm 3000 20 x ∧ Q (fz (.bl (bldB x))) [fz x]) fun v_ xs_ => k_.run (v_, xs_)) := (rfl)
-- >e
def t__law_take : DSpec
  | [⟨true, .lst [.int a, .int b, .int c]⟩, ⟨false, .int m⟩], Q => (0 < m ∧ m < 1073741824) ∧ Bx 1 a b c ∧ ∀ r a' c', 0 ≤ r → r < m → Bx 0 a' b c' → c ≤ c' → c' ≤ c + 1 → Q (fz (.int r)) [⟨true, bxD a' b c'⟩, fz (.int m)]
  | _, _ => False
-- e<
@[simp] theorem e__law_take (a b c m k_) : @opD t__law_take [⟨true, .lst [.int a, .int b, .int c]⟩, ⟨false, .int m⟩] k_ = ((fun Q : Val → List Val → Prop => (0 < m ∧ m < 1073741824) ∧ Bx 1 a b c ∧ ∀ r a' c', 0 ≤ r → r < m → Bx 0 a' b c' → c ≤ c' → c' ≤ c + 1 → Q (fz (.int r)) [⟨true, bxD a' b c'⟩, fz (.int m)]) fun v_ xs_ => k_.run (v_, xs_)) := (rfl)
-- >e
def t__law_pick : DSpec
  | [⟨true, .lst [.int a, .int b, .int c]⟩, ⟨false, .lst ds⟩], Q => (0 < ds.length ∧ ds.length < 1000) ∧ Bx 1 a b c ∧ ∀ d a' c', d ∈ ds → Bx 0 a' b c' → c ≤ c' → c' ≤ c + 1 → Q (fz d) [⟨true, bxD a' b c'⟩, fz (.lst ds)]
  | _, _ => False
-- e<
@[simp] theorem e__law_pick (a b c ds k_) : @opD t__law_pick [⟨true, .lst [.int a, .int b, .int c]⟩, ⟨false, .lst ds⟩] k_ = ((fun Q : Val → List Val → Prop => (0 < ds.length ∧ ds.length < 1000) ∧ Bx 1 a b c ∧ ∀ d a' c', d ∈ ds → Bx 0 a' b c' → c ≤ c' → c' ≤ c + 1 → Q (fz d) [⟨true, bxD a' b c'⟩, fz (.lst ds)]) fun v_ xs_ => k_.run (v_, xs_)) := (rfl)
-- >e
def t__law_bent : DSpec := fun args Q => ∃ a b c xs n, args = [⟨true, bxD a b c⟩, fz (.tup xs)] ∧ n ≤ 20 ∧ Bt n (.tup xs) ∧ Bx 10 a b c ∧
  ∀ (o : Bool) (r : D) (a' c' : Int), (o = true → ∃ l, r = .lst l) → Bt (n + 1) r → Bx 0 a' b c' → c ≤ c' → c' ≤ c + 10 → Q ⟨o, r⟩ [⟨true, bxD a' b c'⟩, fz (.tup xs)]
def t_is_sound : DSpec
  | [⟨false, .tup xs⟩, ⟨false, .int n⟩], Q => @onS _ (unStrs xs) ⟨fun ss => ss.length ≤ 100 ∧ Q (fz (.bl (if 0 < n then ss.all (fun s => decide (s = "over")) else noGP ss))) [fz (.tup xs), fz (.int n)]⟩
  | _, _ => False
-- e<
@[simp] theorem e_is_sound (xs n k_) : @opD t_is_sound [⟨false, .tup xs⟩, ⟨false, .int n⟩] k_ = ((fun Q : Val → List Val → Prop => @onS _ (unStrs xs) ⟨fun ss => ss.length ≤ 100 ∧ Q (fz (.bl (if 0 < n then ss.all (fun s => decide (s = "over")) else noGP ss))) [fz (.tup xs), fz (.int n)]⟩) fun v_ xs_ => k_.run (v_, xs_)) := (rfl)
-- >e
def t__law_sound : DSpec
  | [⟨false, .tup xs⟩, ⟨false, .int n⟩], Q => @onS _ (unStrs xs) ⟨fun ss => ss.length ≤ 100 ∧ Q (fz (.bl (if n = 0 then noGP ss else decide (ss = [] ∨ ss = [("over" : Str)])))) [fz (.tup xs), fz (.int n)]⟩
  | _, _ => False
-- e<
@[simp] theorem e__law_sound (xs n k_) : @opD t__law_sound [⟨false, .tup xs⟩, ⟨false, .int n⟩] k_ = ((fun Q : Val → List Val → Prop => @onS _ (unStrs xs) ⟨fun ss => ss.length ≤ 100 ∧ Q (fz (.bl (if n = 0 then noGP ss else decide (ss = [] ∨ ss = [("over" : Str)])))) [fz (.tup xs), fz (.int n)]⟩) fun v_ xs_ => k_.run (v_, xs_)) := (rfl)
-- >e
def t__law_ways : DSpec
  | [⟨true, .lst [.int a, .int b, .int c]⟩], Q => Bx 10 a b c ∧ ∀ (bs : List Bool) (a' c' : Int), bs.length = 7 → Bx 0 a' b c' → c ≤ c' → c' ≤ c + 10 → Q (fz (wayD bs)) [⟨true, bxD a' b c'⟩]
  | _, _ => False
-- e<
@[simp] theorem e__law_ways (a b c k_) : @opD t__law_ways [⟨true, .lst [.int a, .int b, .int c]⟩] k_ = ((fun Q : Val → List Val → Prop => Bx 10 a b c ∧ ∀ (bs : List Bool) (a' c' : Int), bs.length = 7 → Bx 0 a' b c' → c ≤ c' → c' ≤ c + 10 → Q (fz (wayD bs)) [⟨true, bxD a' b c'⟩]) fun v_ xs_ => k_.run (v_, xs_)) := (rfl)
-- >e
def t__law_right : DSpec
  | [⟨true, .lst [.int a, .int b, .int c]⟩], Q => Bx 5000 a b c ∧ ∀ a' c', Bx 0 a' b c' → c ≤ c' → c' ≤ c + 5000 → Q (fz (.bl true)) [⟨true, bxD a' b c'⟩]
  | _, _ => False
-- e<
@[simp] theorem e__law_right (a b c k_) : @opD t__law_right [⟨true, .lst [.int a, .int b, .int c]⟩] k_ = ((fun Q : Val → List Val → Prop => Bx 5000 a b c ∧ ∀ a' c', Bx 0 a' b c' → c ≤ c' → c' ≤ c + 5000 → Q (fz (.bl true)) [⟨true, bxD a' b c'⟩]) fun v_ xs_ => k_.run (v_, xs_)) := (rfl)
-- >e
def t__law_box : DSpec
  | [⟨false, .lst ds⟩, ⟨false, .int k⟩], Q => @onS _ (unInts ds) ⟨fun ns => (0 ≤ k ∧ k < ns.length ∧ k < 100) ∧ ∀ a b, 0 ≤ a → 0 ≤ b → b < 4611686018427387904 → Q ⟨true, bxD a b 0⟩ [fz (.lst ds), fz (.int k)]⟩
  | _, _ => False
-- e<
@[simp] theorem e__law_box (ds k k_) : @opD t__law_box [⟨false, .lst ds⟩, ⟨false, .int k⟩] k_ = ((fun Q : Val → List Val → Prop => @onS _ (unInts ds) ⟨fun ns => (0 ≤ k ∧ k < ns.length ∧ k < 100) ∧ ∀ a b, 0 ≤ a → 0 ≤ b → b < 4611686018427387904 → Q ⟨true, bxD a b 0⟩ [fz (.lst ds), fz (.int k)]⟩) fun v_ xs_ => k_.run (v_, xs_)) := (rfl)
-- >e
def t__law_cells : DSpec
  | [⟨false, .lst ds⟩, ⟨false, .int u⟩], Q => @onS _ (unInts ds) ⟨fun ns => ns.length ≤ 63 ∧ u = 4 ∧ ∀ (cs : List Int), cs.length ≤ 4 → Q ⟨true, .lst (cs.map D.int)⟩ [fz (.lst ds), fz (.int u)]⟩
  | _, _ => False
-- e<
@[simp] theorem e__law_cells (ds u k_) : @opD t__law_cells [⟨false, .lst ds⟩, ⟨false, .int u⟩] k_ = ((fun Q : Val → List Val → Prop => @onS _ (unInts ds) ⟨fun ns => ns.length ≤ 63 ∧ u = 4 ∧ ∀ (cs : List Int), cs.length ≤ 4 → Q ⟨true, .lst (cs.map D.int)⟩ [fz (.lst ds), fz (.int u)]⟩) fun v_ xs_ => k_.run (v_, xs_)) := (rfl)
-- >e
def t_law : DSpec := tLawD
end Lk25

namespace Lk25
open PySem PySem.Spec PyProof.Rows L2 TL
def G_is_build : Gm := ⟨[], cs, [], dsT⟩
def G__law_is_build : Gm := ⟨[⟨1, t_is_build, "is_build"⟩], cs, [⟨1, 0, 1, [0], [], t_is_build⟩], dsT⟩
def G__law_take : Gm := ⟨[⟨1, t_is_build, "is_build"⟩, ⟨1, t__law_is_build, "_law_is_build"⟩], cs, [⟨1, 0, 1, [0], [], t_is_build⟩], dsT⟩
def G__law_pick : Gm := ⟨[⟨1, t_is_build, "is_build"⟩, ⟨1, t__law_is_build, "_law_is_build"⟩, ⟨2, t__law_take, "_law_take"⟩], cs, [⟨1, 0, 1, [0], [], t_is_build⟩], dsT⟩
def G__law_bent : Gm := ⟨[⟨1, t_is_build, "is_build"⟩, ⟨1, t__law_is_build, "_law_is_build"⟩, ⟨2, t__law_take, "_law_take"⟩, ⟨2, t__law_pick, "_law_pick"⟩], cs, [⟨1, 0, 1, [0], [], t_is_build⟩], dsT⟩
def G_is_sound : Gm := ⟨[⟨1, t_is_build, "is_build"⟩, ⟨1, t__law_is_build, "_law_is_build"⟩, ⟨2, t__law_take, "_law_take"⟩, ⟨2, t__law_pick, "_law_pick"⟩, ⟨2, t__law_bent, "_law_bent"⟩], cs, [⟨1, 0, 1, [0], [], t_is_build⟩], dsT⟩
def G__law_sound : Gm := ⟨[⟨1, t_is_build, "is_build"⟩, ⟨1, t__law_is_build, "_law_is_build"⟩, ⟨2, t__law_take, "_law_take"⟩, ⟨2, t__law_pick, "_law_pick"⟩, ⟨2, t__law_bent, "_law_bent"⟩, ⟨2, t_is_sound, "is_sound"⟩], cs, [⟨1, 0, 1, [0], [], t_is_build⟩, ⟨2, 0, 2, [1, 0], [], t_is_sound⟩], dsT⟩
def G__law_ways : Gm := ⟨[⟨1, t_is_build, "is_build"⟩, ⟨1, t__law_is_build, "_law_is_build"⟩, ⟨2, t__law_take, "_law_take"⟩, ⟨2, t__law_pick, "_law_pick"⟩, ⟨2, t__law_bent, "_law_bent"⟩, ⟨2, t_is_sound, "is_sound"⟩, ⟨2, t__law_sound, "_law_sound"⟩], cs, [⟨1, 0, 1, [0], [], t_is_build⟩, ⟨2, 0, 2, [1, 0], [], t_is_sound⟩], dsT⟩
def G__law_right : Gm := ⟨[⟨1, t_is_build, "is_build"⟩, ⟨1, t__law_is_build, "_law_is_build"⟩, ⟨2, t__law_take, "_law_take"⟩, ⟨2, t__law_pick, "_law_pick"⟩, ⟨2, t__law_bent, "_law_bent"⟩, ⟨2, t_is_sound, "is_sound"⟩, ⟨2, t__law_sound, "_law_sound"⟩, ⟨1, t__law_ways, "_law_ways"⟩], cs, [⟨1, 0, 1, [0], [], t_is_build⟩, ⟨2, 0, 2, [1, 0], [], t_is_sound⟩], dsT⟩
def G__law_box : Gm := ⟨[⟨1, t_is_build, "is_build"⟩, ⟨1, t__law_is_build, "_law_is_build"⟩, ⟨2, t__law_take, "_law_take"⟩, ⟨2, t__law_pick, "_law_pick"⟩, ⟨2, t__law_bent, "_law_bent"⟩, ⟨2, t_is_sound, "is_sound"⟩, ⟨2, t__law_sound, "_law_sound"⟩, ⟨1, t__law_ways, "_law_ways"⟩, ⟨1, t__law_right, "_law_right"⟩], cs, [⟨1, 0, 1, [0], [], t_is_build⟩, ⟨2, 0, 2, [1, 0], [], t_is_sound⟩], dsT⟩
def G__law_cells : Gm := ⟨[⟨1, t_is_build, "is_build"⟩, ⟨1, t__law_is_build, "_law_is_build"⟩, ⟨2, t__law_take, "_law_take"⟩, ⟨2, t__law_pick, "_law_pick"⟩, ⟨2, t__law_bent, "_law_bent"⟩, ⟨2, t_is_sound, "is_sound"⟩, ⟨2, t__law_sound, "_law_sound"⟩, ⟨1, t__law_ways, "_law_ways"⟩, ⟨1, t__law_right, "_law_right"⟩, ⟨2, t__law_box, "_law_box"⟩], cs, [⟨1, 0, 1, [0], [], t_is_build⟩, ⟨2, 0, 2, [1, 0], [], t_is_sound⟩], dsT⟩
def G_law : Gm := ⟨[⟨1, t_is_build, "is_build"⟩, ⟨1, t__law_is_build, "_law_is_build"⟩, ⟨2, t__law_take, "_law_take"⟩, ⟨2, t__law_pick, "_law_pick"⟩, ⟨2, t__law_bent, "_law_bent"⟩, ⟨2, t_is_sound, "is_sound"⟩, ⟨2, t__law_sound, "_law_sound"⟩, ⟨1, t__law_ways, "_law_ways"⟩, ⟨1, t__law_right, "_law_right"⟩, ⟨2, t__law_box, "_law_box"⟩, ⟨2, t__law_cells, "_law_cells"⟩], cs, [⟨1, 0, 1, [0], [], t_is_build⟩, ⟨2, 0, 2, [1, 0], [], t_is_sound⟩], dsT⟩
end Lk25

namespace Lk25
open PySem PySem.Spec PyProof.Rows L2 TL WL
theorem Itm.le {n m d e : Nat} {x : D} (h : Itm n d x) (h1 : n ≤ m) (h2 : d ≤ e) : Itm m e x := ⟨Nat.le_trans h.1 h1, Nat.le_trans h.2 h2⟩
theorem Itm.pure {n d : Nat} {x : D} (h : Itm n d x) (hn : n ≤ 1000000) : pure' x = true := cost_pure x (by have := h.1; omega)
/-- what a plain thing is -/
inductive Pl : D → Prop
  | non : Pl .non | bl (b : Bool) : Pl (.bl b) | int (i : Int) : Pl (.int i) | str (s : Str) : Pl (.str s) | lst (xs : List D) : Pl (.lst xs) | tup (xs : List D) : Pl (.tup xs)
theorem Itm.pl {n d : Nat} {x : D} (h : Itm n d x) (hn : n ≤ 1000000) : Pl x := by
  have hc := h.1
  cases x <;> first | constructor | (exfalso; have hc : 1000000000 ≤ n := hc; omega)
theorem cost_mem {n d : Nat} : ∀ {xs : List D}, costDs xs ≤ n → depthDs xs ≤ d → ∀ x ∈ xs, Itm n d x
  | [], _, _, _, hx => nomatch hx
  | y :: ys, h1, h2, x, hx => by
    have e1 : costDs (y :: ys) = costD y + 2 + costDs ys := rfl
    have e2 : depthDs (y :: ys) = max (depthD y) (depthDs ys) := rfl
    rcases List.mem_cons.mp hx with rfl | hx
    · exact ⟨by omega, by omega⟩
    · exact cost_mem (by omega) (by omega) x hx
theorem Itm.of_tup {n d : Nat} {xs : List D} (h : Itm n d (.tup xs)) : ∀ x ∈ xs, Itm n d x := by
  have h1 : costDs xs + 3 ≤ n := h.1
  have h2 : depthDs xs + 1 ≤ d := h.2
  exact cost_mem (by omega) (by omega)
theorem costs_len : ∀ xs : List D, xs.length ≤ costDs xs
  | [] => Nat.le_refl _
  | x :: xs => by
    have h := costs_len xs
    have e : costDs (x :: xs) = costD x + 2 + costDs xs := rfl
    rw [List.length_cons]
    omega
theorem Itm.tlen {n d : Nat} {xs : List D} (h : Itm n d (.tup xs)) : xs.length ≤ n := by
  have h1 : costDs xs + 3 ≤ n := h.1
  have := costs_len xs
  omega
def isStrD : D → Bool
  | .str _ => true
  | _ => false
theorem unStrs_none {xs : List D} : unStrs xs = none ↔ xs.all isStrD = false := by
  induction xs with
  | nil => simp
  | cons x xs ih =>
    cases x with
    | str s =>
      rw [unStrs_cons, Option.map_eq_none_iff, ih]
      simp [isStrD]
    | _ => exact ⟨fun _ => rfl, fun _ => rfl⟩
theorem inD_strs (s : Str) : ∀ l : List Str, inD (.str s) (l.map .str) = decide (s ∈ l)
  | [] => rfl
  | x :: l => by
    have := inD_strs s l
    unfold inD at this ⊢
    rw [List.map_cons, List.any_cons, this]
    show ((x == s) || decide (s ∈ l)) = _
    rw [Bool.eq_iff_iff, Bool.or_eq_true, beq_iff_eq, decide_eq_true_eq, decide_eq_true_eq, List.mem_cons]
    exact ⟨fun z => z.imp Eq.symm id, fun z => z.imp Eq.symm id⟩
theorem flat_strs (l : List Str) : (l.map D.str).all flatD = true := by rw [List.all_map]; exact List.all_eq_true.mpr fun x _ => rfl
/-- a way among the ways -/
def wayB : D → Bool
  | .str s => decide (s ∈ waysL)
  | _ => false
theorem way_in (s : Str) : inD (.str s) [.str "bare", .str "early", .str "grab", .str "halved", .str "mute", .str "over", .str "plain"] = decide (s ∈ waysL) := inD_strs s waysL
theorem way_all {xs : List D} : xs.all wayB = true ↔ ∃ ss : List Str, xs = ss.map .str ∧ ∀ s ∈ ss, s ∈ waysL := by
  induction xs with
  | nil => exact ⟨fun _ => ⟨[], rfl, fun _ h => nomatch h⟩, fun _ => rfl⟩
  | cons x xs ih =>
    rw [List.all_cons, Bool.and_eq_true, ih]
    constructor
    · rintro ⟨h, ss, rfl, h2⟩
      cases x <;> first | cases h | skip
      rename_i s
      refine ⟨s :: ss, rfl, fun y hy => ?_⟩
      rcases List.mem_cons.mp hy with rfl | hy
      · exact of_decide_eq_true h
      · exact h2 y hy
    · rintro ⟨ss, e, h⟩
      cases ss with
      | nil => cases e
      | cons s ss =>
        cases e
        exact ⟨decide_eq_true (h s List.mem_cons_self), ss, rfl, fun y hy => h y (List.mem_cons_of_mem _ hy)⟩
theorem unS (ss : List Str) : unStrs (ss.map .str) = some ss := by
  induction ss with
  | nil => rfl
  | cons s ss ih => rw [List.map_cons, unStrs_cons, ih]; rfl
theorem bld_no {xs : List D} (h : xs.all wayB = false) : bldB (.tup xs) = false := by
  show (match unStrs xs with | some ss => ss.all (fun s => decide (s ∈ waysL)) && ascB ss | none => false) = false
  cases e : unStrs xs with
  | none => rfl
  | some ss =>
    obtain rfl := unStrs_eq e
    dsimp only
    have h2 : ss.all (fun s => decide (s ∈ waysL)) = false := by rw [← h, List.all_map]; rfl
    rw [h2]; rfl
theorem bld_ways {ss : List Str} (h : ∀ s ∈ ss, s ∈ waysL) : bldB (.tup (ss.map .str)) = ascB ss := by
  show (match unStrs (ss.map .str) with | some ss => ss.all (fun s => decide (s ∈ waysL)) && ascB ss | none => false) = _
  rw [unS]
  dsimp only
  rw [List.all_eq_true.mpr fun s hs => decide_eq_true (h s hs), Bool.true_and]
theorem f_is_build : ∀ args Q, t_is_build args Q → ∃ ds : List D, args = ds.map fz := by
  intro args Q h
  unfold t_is_build at h
  split at h
  · exact ⟨[_], rfl⟩
  · exact h.elim
/-- neighbours, as the code compares them -/
def nbp (ss : List Str) : List (Str × Str) := ss.zip (ss.drop 1)
def ltB (p : Str × Str) : Bool := decide (p.1.cps.toList < p.2.cps.toList)
theorem nbs_all : ∀ ss : List Str, (nbp ss).all ltB = ascB ss
  | [] => rfl
  | [a] => rfl
  | a :: b :: r => by
    show (ltB (a, b) && (nbp (b :: r)).all ltB) = _
    rw [nbs_all (b :: r)]
    rfl
def prL (p : Str × Str) : D := .lse [.str p.1, .str p.2]
theorem zip_pr : ∀ (as bs : List Str), zipD (as.map .str) (bs.map .str) = (as.zip bs).map prL
  | [], bs => by cases bs <;> rfl
  | a :: as, [] => rfl
  | a :: as, b :: bs => by
    have := zip_pr as bs
    show D.lse [.str a, .str b] :: zipD (as.map .str) (bs.map .str) = _
    rw [this]
    rfl
theorem cut_one (ss : List Str) : cut ss (some 1) none = ss.drop 1 := by
  cases ss with
  | nil => rfl
  | cons a ss => rw [cut_tail]; rfl
theorem w_is_build : ∀ args Q, t_is_build args Q → args.length = 1 → wSs G_is_build b_is_build (env0 B_is_build.N args) (endB args Q) := by
  intro args Q h _
  unfold t_is_build at h
  split at h
  · obtain ⟨hx, q⟩ := h
    rename_i x
    cases hx.pl (by omega) <;> simp [b_is_build, B_is_build, N_is_build, G_is_build, cs] <;> first | exact q | skip
    rename_i xs
    have hl := hx.tlen
    have hit := hx.of_tup
    refine lcK_ind (fun ds acc env => ∃ d0, d0 ++ ds = xs ∧ acc = (d0.map wayB).map .bl ∧ env = [some (fz (.tup xs)), none, none, none]) ?_ ?_ _ _ _ ⟨[], rfl, rfl, rfl⟩
    · rintro d ds acc env ⟨d0, e, rfl, rfl⟩ K hK
      have hd0 : d0.length ≤ xs.length := by rw [← e]; simp
      have hm : d ∈ xs := by rw [← e]; simp
      have go : K (List.map (D.bl ∘ wayB) d0 ++ [.bl (wayB d)]) [some (fz (.tup xs)), none, none, none] := hK _ _ ⟨d0 ++ [d], by rw [← e]; simp, by simp, rfl⟩
      cases (hit d hm).pl (by omega) <;> simp [way_in] <;> exact ⟨by omega, go⟩
    · rintro acc env ⟨d0, e, rfl, rfl⟩
      rw [List.append_nil] at e
      subst e
      generalize hbs : d0.map wayB = bs
      have ha : bs.all id = d0.all wayB := by rw [← hbs, List.all_map]; rfl
      simp
      split
      · rename_i hf
        have : d0.all wayB = false := by rw [← ha]; exact List.all_eq_false.mpr ⟨false, hf, by simp⟩
        rw [bld_no this] at q
        exact q
      · rename_i hf
        have : d0.all wayB = true := by
          rw [← ha]
          refine List.all_eq_true.mpr fun b hb => ?_
          cases b
          · exact (hf hb).elim
          · rfl
        obtain ⟨ss, rfl, hw⟩ := way_all.mp this
        rw [bld_ways hw] at q
        have hz : zipD (ss.map .str) (cut (ss.map .str) (some 1) none) = (nbp ss).map prL := by
          rw [cut_map, cut_one, zip_pr]
          rfl
        have hnl : (nbp ss).length ≤ ss.length := by unfold nbp; rw [List.length_zip]; omega
        rw [List.length_map] at hl
        rw [hz]
        refine lcK_ind (fun ds acc env => ∃ p0 p1 : List (Str × Str), p0 ++ p1 = nbp ss ∧ ds = p1.map prL ∧ acc = (p0.map ltB).map .bl ∧ env = [some (fz (.tup (ss.map .str))), none, none, none]) ?_ ?_ _ _ _ ⟨[], nbp ss, rfl, rfl, rfl, rfl⟩
        · rintro d ds acc env ⟨p0, p1, e1, e2, rfl, rfl⟩ K hK
          cases p1 with
          | nil => cases e2
          | cons p p1 =>
            cases e2
            have hp : p0.length ≤ (nbp ss).length := by rw [← e1]; simp
            simp [prL]
            have n := hK _ _ ⟨p0 ++ [p], p1, by rw [← e1]; simp, rfl, rfl, rfl⟩
            simp [ltB] at n
            exact ⟨by omega, n⟩
        · rintro acc env ⟨p0, p1, e1, e2, rfl, rfl⟩
          have : p1 = [] := by cases p1 <;> first | rfl | cases e2
          subst this
          rw [List.append_nil] at e1
          subst e1
          generalize hb2 : (nbp ss).map ltB = cs2
          have ha2 : cs2.all id = ascB ss := by rw [← hb2, List.all_map, ← nbs_all]; rfl
          simp
          rw [ha2]
          exact q
  · exact h.elim
end Lk25

namespace Lk25
open PySem PySem.Spec PyProof.Rows L2 TL WL
theorem f__law_is_build : ∀ args Q, t__law_is_build args Q → ∃ ds : List D, args = ds.map fz := by
  intro args Q h
  unfold t__law_is_build at h
  split at h
  · exact ⟨[_], rfl⟩
  · exact h.elim
theorem asc_self (ss : List Str) : ascB ss = true ↔ ss = usort ss := by
  rw [usort_self]
  induction ss with
  | nil => exact ⟨fun _ => .nil, fun _ => rfl⟩
  | cons a r ih =>
    cases r with
    | nil => exact ⟨fun _ => by simp, fun _ => rfl⟩
    | cons b r =>
      rw [show ascB (a :: b :: r) = (decide (a.cps.toList < b.cps.toList) && ascB (b :: r)) from rfl, Bool.and_eq_true, decide_eq_true_eq, ih, List.pairwise_cons (a := a)]
      constructor
      · rintro ⟨h1, h2⟩
        refine ⟨fun y hy => ?_, h2⟩
        rcases List.mem_cons.mp hy with rfl | hy
        · exact h1
        · exact List.lt_trans h1 ((List.pairwise_cons.mp h2).1 y hy)
      · rintro ⟨h1, h2⟩
        exact ⟨h1 b List.mem_cons_self, h2⟩
theorem eqDs_strs : ∀ as bs : List Str, eqDs (as.map .str) (bs.map .str) = decide (as = bs)
  | [], [] => rfl
  | [], b :: bs => rfl
  | a :: as, [] => rfl
  | a :: as, b :: bs => by
    show ((a == b) && eqDs (as.map .str) (bs.map .str)) = _
    rw [eqDs_strs as bs, Bool.eq_iff_iff, Bool.and_eq_true, beq_iff_eq, decide_eq_true_eq, decide_eq_true_eq, List.cons.injEq]
theorem pures_strs : ∀ l : List Str, pures (l.map .str) = true
  | [] => rfl
  | s :: l => pures_strs l
theorem depth_strs : ∀ l : List Str, depthDs (l.map .str) = 0
  | [] => rfl
  | s :: l => by
    show max 0 (depthDs (l.map .str)) = 0
    rw [depth_strs l]; rfl
theorem eqDs_nilR (l : List D) : eqDs l [] = l.isEmpty := by cases l <;> rfl
theorem w__law_is_build : ∀ args Q, t__law_is_build args Q → args.length = 1 → wSs G__law_is_build b__law_is_build (env0 B__law_is_build.N args) (endB args Q) := by
  intro args Q h _
  unfold t__law_is_build at h
  split at h
  · obtain ⟨hx, q⟩ := h
    rename_i x
    cases hx.pl (by omega) <;> simp [b__law_is_build, B__law_is_build, N__law_is_build, G__law_is_build, cs] <;> first | exact q | skip
    rename_i xs
    have hl := hx.tlen
    have hit := hx.of_tup
    refine lcK_ind (fun ds acc env => ∃ d0, d0 ++ ds = xs ∧ acc = (d0.map isStrD).map .bl ∧ env = [some (fz (.tup xs)), none, none]) ?_ ?_ _ _ _ ⟨[], rfl, rfl, rfl⟩
    · rintro d ds acc env ⟨d0, e, rfl, rfl⟩ K hK
      have hd0 : d0.length ≤ xs.length := by rw [← e]; simp
      have hm : d ∈ xs := by rw [← e]; simp
      have go : K (List.map (D.bl ∘ isStrD) d0 ++ [.bl (isStrD d)]) [some (fz (.tup xs)), none, none] := hK _ _ ⟨d0 ++ [d], by rw [← e]; simp, by simp, rfl⟩
      cases (hit d hm).pl (by omega) <;> simp <;> exact ⟨by omega, go⟩
    · rintro acc env ⟨d0, e, rfl, rfl⟩
      rw [List.append_nil] at e
      subst e
      generalize hbs : d0.map isStrD = bs
      have ha : bs.all id = d0.all isStrD := by rw [← hbs, List.all_map]; rfl
      simp
      split
      · rename_i hf
        have : d0.all isStrD = false := by rw [← ha]; exact List.all_eq_false.mpr ⟨false, hf, by simp⟩
        have e : bldB (.tup d0) = false := by
          show (match unStrs d0 with | some ss => ss.all (fun s => decide (s ∈ waysL)) && ascB ss | none => false) = false
          rw [unStrs_none.mpr this]
        rw [e] at q
        exact q
      · rename_i hf
        have hn : ¬ unStrs d0 = none := fun z => by
          have : d0.all isStrD = true := by
            rw [← ha]
            refine List.all_eq_true.mpr fun b hb => ?_
            cases b
            · exact (hf hb).elim
            · rfl
          rw [unStrs_none.mp z] at this
          cases this
        obtain ⟨ss, es⟩ := Option.ne_none_iff_exists'.mp hn
        obtain rfl := unStrs_eq es
        rw [es]
        simp
        rw [List.length_map] at hl
        refine ⟨by omega, pures_strs _, pures_strs _, .inl (by rw [depth_strs]; omega), ?_⟩
        rw [eqDs_strs]
        have q : Q (fz (.bl (match unStrs (ss.map .str) with | some ss => ss.all (fun s => decide (s ∈ waysL)) && ascB ss | none => false))) [fz (.tup (ss.map .str))] := q
        rw [es] at q
        have q : Q (fz (.bl (ss.all (fun s => decide (s ∈ waysL)) && ascB ss))) [fz (.tup (ss.map .str))] := q
        by_cases hu : ss = usort ss
        · rw [(asc_self ss).mpr hu, Bool.and_true] at q
          rw [if_pos (decide_eq_true hu)]
          refine lcK_ind (fun ds acc env => ∃ s0 s1 : List Str, s0 ++ s1 = ss ∧ ds = s1.map .str ∧ acc = (s0.filter fun s => !decide (s ∈ waysL)).map .str ∧ ∃ w : Bool, env = [some (fz (.tup (ss.map .str))), none, some ⟨w, .lst [.str "bare", .str "early", .str "grab", .str "halved", .str "mute", .str "over", .str "plain"]⟩]) ?_ ?_ _ _ _ ⟨[], ss, rfl, rfl, rfl, true, rfl⟩
          · rintro d ds acc env ⟨s0, s1, e1, e2, rfl, w, rfl⟩ K hK
            cases s1 with
            | nil => cases e2
            | cons s s1 =>
              cases e2
              have hp : s0.length ≤ ss.length := by rw [← e1]; simp
              have hf : (s0.filter fun s => !decide (s ∈ waysL)).length ≤ s0.length := List.length_filter_le _ _
              simp [way_in]
              by_cases hs : s ∈ waysL
              · simp [hs]
                exact hK _ _ ⟨s0 ++ [s], s1, by rw [← e1]; simp, rfl, by simp [hs], w, rfl⟩
              · simp [hs]
                exact ⟨by omega, hK _ _ ⟨s0 ++ [s], s1, by rw [← e1]; simp, rfl, by simp [hs], w, rfl⟩⟩
          · rintro acc env ⟨s0, s1, e1, e2, rfl, w, rfl⟩
            have : s1 = [] := by cases s1 <;> first | rfl | cases e2
            subst this
            rw [List.append_nil] at e1
            subst e1
            simp [eqDs_nilR, pures_strs]
            have e : (s0.filter fun s => !decide (s ∈ waysL)).isEmpty = s0.all fun s => decide (s ∈ waysL) := by
              rw [Bool.eq_iff_iff, List.isEmpty_iff, List.filter_eq_nil_iff, List.all_eq_true]
              simp
            rw [e]
            exact q
        · rw [show ascB ss = false from Bool.eq_false_iff.mpr fun z => hu ((asc_self ss).mp z), Bool.and_false] at q
          rw [if_neg (by rw [decide_eq_true_eq]; exact hu), decide_eq_false hu]
          exact q
  · exact h.elim
end Lk25

namespace Lk25
open PySem PySem.Spec PyProof.Rows L2 TL WL
theorem Bx.le {n m a b c : Int} (h : Bx n a b c) (hm : m ≤ n) : Bx m a b c := ⟨h.1, h.2.1, h.2.2.1, h.2.2.2.1, by have := h.2.2.2.2; omega⟩
theorem Bx.up {n m a b c a' c' : Int} (h : Bx n a b c) (h' : Bx 0 a' b c') (hc : c' + m ≤ c + n) : Bx m a' b c' := ⟨h'.1, h.2.1, h.2.2.1, h'.2.2.2.1, by have := h.2.2.2.2; omega⟩
theorem w__law_take : ∀ args Q, t__law_take args Q → args.length = 2 → wSs G__law_take b__law_take (env0 B__law_take.N args) (endA 2 Q) := by
  intro args Q h hargs
  unfold t__law_take at h
  split at h
  · rename_i a b c m
    obtain ⟨hm, ⟨a0, b0, b1, c0, c1⟩, q⟩ := h
    have e1 : ∀ a : Int, 0 ≤ a % m := fun a => Int.emod_nonneg _ (by omega)
    have e2 : ∀ a : Int, a % m < m := fun a => Int.emod_lt_of_pos _ hm.1
    simp [b__law_take, B__law_take, N__law_take, G__law_take]
    split
    · rename_i ha
      refine ⟨hm.1, ⟨hm.1, by omega⟩, q _ _ _ (e1 _) (e2 _) ⟨Int.ediv_nonneg a0 (by omega), b0, b1, c0, by omega⟩ (by omega) (by omega)⟩
    · have d1 := Int.emod_nonneg (b + 1442695040888963407 * (c + 1)) (b := 2305843009213693951) (by decide)
      have d2 := Int.emod_lt_of_pos (b + 1442695040888963407 * (c + 1)) (b := 2305843009213693951) (by decide)
      generalize (b + 1442695040888963407 * (c + 1)) % 2305843009213693951 = o at d1 d2 ⊢
      have f1 := Int.emod_nonneg (o * o + 39373 * (c + 1) + 7) (b := 2305843009213693921) (by decide)
      have f2 := Int.emod_lt_of_pos (o * o + 39373 * (c + 1) + 7) (b := 2305843009213693921) (by decide)
      generalize (o * o + 39373 * (c + 1) + 7) % 2305843009213693921 = t at f1 f2 ⊢
      refine ⟨by omega, .inl (by omega), hm.1, q _ _ _ (e1 _) (e2 _) ⟨a0, b0, b1, by omega, by omega⟩ (by omega) (by omega)⟩
  · exact h.elim
theorem w__law_pick : ∀ args Q, t__law_pick args Q → args.length = 2 → wSs G__law_pick b__law_pick (env0 B__law_pick.N args) (endA 2 Q) := by
  intro args Q h hargs
  unfold t__law_pick at h
  split at h
  · obtain ⟨hl, hb, q⟩ := h
    rename_i a b c ds
    simp [b__law_pick, B__law_pick, N__law_pick, G__law_pick]
    refine ⟨by omega, hb, fun r a' c' r0 r1 h' c1 c2 => ?_⟩
    obtain ⟨n, rfl⟩ : ∃ n : Nat, r = n := ⟨r.toNat, by omega⟩
    have hn : n < ds.length := by omega
    simp [hn]
    exact q _ _ _ (List.getElem_mem hn) h' c1 c2
  · exact h.elim
theorem cut_sub {α : Type} (xs : List α) (lo hi : Option Int) : (cut xs lo hi).Sublist xs := (List.take_sublist _ _).trans (List.drop_sublist _ _)
theorem cut_dropK {α : Type} (xs : List α) {u : Int} (h : 0 ≤ u) : cut xs (some u) none = xs.drop u.toNat := by
  unfold cut HT.sIx
  simp only [if_neg (show ¬ u < 0 by omega)]
  rw [List.take_of_length_le (by rw [List.length_drop]; exact Nat.le_refl _)]
  rw [Nat.min_def]
  split
  · rfl
  · rw [List.drop_length, List.drop_eq_nil_of_le (by omega)]
theorem bt_tup {n : Nat} (hn : n ≤ 25) {ys : List D} (hl : ys.length ≤ n) (hy : ∀ y ∈ ys, Itm 100 3 y) : Bt n (.tup ys) := by
  have key : ∀ zs : List D, (∀ y ∈ zs, Itm 100 3 y) → costDs zs ≤ 102 * zs.length ∧ depthDs zs ≤ 3 := by
    intro zs
    induction zs with
    | nil => exact fun _ => ⟨by show 0 ≤ _; omega, by show 0 ≤ _; omega⟩
    | cons z zs ih =>
      intro h
      have i := ih fun y hy => h y (List.mem_cons_of_mem _ hy)
      have j := h z List.mem_cons_self
      have e1 : costDs (z :: zs) = costD z + 2 + costDs zs := rfl
      have e2 : depthDs (z :: zs) = max (depthD z) (depthDs zs) := rfl
      have j1 := j.1
      have j2 := j.2
      rw [List.length_cons]
      exact ⟨by omega, by omega⟩
  obtain ⟨k1, k2⟩ := key ys hy
  refine ⟨⟨?_, ?_⟩, fun zs e => by cases e; exact ⟨hl, hy⟩⟩
  · show costDs ys + 3 ≤ 3000
    omega
  · show depthDs ys + 1 ≤ 10
    omega
theorem bt_lst {n m : Nat} (hn : n ≤ 25) {ys : List D} (hl : ys.length ≤ n) (hy : ∀ y ∈ ys, Itm 100 3 y) : Bt m (.lst ys) := by
  have h := bt_tup hn hl hy
  exact ⟨h.1, fun zs e => by cases e⟩
def oddL : List D := [.non, .bl true, .int 0, .str "", .str "Bare", .str "ove", .str "overs", .tup [.str "over"], .lst [.str "bare"], .str "plain", .str "bare", .str "grab"]
def isTupD : D → Bool
  | .tup _ => true
  | _ => false
theorem odd_itm : ∀ x ∈ oddL, Itm 100 3 x ∧ (x = .tup [.str "over"] ∨ isTupD x = false) := by
  intro x hx
  unfold oddL at hx
  simp only [List.mem_cons, List.not_mem_nil, or_false] at hx
  rcases hx with rfl | rfl | rfl | rfl | rfl | rfl | rfl | rfl | rfl | rfl | rfl | rfl
  all_goals exact ⟨⟨by decide +kernel, by decide +kernel⟩, by first | exact .inr rfl | exact .inl rfl⟩
theorem odd_bt {n : Nat} (hn : 1 ≤ n) {x : D} (hx : x ∈ oddL) : Bt n x := by
  obtain ⟨h1, h2⟩ := odd_itm x hx
  refine ⟨h1.le (by omega) (by omega), fun ys e => ?_⟩
  rcases h2 with h2 | h2
  · rw [h2] at e
    cases e
    refine ⟨hn, fun y hy => ?_⟩
    rw [List.mem_singleton.mp hy]
    exact ⟨by decide +kernel, by decide +kernel⟩
  · rw [e] at h2
    cases h2
theorem w__law_bent : ∀ args Q, t__law_bent args Q → args.length = 2 → wSs G__law_bent b__law_bent (env0 B__law_bent.N args) (endA 2 Q) := by
  rintro _ Q ⟨a, b, c, xs, n, rfl, hn, ⟨hI, hB⟩, hb, q⟩ _
  obtain ⟨hl, hy⟩ := hB xs rfl
  simp [b__law_bent, B__law_bent, N__law_bent, G__law_bent, cs]
  refine ⟨hb.le (by omega), fun way a1 c1 w0 w1 h1 x1 y1 => ⟨hb.up h1 (by omega), fun d a2 c2 hd h2 x2 y2 => ?_⟩⟩
  have hd' : d ∈ oddL := by
    unfold oddL
    simpa only [List.mem_cons, List.not_mem_nil, or_false] using hd
  have inC : ∀ lo hi, ∀ x ∈ cut xs lo hi, Itm 100 3 x := fun lo hi x hx => hy x ((cut_sub xs lo hi).subset hx)
  have inC2 : ∀ lo hi lo2 hi2, ∀ x ∈ cut (cut xs lo hi) lo2 hi2, Itm 100 3 x := fun lo hi lo2 hi2 x hx => inC lo hi x ((cut_sub _ lo2 hi2).subset hx)
  refine ⟨by omega, hb.up h2 (by omega), fun r a3 c3 r0 r1 h3 x3 y3 => ?_⟩
  have lt : (cut xs none (some r)).length = r.toNat := by rw [cut_to xs r0, List.length_take]; omega
  have ld : ∀ u : Int, 0 ≤ u → (cut xs (some u) none).length = xs.length - u.toNat := fun u hu => by rw [cut_dropK xs hu, List.length_drop]
  have l0 := ld r r0
  have l1 := ld (r + 1) (by omega)
  have l5 : (cut (cut xs (some r) none) none (some 1)).length ≤ 1 := by rw [cut_to _ (by omega), List.length_take]; exact Nat.min_le_left _ _
  have fin : ∀ (o : Bool) (s : D), (o = true → ∃ l, s = .lst l) → Bt (n + 1) s → Q ⟨o, s⟩ [⟨true, bxD a3 b c3⟩, fz (.tup xs)] := fun o s h h' => q o s a3 c3 h h' h3 (by omega) (by omega)
  split
  · exact fin true _ (fun _ => ⟨_, rfl⟩) (bt_lst (n := n) (by omega) hl hy)
  split
  · exact fin false _ (fun h => nomatch h) (bt_tup (by omega) (by rw [List.length_reverse]; omega) fun y h => hy y (List.mem_reverse.mp h))
  split
  · refine ⟨by omega, by omega, fin false _ (fun h => nomatch h) (bt_tup (by omega) (by rw [List.length_append, List.length_append]; omega) fun y h => ?_)⟩
    exact (List.mem_append.mp h).elim (inC _ _ y) fun h => (List.mem_append.mp h).elim (inC2 _ _ _ _ y) (inC _ _ y)
  split
  · refine ⟨by omega, fin false _ (fun h => nomatch h) (bt_tup (by omega) (by rw [List.length_append]; omega) fun y h => ?_)⟩
    exact (List.mem_append.mp h).elim (inC _ _ y) (inC _ _ y)
  split
  · exact fin false _ (fun h => nomatch h) (odd_bt (by omega) hd')
  · have l6 := ld (r + if way = 5 then 1 else 0) (by split <;> omega)
    have l7 : (r + if way = 5 then 1 else 0).toNat ≥ r.toNat := by split <;> omega
    refine ⟨by omega, by omega, fin false _ (fun h => nomatch h) (bt_tup (by omega) (by rw [List.length_append, List.length_cons]; omega) fun y h => ?_)⟩
    refine (List.mem_append.mp h).elim (inC _ _ y) fun h => (List.mem_cons.mp h).elim (fun e => ?_) (inC _ _ y)
    rw [e]
    exact (odd_itm d hd').1
end Lk25

namespace Lk25
open PySem PySem.Spec PyProof.Rows L2 TL WL
theorem f_is_sound : ∀ args Q, t_is_sound args Q → ∃ ds : List D, args = ds.map fz := by
  intro args Q h
  unfold t_is_sound at h
  split at h
  · exact ⟨[_, _], rfl⟩
  · exact h.elim
theorem w_is_sound : ∀ args Q, t_is_sound args Q → args.length = 2 → wSs G_is_sound b_is_sound (env0 B_is_sound.N args) (endB args Q) := by
  intro args Q h _
  unfold t_is_sound at h
  split at h
  · obtain ⟨ss, e, hl, q⟩ := onS_el h
    obtain rfl := unStrs_eq e
    rename_i n _
    clear h e
    simp [b_is_sound, B_is_sound, N_is_sound, G_is_sound, cs, inD_strs, flat_strs, pures_strs]
    split
    · rename_i hn
      rw [if_pos hn] at q
      refine lcK_ind (fun ds acc env => ∃ s0 s1 : List Str, s0 ++ s1 = ss ∧ ds = s1.map .str ∧ acc = (s0.map fun s : Str => decide (s = "over")).map .bl ∧ env = [some (fz (.tup (ss.map .str))), some (fz (.int n)), none]) ?_ ?_ _ _ _ ⟨[], ss, rfl, rfl, rfl, rfl⟩
      · rintro d ds acc env ⟨s0, s1, e1, e2, rfl, rfl⟩ K hK
        cases s1 with
        | nil => cases e2
        | cons s s1 =>
          cases e2
          have hp : s0.length ≤ ss.length := by rw [← e1]; simp
          have n := hK _ _ ⟨s0 ++ [s], s1, by rw [← e1]; simp, rfl, rfl, rfl⟩
          simp at n ⊢
          have eb : (s == ("over" : Str)) = decide (s = ("over" : Str)) := by rw [Bool.eq_iff_iff, beq_iff_eq, decide_eq_true_eq]
          rw [eb]
          exact ⟨by omega, n⟩
      · rintro acc env ⟨s0, s1, e1, e2, rfl, rfl⟩
        have : s1 = [] := by cases s1 <;> first | rfl | cases e2
        subst this
        rw [List.append_nil] at e1
        subst e1
        generalize hb2 : (s0.map fun s : Str => decide (s = "over")) = cs2
        have ha2 : cs2.all id = s0.all fun s => decide (s = "over") := by rw [← hb2, List.all_map]; rfl
        simp
        rw [ha2]
        exact q
    · rename_i hn
      rw [if_neg hn] at q
      have gp : (if ("grab" : Str) ∈ ss then Q (fz (.bl !decide (("grab" : Str) ∈ ss))) [fz (.tup (ss.map .str)), fz (.int n)] else Q (fz (.bl !decide (("plain" : Str) ∈ ss))) [fz (.tup (ss.map .str)), fz (.int n)]) := by
        unfold noGP at q
        split
        · rename_i hg
          rw [decide_eq_true hg] at q ⊢
          exact q
        · rename_i hg
          rw [decide_eq_false hg] at q
          simpa using q
      exact gp
  · exact h.elim
theorem f__law_sound : ∀ args Q, t__law_sound args Q → ∃ ds : List D, args = ds.map fz := by
  intro args Q h
  unfold t__law_sound at h
  split at h
  · exact ⟨[_, _], rfl⟩
  · exact h.elim
theorem w__law_sound : ∀ args Q, t__law_sound args Q → args.length = 2 → wSs G__law_sound b__law_sound (env0 B__law_sound.N args) (endB args Q) := by
  intro args Q h _
  unfold t__law_sound at h
  split at h
  · obtain ⟨ss, e, hl, q⟩ := onS_el h
    obtain rfl := unStrs_eq e
    rename_i n _
    clear h e
    simp [b__law_sound, B__law_sound, N__law_sound, G__law_sound, cs, inD_strs, flat_strs, pures_strs]
    split
    · rename_i hn
      rw [if_pos hn] at q
      have gp : (if ("grab" : Str) ∈ ss then Q (fz (.bl !decide (("grab" : Str) ∈ ss))) [fz (.tup (ss.map .str)), fz (.int n)] else Q (fz (.bl !decide (("plain" : Str) ∈ ss))) [fz (.tup (ss.map .str)), fz (.int n)]) := by
        unfold noGP at q
        split
        · rename_i hg
          rw [decide_eq_true hg] at q ⊢
          exact q
        · rename_i hg
          rw [decide_eq_false hg] at q
          simpa using q
      exact gp
    · rename_i hn
      rw [if_neg hn] at q
      have e : inD (.tup (ss.map .str)) [.tup [], .tup [.str "over"]] = decide (ss = [] ∨ ss = [("over" : Str)]) := by
        have e1 : inD (.tup (ss.map .str)) [.tup [], .tup [.str "over"]] = (eqDs (([] : List Str).map .str) (ss.map .str) || (eqDs (([("over" : Str)]).map .str) (ss.map .str) || false)) := rfl
        rw [e1, eqDs_strs, eqDs_strs, Bool.or_false, Bool.eq_iff_iff, Bool.or_eq_true, decide_eq_true_eq, decide_eq_true_eq, decide_eq_true_eq]
        exact ⟨fun z => z.imp Eq.symm Eq.symm, fun z => z.imp Eq.symm Eq.symm⟩
      rw [e]
      exact q
  · exact h.elim
end Lk25

namespace Lk25
open PySem PySem.Spec PyProof.Rows L2 TL WL
theorem filt_snoc : ∀ (bs : List Bool) (ss : List Str) (b : Bool) (s : Str), bs.length = ss.length → filt (bs ++ [b]) (ss ++ [s]) = filt bs ss ++ (if b then [s] else [])
  | [], [], b, s, _ => by cases b <;> rfl
  | [], _ :: _, b, s, h => by cases h
  | _ :: _, [], b, s, h => by cases h
  | true :: bs, t :: ss, b, s, h => by
    show t :: filt (bs ++ [b]) (ss ++ [s]) = t :: filt bs ss ++ _
    rw [filt_snoc bs ss b s (Nat.succ.inj h)]
    rfl
  | false :: bs, t :: ss, b, s, h => filt_snoc bs ss b s (Nat.succ.inj h)
theorem filt_len : ∀ (bs : List Bool) (ss : List Str), (filt bs ss).length ≤ ss.length
  | [], ss => by cases ss <;> exact Nat.zero_le _
  | b :: bs, [] => Nat.zero_le _
  | true :: bs, s :: ss => Nat.succ_le_succ (filt_len bs ss)
  | false :: bs, s :: ss => Nat.le_succ_of_le (filt_len bs ss)
theorem w__law_ways : ∀ args Q, t__law_ways args Q → args.length = 1 → wSs G__law_ways b__law_ways (env0 B__law_ways.N args) (endA 1 Q) := by
  intro args Q h hargs
  unfold t__law_ways at h
  split at h
  · obtain ⟨hb, q⟩ := h
    rename_i a b c
    simp [b__law_ways, B__law_ways, N__law_ways, G__law_ways, cs]
    refine ⟨hb.le (by omega), fun r a1 c1 r0 r1 h1 x1 y1 => ?_⟩
    obtain ⟨n, hn, n0, n1⟩ : ∃ n : Int, atI [D.int 1, D.int 3, D.int 9] r = some (.int n) ∧ 0 < n ∧ n < 10 := by
      obtain rfl | rfl | rfl : r = 0 ∨ r = 1 ∨ r = 2 := by omega
      · exact ⟨1, rfl, by omega, by omega⟩
      · exact ⟨3, rfl, by omega, by omega⟩
      · exact ⟨9, rfl, by omega, by omega⟩
    simp [hn]
    refine lcK_ind (fun ds acc env => ∃ (s0 s1 : List Str) (bs : List Bool) (a' c' : Int), s0 ++ s1 = waysL ∧ ds = s1.map .str ∧ acc = (filt bs s0).map .str ∧ bs.length = s0.length ∧ Bx 0 a' b c' ∧ c ≤ c' ∧ c' ≤ c + 1 + s0.length ∧
      ∃ w : Bool, env = [some ⟨true, bxD a' b c'⟩, some ⟨w, .lst (waysL.map .str)⟩, some (fz (.int n)), none]) ?_ ?_ _ _ _ ⟨[], waysL, [], a1, c1, rfl, rfl, rfl, rfl, h1, by omega, by simp; omega, false, rfl⟩
    · rintro d ds acc env ⟨s0, s1, bs, a', c', e1, e2, rfl, hl, h2, x2, y2, w, rfl⟩ K hK
      cases s1 with
      | nil => cases e2
      | cons s s1 =>
        cases e2
        have hp : s0.length < 7 := by
          have := congrArg List.length e1
          simp [waysL] at this
          omega
        have fl := filt_len bs s0
        simp
        refine ⟨by omega, hb.up h2 (by omega), fun r2 a2 c2 r20 r21 h3 x3 y3 => ?_⟩
        have nx : ∀ bt : Bool, K ((filt (bs ++ [bt]) (s0 ++ [s])).map .str) [some ⟨true, bxD a2 b c2⟩, some ⟨w, .lst (waysL.map .str)⟩, some (fz (.int n)), none] := fun bt =>
          hK _ _ ⟨s0 ++ [s], s1, bs ++ [bt], a2, c2, by rw [← e1]; simp, rfl, rfl, by simp [hl], h3, by omega, by simp; omega, w, rfl⟩
        split
        · have n := nx true
          rw [filt_snoc bs s0 true s hl] at n
          simp at n
          exact ⟨by omega, n⟩
        · have n := nx false
          rw [filt_snoc bs s0 false s hl] at n
          simp at n
          exact n
    · rintro acc env ⟨s0, s1, bs, a', c', e1, e2, rfl, hl, h2, x2, y2, w, rfl⟩
      have : s1 = [] := by cases s1 <;> first | rfl | cases e2
      subst this
      rw [List.append_nil] at e1
      subst e1
      simp
      exact q bs a' c' hl h2 x2 (by simp [waysL] at y2; omega)
  · exact h.elim
theorem seven {bs : List Bool} (h : bs.length = 7) {p : List Bool → Prop} (k : ∀ a b c d e f g : Bool, p [a, b, c, d, e, f, g]) : p bs := by
  match bs, h with
  | [a, b, c, d, e, f, g], _ => exact k a b c d e f g
theorem way_bld {bs : List Bool} (h : bs.length = 7) : bldB (wayD bs) = true := seven h (p := fun bs => bldB (wayD bs) = true) (by decide +kernel)
theorem way_sound {bs : List Bool} (h : bs.length = 7) : ((filt bs waysL).all fun s => decide (s = "over")) = decide (filt bs waysL = [] ∨ filt bs waysL = [("over" : Str)]) := seven h (p := fun bs => ((filt bs waysL).all fun s => decide (s = "over")) = decide (filt bs waysL = [] ∨ filt bs waysL = [("over" : Str)])) (by decide +kernel)
theorem filt_sub : ∀ (bs : List Bool) (ss : List Str), ∀ s ∈ filt bs ss, s ∈ ss
  | [], ss, s, h => by cases ss <;> cases h
  | b :: bs, [], s, h => by cases h
  | true :: bs, t :: ss, s, h => by
    rcases List.mem_cons.mp h with rfl | h
    · exact List.mem_cons_self
    · exact List.mem_cons_of_mem _ (filt_sub bs ss s h)
  | false :: bs, t :: ss, s, h => List.mem_cons_of_mem _ (filt_sub bs ss s h)
theorem way_itm : ∀ s ∈ waysL, Itm 100 3 (.str s) := by
  intro s hs
  unfold waysL at hs
  simp only [List.mem_cons, List.not_mem_nil, or_false] at hs
  rcases hs with rfl | rfl | rfl | rfl | rfl | rfl | rfl
  all_goals exact ⟨by decide +kernel, by decide +kernel⟩
theorem way_bt (bs : List Bool) : Bt 7 (wayD bs) := by
  refine bt_tup (by omega) ?_ fun y hy => ?_
  · rw [List.length_map]; exact filt_len bs waysL
  · obtain ⟨s, hs, rfl⟩ := List.mem_map.mp hy
    exact way_itm s (filt_sub bs waysL s hs)
end Lk25

namespace Lk25
open PySem PySem.Spec PyProof.Rows L2 TL WL
theorem w__law_right : ∀ args Q, t__law_right args Q → args.length = 1 → wSs G__law_right b__law_right (env0 B__law_right.N args) (endA 1 Q) := by
  intro args Q h hargs
  unfold t__law_right at h
  split at h
  · obtain ⟨hb, q⟩ := h
    rename_i a b c
    simp [b__law_right, B__law_right, N__law_right, G__law_right, cs]
    refine forK_ind (fun ds env => ∃ (a' c' : Int) (o1 o2 o3 o4 o5 o6 o7 : Option Val), Bx 0 a' b c' ∧ c ≤ c' ∧ c' + 300 * ds.length ≤ c + 4000 ∧ (∀ d ∈ ds, ∃ i : Int, d = .int i) ∧ env = [some ⟨true, bxD a' b c'⟩, o1, o2, o3, o4, o5, o6, o7]) ?_ ?_ _ _ ⟨a, c, none, none, none, none, none, none, none, hb.le (by omega), by omega, by simp [rngD], fun d hd => (rng_int d hd).imp fun i h => h.1, rfl⟩
    · rintro d ds env ⟨a', c', o1, o2, o3, o4, o5, o6, o7, h1, x1, y1, hd, rfl⟩ K hK
      obtain ⟨i, rfl⟩ := hd d List.mem_cons_self
      have hd' : ∀ d ∈ ds, ∃ i : Int, d = .int i := fun d h => hd d (List.mem_cons_of_mem _ h)
      simp only [List.length_cons] at y1
      simp
      refine ⟨hb.up h1 (by omega), fun bs a1 c1 hl h2 x2 y2 => ?_⟩
      have wI := (way_bt bs).1.le (m := 3000) (e := 20) (by omega) (by omega)
      simp [way_bld hl]
      refine ⟨wI, ?_⟩
      rw [if_pos (show reprD (.lst [.bl true, .bl true]) = ("[True, True]" : Str) by decide +kernel)]
      refine forK_ind (fun ds2 env => ∃ (o3 o5 : Option Val), (∀ d ∈ ds2, ∃ i : Int, d = .int i ∧ 0 ≤ i ∧ i < 5) ∧ env = [some ⟨true, bxD a1 b c1⟩, some (fz (.int i)), some (fz (wayD bs)), o3, o4, o5, o6, o7]) ?_ ?_ _ _ ⟨o3, o5, fun d hd => rng_int d hd, rfl⟩
      · rintro d ds2 env ⟨p3, p5, hd2, rfl⟩ K2 hK2
        obtain ⟨k, rfl, k0, k1⟩ := hd2 d List.mem_cons_self
        have un : unStrs ((filt bs waysL).map .str) = some (filt bs waysL) := unS _
        have fl : (filt bs waysL).length ≤ 100 := Nat.le_trans (filt_len bs waysL) (by decide)
        simp [wayD, un]
        refine ⟨fl, ?_⟩
        have e : (if 0 < k then (filt bs waysL).all fun s => decide (s = ("over" : Str)) else noGP (filt bs waysL)) = (if k = 0 then noGP (filt bs waysL) else decide (filt bs waysL = []) || decide (filt bs waysL = [("over" : Str)])) := by
          by_cases h0 : k = 0
          · rw [if_pos h0, if_neg (by omega)]
          · rw [if_neg h0, if_pos (by omega), way_sound hl, Bool.decide_or]
        rw [e, if_pos rfl]
        exact hK2 _ ⟨_, _, fun d h => hd2 d (List.mem_cons_of_mem _ h), rfl⟩
      · rintro env ⟨p3, p5, hd2, rfl⟩
        simp
        refine forK_ind (fun ds2 env => ∃ (a' c' : Int) (o4 o6 o7 : Option Val), Bx 0 a' b c' ∧ c ≤ c' ∧ c' + 40 * ds2.length ≤ c1 + 250 ∧ (∀ d ∈ ds2, ∃ i : Int, d = .int i) ∧ env = [some ⟨true, bxD a' b c'⟩, some (fz (.int i)), some (fz (wayD bs)), p3, o4, p5, o6, o7]) ?_ ?_ _ _ ⟨a1, c1, o4, o6, o7, h2, by omega, by simp [rngD], fun d hd => (rng_int d hd).imp fun i h => h.1, rfl⟩
        · rintro d ds2 env ⟨a2, c2, p4, p6, p7, h3, x3, y3, hd2, rfl⟩ K2 hK2
          obtain ⟨k, rfl⟩ := hd2 d List.mem_cons_self
          simp only [List.length_cons] at y3
          simp
          refine ⟨a2, b, c2, _, 7, rfl, by omega, way_bt bs, hb.up h3 (by omega), fun o r a3 c3 ho hr h4 x4 y4 => ?_⟩
          have hd2' : ∀ d ∈ ds2, ∃ i : Int, d = .int i := fun d h => hd2 d (List.mem_cons_of_mem _ h)
          have fin : ∀ (o : Bool) (r : D) (a5 c5 : Int) (p7 : Option Val), Bt 9 r → Bx 0 a5 b c5 → c3 ≤ c5 → c5 ≤ c3 + 15 → K2 [some ⟨true, bxD a5 b c5⟩, some (fz (.int i)), some (fz (wayD bs)), p3, some (fz (.int k)), p5, some ⟨o, r⟩, p7] := fun o r a5 c5 p7 hr h5 x5 y5 =>
            hK2 _ ⟨a5, c5, _, _, _, h5, by omega, by omega, hd2', rfl⟩
          have hI := hr.1.le (m := 3000) (e := 20) (by omega) (by omega)
          by_cases ht : isTupD r = true
          · obtain ⟨ys, rfl⟩ : ∃ ys, r = .tup ys := by
              cases r <;> first | exact ⟨_, rfl⟩ | cases ht
            obtain rfl : o = false := by
              cases o
              · rfl
              · obtain ⟨l, e⟩ := ho rfl
                cases e
            have c1' := hr.1.1
            have c2' := hr.1.2
            have g1 : costD (.tup ys) = costDs ys + 3 := rfl
            have g2 : depthD (.tup ys) = depthDs ys + 1 := rfl
            simp
            refine ⟨hb.up h4 (by omega), fun r2 a4 c4 r20 r21 h5 x5 y5 => ?_⟩
            split
            · refine ⟨a4, b, c4, _, 8, rfl, by omega, hr, hb.up h5 (by omega), fun o2 r3 a5 c5 ho2 hr2 h6 x6 y6 => ?_⟩
              have hI2 := hr2.1.le (m := 3000) (e := 20) (by omega) (by omega)
              cases hr2.1.pl (by omega)
              all_goals simp
              · exact ⟨hI2, fin _ _ _ _ _ hr2 h6 (by omega) (by omega)⟩
              · exact ⟨hI2, fin _ _ _ _ _ hr2 h6 (by omega) (by omega)⟩
              · have j := hI2.1
                exact ⟨by omega, hI2, by omega, fin _ _ _ _ _ hr2 h6 (by omega) (by omega)⟩
              · rename_i t
                have j : 10 * t.length + 2 ≤ 3000 := hI2.1
                exact ⟨by omega, hI2, by omega, fin _ _ _ _ _ hr2 h6 (by omega) (by omega)⟩
              · rename_i t
                have j1 : costDs t + 3 ≤ 3000 := hI2.1
                have j2 : depthDs t + 1 ≤ 10 := hr2.1.2
                exact ⟨by omega, by omega, hI2, by omega, by omega, fin _ _ _ _ _ hr2 h6 (by omega) (by omega)⟩
              · rename_i t
                have j1 : costDs t + 3 ≤ 3000 := hI2.1
                have j2 : depthDs t + 1 ≤ 10 := hr2.1.2
                exact ⟨by omega, by omega, hI2, by omega, by omega, fin _ _ _ _ _ hr2 h6 (by omega) (by omega)⟩
            · exact ⟨by omega, by omega, hI, by omega, by omega, fin _ _ _ _ _ ⟨hr.1, fun zs e => ⟨Nat.le_succ_of_le (hr.2 zs e).1, (hr.2 zs e).2⟩⟩ h5 (by omega) (by omega)⟩
          · have hbd : bldB r = false := by
              cases r <;> first | rfl | exact (ht rfl).elim
            have hr9 := (fun hr => ⟨hr.1, fun zs e => ⟨Nat.le_succ_of_le (hr.2 zs e).1, (hr.2 zs e).2⟩⟩ : ∀ {x}, Bt (7 + 1) x → Bt 9 x) hr
            cases hr.1.pl (by omega) <;> first | exact (ht rfl).elim | skip
            all_goals simp
            · exact ⟨hI, fin _ _ _ _ _ hr9 h4 (by omega) (by omega)⟩
            · exact ⟨hI, fin _ _ _ _ _ hr9 h4 (by omega) (by omega)⟩
            · have j := hI.1
              exact ⟨by omega, hI, by omega, fin _ _ _ _ _ hr9 h4 (by omega) (by omega)⟩
            · rename_i t
              have j : 10 * t.length + 2 ≤ 3000 := hI.1
              exact ⟨by omega, hI, by omega, fin _ _ _ _ _ hr9 h4 (by omega) (by omega)⟩
            · rename_i t
              have j1 : costDs t + 3 ≤ 3000 := hI.1
              have j2 : depthDs t + 1 ≤ 10 := hr.1.2
              exact ⟨by omega, by omega, hI, by omega, by omega, fin _ _ _ _ _ hr9 h4 (by omega) (by omega)⟩
        · rintro env ⟨a2, c2, p4, p6, p7, h3, x3, y3, hd2, rfl⟩
          simp at y3
          simp
          exact hK _ ⟨a2, c2, _, _, _, _, _, _, _, h3, x3, by omega, hd', rfl⟩
    · rintro env ⟨a', c', o1, o2, o3, o4, o5, o6, o7, h1, x1, y1, hd, rfl⟩
      simp
      exact q _ _ h1 (by omega) (by simp at y1; omega)
  · exact h.elim
end Lk25

namespace Lk25
open PySem PySem.Spec PyProof.Rows L2 TL WL
theorem f__law_box : ∀ args Q, t__law_box args Q → ∃ ds : List D, args = ds.map fz := by
  intro args Q h
  unfold t__law_box at h
  split at h
  · exact ⟨[_, _], rfl⟩
  · exact h.elim
theorem w__law_box : ∀ args Q, t__law_box args Q → args.length = 2 → wSs G__law_box b__law_box (env0 B__law_box.N args) (endB args Q) := by
  intro args Q h hargs
  unfold t__law_box at h
  split at h
  · obtain ⟨ns, e, ⟨k0, k1, k2⟩, q⟩ := onS_el h
    rename_i ds k
    obtain rfl := unInts_eq e
    clear h e
    have fin : ∀ c b : Int, 0 ≤ c → (b = 0 ∨ b = 1) → ∀ d : Int, Q ⟨true, bxD (c * b) (d % 2305843009213693951 + 15485863 * k + 11) 0⟩ [fz (.lst (ns.map .int)), fz (.int k)] := by
      intro c b hc hb d
      have d1 := Int.emod_nonneg d (b := 2305843009213693951) (by decide)
      have d2 := Int.emod_lt_of_pos d (b := 2305843009213693951) (by decide)
      refine q _ _ ?_ (by omega) (by omega)
      rcases hb with rfl | rfl <;> omega
    obtain ⟨d, hd⟩ := atI_ints (ns := ns) k0 k1
    simp [b__law_box, B__law_box, N__law_box, G__law_box, cs, hd]
    refine ⟨.inr ?_, ?_⟩
    · split <;> omega
    · exact fin _ _ (by split <;> omega) (by (repeat' split) <;> simp) d
  · exact h.elim
theorem f__law_cells : ∀ args Q, t__law_cells args Q → ∃ ds : List D, args = ds.map fz := by
  intro args Q h
  unfold t__law_cells at h
  split at h
  · exact ⟨[_, _], rfl⟩
  · exact h.elim
theorem w__law_cells : ∀ args Q, t__law_cells args Q → args.length = 2 → wSs G__law_cells b__law_cells (env0 B__law_cells.N args) (endB args Q) := by
  intro args Q h hargs
  unfold t__law_cells at h
  split at h
  · rename_i u
    obtain ⟨ns, e, hn, rfl, q⟩ := onS_el h
    obtain rfl := unInts_eq e
    clear h
    simp [b__law_cells, B__law_cells, N__law_cells, G__law_cells, cut_map, cut_to (xs := ns) (u := 4) (by omega)]
    split <;> rename_i hb <;> refine forK_ind (fun ds env => (∀ d ∈ ds, ∃ (i : Nat) (c : Int), d = .lse [.int i, .int c] ∧ i < 100) ∧
        ∃ (cs : List Int) (o3 o4 : Option Val), env = [some ⟨false, .lst (ns.map D.int)⟩, some (fz (.int 4)), some ⟨true, .lst (cs.map D.int)⟩, o3, o4] ∧ cs.length ≤ 4 ∧ (ds ≠ [] → cs.length = 4)) ?_ ?_ _ _ ?_
    case' isTrue.refine_2 | isFalse.refine_2 =>
      rintro env ⟨_, cs, o3, o4, rfl, hcs, _⟩
      simp
      exact q cs hcs
    case' isTrue.refine_1 | isFalse.refine_1 =>
      rintro d ds env ⟨hd, cs, o3, o4, rfl, hcs, hcu⟩ K hK
      obtain ⟨i, c, rfl, hi⟩ := hd _ List.mem_cons_self
      have hcu := hcu (by simp)
      have r0 : 0 ≤ (i : Int) % 4 := Int.emod_nonneg _ (by omega)
      have r1 : (i : Int) % 4 < 4 := Int.emod_lt_of_pos _ (by omega)
      obtain ⟨c', hc'⟩ := atI_ints (ns := cs) r0 (by omega)
      have ix : ixN cs.length ((i : Int) % 4) = some ((i : Int) % 4).toNat := ixN_lt r0 (by omega)
      simp [hc', ix]
      refine ⟨.inr (by omega), hK _ ⟨fun d h => hd d (List.mem_cons_of_mem _ h), cs.set ((i : Int) % 4).toNat (c' + c * (i + 2)), _, _, by rw [List.map_set], by simpa using hcs, fun _ => by simpa using hcu⟩⟩
    all_goals
      refine ⟨fun d hd => ?_, ?_⟩
      · obtain ⟨i, c, rfl, hi⟩ := enum_ints d hd
        have := cut_len ns (some 4) (some 63)
        exact ⟨i, c, rfl, by omega⟩
    · refine ⟨[0], none, none, rfl, by simp, fun hne => ?_⟩
      exfalso
      apply hne
      have : ns = [] := by simpa using hb
      subst this
      rw [cut_from [] (by omega) (by omega) (by simp)]
      rfl
    · refine ⟨ns.take 4, none, none, by rw [List.map_take], by rw [List.length_take]; omega, fun hne => ?_⟩
      rw [List.length_take]
      by_cases hlt : 4 < ns.length
      · omega
      · exfalso
        apply hne
        rw [cut_from ns (by omega) (by omega) (by omega)]
        rfl
  · exact h.elim
end Lk25

namespace Lk25
open PySem PySem.Spec PyProof.Rows L2 TL WL
theorem f_law : ∀ args Q, t_law args Q → ∃ ds : List D, args = ds.map fz := by
  rintro _ Q ⟨ns, rfl, _⟩
  exact ⟨[_], rfl⟩
theorem sort_ways : sortD [.str "bare", .str "early", .str "grab", .str "halved", .str "mute", .str "over", .str "plain"] = [.str "bare", .str "early", .str "grab", .str "halved", .str "mute", .str "over", .str "plain"] :=
  List.mergeSort_of_pairwise (by decide +kernel)
theorem ok_ways : okSort [.str "bare", .str "early", .str "grab", .str "halved", .str "mute", .str "over", .str "plain"] = true := by decide +kernel
theorem w_law : ∀ args Q, t_law args Q → args.length = 1 → wSs G_law b_law (env0 B_law.N args) (endB args Q) := by
  rintro _ Q ⟨ns, rfl, hn, q⟩ _
  simp [b_law, B_law, N_law, G_law, cs, ok_ways, sort_ways, lcK_c, lcK_n]
  have ways : ∀ t : Str, t ∈ waysL → Itm 3000 20 (.tup [.str t]) ∧ bldB (.tup [.str t]) = true := by
    intro t ht
    unfold waysL at ht
    simp only [List.mem_cons, List.not_mem_nil, or_false] at ht
    rcases ht with rfl | rfl | rfl | rfl | rfl | rfl | rfl
    all_goals exact ⟨⟨by decide +kernel, by decide +kernel⟩, by decide +kernel⟩
  refine ⟨by decide +kernel, (ways "bare" (by decide +kernel)).1, (ways "early" (by decide +kernel)).1, (ways "grab" (by decide +kernel)).1, (ways "halved" (by decide +kernel)).1, (ways "mute" (by decide +kernel)).1, (ways "over" (by decide +kernel)).1, (ways "plain" (by decide +kernel)).1, ?_⟩
  rw [if_neg (by
    simp only [(ways "bare" (by decide +kernel)).2, (ways "early" (by decide +kernel)).2, (ways "grab" (by decide +kernel)).2, (ways "halved" (by decide +kernel)).2, (ways "mute" (by decide +kernel)).2, (ways "over" (by decide +kernel)).2, (ways "plain" (by decide +kernel)).2]
    simp)]
  refine ⟨hn, fun cells hc => ⟨by omega, ?_⟩⟩
  refine lcK_ind (fun ds acc env => ∃ (n : Nat) (w1 w : Bool), n + ds.length ≤ 4 ∧ acc = (List.replicate n true).map .bl ∧ (∀ d ∈ ds, ∃ i : Int, d = .int i ∧ 0 ≤ i ∧ i < cells.length) ∧
    env = [some (fz (.lst (ns.map .int))), some ⟨w1, .lst [.tup [.str "counter", .str "pile", .str "queue", .str "table"], .tup [.str "bare", .str "early", .str "grab", .str "halved", .str "mute", .str "over", .str "plain"]]⟩, none, some ⟨w, .lst (cells.map .int)⟩, none]) ?_ ?_ _ _ _ ⟨0, true, true, by simp [rngD]; omega, rfl, fun d hd => ?_, rfl⟩
  · rintro d ds acc env ⟨n, w1, w, hl, rfl, hd, rfl⟩ K hK
    obtain ⟨i, rfl, i0, i1⟩ := hd d List.mem_cons_self
    simp only [List.length_cons] at hl
    simp
    refine ⟨⟨i0, i1, by omega⟩, fun a b a0 b0 b1 => ⟨⟨a0, b0, b1, by omega, by omega⟩, fun a' c' h' x y => ⟨by omega, hK _ _ ⟨n + 1, w1, false, by omega, ?_, fun d h => hd d (List.mem_cons_of_mem _ h), ?_⟩⟩⟩⟩
    · rw [List.replicate_succ', List.map_append]
      simp
    · rfl
  · rintro acc env ⟨n, w1, w, hl, rfl, hd, rfl⟩
    generalize hb : List.replicate n true = bs
    have hall : ∀ b ∈ bs, b = true := fun b h => by
      rw [← hb] at h
      exact (List.mem_replicate.mp h).2
    simp
    rw [show bs.all id = true from List.all_eq_true.mpr fun b h => hall b h]
    exact q _ _ rfl
  · obtain ⟨i, rfl, i0, i1⟩ := rng_int d hd
    exact ⟨i, rfl, i0, by omega⟩
end Lk25

set_option pp.maxSteps 60
namespace Lk25
open PySem PySem.Spec PyProof.Rows L2 TL
theorem all_mk {l : PySem.W.OpenLaw} {w : World} {K : PySem.W.Frag} {h : Heap} {mg : Str → Option Value} {fa : Addr} (X : K.In h) (G : h.Ns mainGlobals mg) (hfa : mg "law" = some (.ref fa))
    {tkc0_2 tkc0_3 tkc0_4 tkc0_5 tkc1_1 tkc2_1 tkc3_1 tkc4_2 tkc4_3 tkc4_4 tkc4_5 tkc4_6 tkc4_7 tkc4_8 : Tok}
    {adc0_1 adc4_1 f0 f1 f2 f3 f4 f5 f6 f7 f8 f9 f10 f11 : Addr}
    {nnc0_1 nnc4_1 : Nat}
    {slc0_1 slc4_1 sl0 sl1 sl2 sl3 sl4 sl5 sl6 sl7 sl8 sl9 sl10 sl11 : Array (Option Value)}
    {od0 an0 od1 an1 od2 an2 od3 an3 od4 an4 od5 an5 od6 an6 od7 an7 od8 an8 od9 an9 od10 an10 od11 an11 : Option Addr}
    {oc0 dc0 pm0 cd0 ct0 kV0 oc1 dc1 pm1 cd1 ct1 kV1 oc2 dc2 pm2 cd2 ct2 kV2 oc3 dc3 pm3 cd3 ct3 kV3 oc4 dc4 pm4 cd4 ct4 kV4 oc5 dc5 pm5 cd5 ct5 kV5 oc6 dc6 pm6 cd6 ct6 kV6 oc7 dc7 pm7 cd7 ct7 kV7 oc8 dc8 pm8 cd8 ct8 kV8 oc9 dc9 pm9 cd9 ct9 kV9 oc10 dc10 pm10 cd10 ct10 kV10 oc11 dc11 pm11 cd11 ct11 kV11 : Value}
    (z_len : PySem.W.nsIn K mainGlobals "len" = some none)
    (z_abs : PySem.W.nsIn K mainGlobals "abs" = some none)
    (z_int : PySem.W.nsIn K mainGlobals "int" = some none)
    (z_list : PySem.W.nsIn K mainGlobals "list" = some none)
    (z_tuple : PySem.W.nsIn K mainGlobals "tuple" = some none)
    (z_all : PySem.W.nsIn K mainGlobals "all" = some none)
    (z_any : PySem.W.nsIn K mainGlobals "any" = some none)
    (z_repr : PySem.W.nsIn K mainGlobals "repr" = some none)
    (z_range : PySem.W.nsIn K mainGlobals "range" = some none)
    (z_enumerate : PySem.W.nsIn K mainGlobals "enumerate" = some none)
    (z_zip : PySem.W.nsIn K mainGlobals "zip" = some none)
    (z_sorted : PySem.W.nsIn K mainGlobals "sorted" = some none)
    (z_set : PySem.W.nsIn K mainGlobals "set" = some none)
    (z_max : PySem.W.nsIn K mainGlobals "max" = some none)
    (z_min : PySem.W.nsIn K mainGlobals "min" = some none)
    (z_sum : PySem.W.nsIn K mainGlobals "sum" = some none)
    (z_divmod : PySem.W.nsIn K mainGlobals "divmod" = some none)
    (z_isinstance : PySem.W.nsIn K mainGlobals "isinstance" = some none)
    (z_str : PySem.W.nsIn K mainGlobals "str" = some none)
    (z_bool : PySem.W.nsIn K mainGlobals "bool" = some none)
    (z_dict : PySem.W.nsIn K mainGlobals "dict" = some none)
    (z_reversed : PySem.W.nsIn K mainGlobals "reversed" = some none)
    (z_type : PySem.W.nsIn K mainGlobals "type" = some none)
    (m_KINDS : PySem.W.nsIn K mainGlobals "KINDS" = some (some (.ref adc0_1)))
    (hc0_1 : K.lookup adc0_1 = some ⟨.type "tuple", none, .seq #[(.str "counter" tkc0_2), (.str "pile" tkc0_3), (.str "queue" tkc0_4), (.str "table" tkc0_5)] nnc0_1, slc0_1⟩)
    (m_GRAB : PySem.W.nsIn K mainGlobals "GRAB" = some (some (.str "grab" tkc1_1)))
    (m_OVER : PySem.W.nsIn K mainGlobals "OVER" = some (some (.str "over" tkc2_1)))
    (m_PLAIN : PySem.W.nsIn K mainGlobals "PLAIN" = some (some (.str "plain" tkc3_1)))
    (m_WAYS : PySem.W.nsIn K mainGlobals "WAYS" = some (some (.ref adc4_1)))
    (hc4_1 : K.lookup adc4_1 = some ⟨.type "tuple", none, .seq #[(.str "bare" tkc4_2), (.str "early" tkc4_3), (.str "grab" tkc4_4), (.str "halved" tkc4_5), (.str "mute" tkc4_6), (.str "over" tkc4_7), (.str "plain" tkc4_8)] nnc4_1, slc4_1⟩)
    (m0 : PySem.W.nsIn K mainGlobals "is_build" = some (some (.ref f0)))
    (l0 : K.lookup f0 = some ⟨oc0, od0, .func (PySem.W.fnOf "is_build" "is_build" (defArgs (top 14)) (defBody (top 14)) (defScope (top 14)) .none kV0 dc0 pm0 an0 cd0 ct0), sl0⟩)
    (c0 : PySem.W.codeIn K cd0 "is_build" = true)
    (k0 : PySem.W.keepIn K (.ref f0) = true)
    (m1 : PySem.W.nsIn K mainGlobals "_law_is_build" = some (some (.ref f1)))
    (l1 : K.lookup f1 = some ⟨oc1, od1, .func (PySem.W.fnOf "_law_is_build" "_law_is_build" (defArgs (top 22)) (defBody (top 22)) (defScope (top 22)) .none kV1 dc1 pm1 an1 cd1 ct1), sl1⟩)
    (c1 : PySem.W.codeIn K cd1 "_law_is_build" = true)
    (k1 : PySem.W.keepIn K (.ref f1) = true)
    (m2 : PySem.W.nsIn K mainGlobals "_law_take" = some (some (.ref f2)))
    (l2 : K.lookup f2 = some ⟨oc2, od2, .func (PySem.W.fnOf "_law_take" "_law_take" (defArgs (top 18)) (defBody (top 18)) (defScope (top 18)) .none kV2 dc2 pm2 an2 cd2 ct2), sl2⟩)
    (c2 : PySem.W.codeIn K cd2 "_law_take" = true)
    (k2 : PySem.W.keepIn K (.ref f2) = true)
    (m3 : PySem.W.nsIn K mainGlobals "_law_pick" = some (some (.ref f3)))
    (l3 : K.lookup f3 = some ⟨oc3, od3, .func (PySem.W.fnOf "_law_pick" "_law_pick" (defArgs (top 20)) (defBody (top 20)) (defScope (top 20)) .none kV3 dc3 pm3 an3 cd3 ct3), sl3⟩)
    (c3 : PySem.W.codeIn K cd3 "_law_pick" = true)
    (k3 : PySem.W.keepIn K (.ref f3) = true)
    (m4 : PySem.W.nsIn K mainGlobals "_law_bent" = some (some (.ref f4)))
    (l4 : K.lookup f4 = some ⟨oc4, od4, .func (PySem.W.fnOf "_law_bent" "_law_bent" (defArgs (top 23)) (defBody (top 23)) (defScope (top 23)) .none kV4 dc4 pm4 an4 cd4 ct4), sl4⟩)
    (c4 : PySem.W.codeIn K cd4 "_law_bent" = true)
    (k4 : PySem.W.keepIn K (.ref f4) = true)
    (m5 : PySem.W.nsIn K mainGlobals "is_sound" = some (some (.ref f5)))
    (l5 : K.lookup f5 = some ⟨oc5, od5, .func (PySem.W.fnOf "is_sound" "is_sound" (defArgs (top 15)) (defBody (top 15)) (defScope (top 15)) .none kV5 dc5 pm5 an5 cd5 ct5), sl5⟩)
    (c5 : PySem.W.codeIn K cd5 "is_sound" = true)
    (k5 : PySem.W.keepIn K (.ref f5) = true)
    (m6 : PySem.W.nsIn K mainGlobals "_law_sound" = some (some (.ref f6)))
    (l6 : K.lookup f6 = some ⟨oc6, od6, .func (PySem.W.fnOf "_law_sound" "_law_sound" (defArgs (top 24)) (defBody (top 24)) (defScope (top 24)) .none kV6 dc6 pm6 an6 cd6 ct6), sl6⟩)
    (c6 : PySem.W.codeIn K cd6 "_law_sound" = true)
    (k6 : PySem.W.keepIn K (.ref f6) = true)
    (m7 : PySem.W.nsIn K mainGlobals "_law_ways" = some (some (.ref f7)))
    (l7 : K.lookup f7 = some ⟨oc7, od7, .func (PySem.W.fnOf "_law_ways" "_law_ways" (defArgs (top 21)) (defBody (top 21)) (defScope (top 21)) .none kV7 dc7 pm7 an7 cd7 ct7), sl7⟩)
    (c7 : PySem.W.codeIn K cd7 "_law_ways" = true)
    (k7 : PySem.W.keepIn K (.ref f7) = true)
    (m8 : PySem.W.nsIn K mainGlobals "_law_right" = some (some (.ref f8)))
    (l8 : K.lookup f8 = some ⟨oc8, od8, .func (PySem.W.fnOf "_law_right" "_law_right" (defArgs (top 25)) (defBody (top 25)) (defScope (top 25)) .none kV8 dc8 pm8 an8 cd8 ct8), sl8⟩)
    (c8 : PySem.W.codeIn K cd8 "_law_right" = true)
    (k8 : PySem.W.keepIn K (.ref f8) = true)
    (m9 : PySem.W.nsIn K mainGlobals "_law_box" = some (some (.ref f9)))
    (l9 : K.lookup f9 = some ⟨oc9, od9, .func (PySem.W.fnOf "_law_box" "_law_box" (defArgs (top 17)) (defBody (top 17)) (defScope (top 17)) .none kV9 dc9 pm9 an9 cd9 ct9), sl9⟩)
    (c9 : PySem.W.codeIn K cd9 "_law_box" = true)
    (k9 : PySem.W.keepIn K (.ref f9) = true)
    (m10 : PySem.W.nsIn K mainGlobals "_law_cells" = some (some (.ref f10)))
    (l10 : K.lookup f10 = some ⟨oc10, od10, .func (PySem.W.fnOf "_law_cells" "_law_cells" (defArgs (top 19)) (defBody (top 19)) (defScope (top 19)) .none kV10 dc10 pm10 an10 cd10 ct10), sl10⟩)
    (c10 : PySem.W.codeIn K cd10 "_law_cells" = true)
    (k10 : PySem.W.keepIn K (.ref f10) = true)
    (m11 : PySem.W.nsIn K mainGlobals "law" = some (some (.ref f11)))
    (l11 : K.lookup f11 = some ⟨oc11, od11, .func (PySem.W.fnOf "law" "law" (defArgs (top 26)) (defBody (top 26)) (defScope (top 26)) .none kV11 dc11 pm11 an11 cd11 ct11), sl11⟩)
    (c11 : PySem.W.codeIn K cd11 "law" = true)
    (k11 : PySem.W.keepIn K (.ref f11) = true)
    : ∃ fd : FuncData, (∀ (s : Shared) (v : Value), BindsTo s fd ⟨[v], []⟩ [("_law_script", v)]) ∧ ∀ base : Heap, K.In base → base.Ns mainGlobals mg → FnT l.prog w K mg base 12 fa fd ["_law_script"] (spT K mg 1 tLawD) := by
  have e := hfa.symm.trans (PySem.W.mg_of X G m11)
  cases e
  have hb : ∀ x ∈ bnames, mg x = none := by
    intro x hx
    simp only [bnames, List.mem_cons, List.not_mem_nil, or_false] at hx
    rcases hx with rfl | rfl | rfl | rfl | rfl | rfl | rfl | rfl | rfl | rfl | rfl | rfl | rfl | rfl | rfl | rfl | rfl | rfl | rfl | rfl | rfl | rfl | rfl
    · exact PySem.W.mg_none_of X G z_len
    · exact PySem.W.mg_none_of X G z_abs
    · exact PySem.W.mg_none_of X G z_int
    · exact PySem.W.mg_none_of X G z_list
    · exact PySem.W.mg_none_of X G z_tuple
    · exact PySem.W.mg_none_of X G z_all
    · exact PySem.W.mg_none_of X G z_any
    · exact PySem.W.mg_none_of X G z_repr
    · exact PySem.W.mg_none_of X G z_range
    · exact PySem.W.mg_none_of X G z_enumerate
    · exact PySem.W.mg_none_of X G z_zip
    · exact PySem.W.mg_none_of X G z_sorted
    · exact PySem.W.mg_none_of X G z_set
    · exact PySem.W.mg_none_of X G z_max
    · exact PySem.W.mg_none_of X G z_min
    · exact PySem.W.mg_none_of X G z_sum
    · exact PySem.W.mg_none_of X G z_divmod
    · exact PySem.W.mg_none_of X G z_isinstance
    · exact PySem.W.mg_none_of X G z_str
    · exact PySem.W.mg_none_of X G z_bool
    · exact PySem.W.mg_none_of X G z_dict
    · exact PySem.W.mg_none_of X G z_reversed
    · exact PySem.W.mg_none_of X G z_type
  refine ⟨PySem.W.fnOf "law" "law" (defArgs (top 26)) (defBody (top 26)) (defScope (top 26)) .none kV11 dc11 pm11 an11 cd11 ct11, fun s v => .of_eq rfl, fun base kbase nbase => ?_⟩
  have P0 : Facts l.prog w K mg base 0 ⟨[], fnN, cnN, kwN, dnN⟩ ⟨[], [], [], []⟩ := Facts.nil hb
  have PC0 := Facts.addC P0 (x := "KINDS") (d := (.tup [(.str "counter"), (.str "pile"), (.str "queue"), (.str "table")])) (by rfl) (v := (.ref adc0_1)) (PySem.W.mg_of X G m_KINDS) rfl (fun hot H => (Rep.tup (xs := [(.str "counter"), (.str "pile"), (.str "queue"), (.str "table")]) (.inr ⟨_, _, _, hc0_1, rfl, rfl, rfl, (show (4 : Nat) ≤ sizeLine by decide), (.cons ⟨_, rfl⟩ (.cons ⟨_, rfl⟩ (.cons ⟨_, rfl⟩ (.cons ⟨_, rfl⟩ .nil))))⟩) (.cons (.str _ (by decide +kernel)) (.cons (.str _ (by decide +kernel)) (.cons (.str _ (by decide +kernel)) (.cons (.str _ (by decide +kernel)) .nil))))))
  have PC1 := Facts.addC PC0 (x := "GRAB") (d := (.str "grab")) (by rfl) (v := (.str "grab")) (PySem.W.mg_of X G m_GRAB) ⟨_, rfl⟩ (fun hot H => (.str _ (by decide +kernel)))
  have PC2 := Facts.addC PC1 (x := "OVER") (d := (.str "over")) (by rfl) (v := (.str "over")) (PySem.W.mg_of X G m_OVER) ⟨_, rfl⟩ (fun hot H => (.str _ (by decide +kernel)))
  have PC3 := Facts.addC PC2 (x := "PLAIN") (d := (.str "plain")) (by rfl) (v := (.str "plain")) (PySem.W.mg_of X G m_PLAIN) ⟨_, rfl⟩ (fun hot H => (.str _ (by decide +kernel)))
  have PC4 := Facts.addC PC3 (x := "WAYS") (d := (.tup [(.str "bare"), (.str "early"), (.str "grab"), (.str "halved"), (.str "mute"), (.str "over"), (.str "plain")])) (by rfl) (v := (.ref adc4_1)) (PySem.W.mg_of X G m_WAYS) rfl (fun hot H => (Rep.tup (xs := [(.str "bare"), (.str "early"), (.str "grab"), (.str "halved"), (.str "mute"), (.str "over"), (.str "plain")]) (.inr ⟨_, _, _, hc4_1, rfl, rfl, rfl, (show (7 : Nat) ≤ sizeLine by decide), (.cons ⟨_, rfl⟩ (.cons ⟨_, rfl⟩ (.cons ⟨_, rfl⟩ (.cons ⟨_, rfl⟩ (.cons ⟨_, rfl⟩ (.cons ⟨_, rfl⟩ (.cons ⟨_, rfl⟩ .nil)))))))⟩) (.cons (.str _ (by decide +kernel)) (.cons (.str _ (by decide +kernel)) (.cons (.str _ (by decide +kernel)) (.cons (.str _ (by decide +kernel)) (.cons (.str _ (by decide +kernel)) (.cons (.str _ (by decide +kernel)) (.cons (.str _ (by decide +kernel)) .nil)))))))))
  have F0 := funG_mk (st := (top 14)) l0 c0 k0
  have Q0 : Facts l.prog w K mg base 0 B_is_build G_is_build := Facts.names (N := N_is_build) PC4
  have U0 := def_B F0 s_is_build (n := 1) rfl Q0 b_is_build c_is_build (t := t_is_build) f_is_build w_is_build
  have R0_0 := Facts.mono (k := 1) PC4 (by decide)
  have R0_1 := Facts.addF R0_0 (x := "is_build") (f := ⟨1, t_is_build, "is_build"⟩) (by rfl) (PySem.W.mg_of X G m0) U0 k0 (F0.binds fun _ _ _ _ _ us hl => match us, hl with | [_], _ => rfl) rfl
  have hl0 : ∀ y ∈ ([] : List (Str × Value)), PySem.W.nsIn K 0 y.1 = some (some y.2) := fun _ hq => (nomatch hq)
  have kb0 : TL.KB K (PySem.W.fnOf "is_build" "is_build" (defArgs (top 14)) (defBody (top 14)) (defScope (top 14)) .none kV0 dc0 pm0 an0 cd0 ct0) ["thing"] 0 ["thing"] [0] [] := ⟨fun s us ws XS h1 h2 => match us, ws, h1, h2 with | [], [_], _, _ => BindsTo.of_looks fun M => KwChain.looks XS hl0 rfl⟩
  have R0_2 := Facts.addK R0_1 (x := "is_build") (npos := 0) (kn := ["thing"]) (e := ⟨1, 0, 1, [0], [], t_is_build⟩) (by rfl) (PySem.W.mg_of X G m0) U0 k0 kb0 (dV := []) .nil (fun hot H => .nil) rfl rfl
  have F1 := funG_mk (st := (top 22)) l1 c1 k1
  have Q1 : Facts l.prog w K mg base 1 B__law_is_build G__law_is_build := Facts.names (N := N__law_is_build) R0_2
  have U1 := def_B F1 s__law_is_build (n := 1) rfl Q1 b__law_is_build c__law_is_build (t := t__law_is_build) f__law_is_build w__law_is_build
  have R1_0 := Facts.mono (k := 2) R0_2 (by decide)
  have R1_1 := Facts.addF R1_0 (x := "_law_is_build") (f := ⟨1, t__law_is_build, "_law_is_build"⟩) (by rfl) (PySem.W.mg_of X G m1) U1 k1 (F1.binds fun _ _ _ _ _ us hl => match us, hl with | [_], _ => rfl) rfl
  have F2 := funG_mk (st := (top 18)) l2 c2 k2
  have Q2 : Facts l.prog w K mg base 2 B__law_take G__law_take := Facts.names (N := N__law_take) R1_1
  have U2 := def_A F2 s__law_take (n := 2) rfl Q2 b__law_take c__law_take (t := t__law_take) w__law_take
  have R2_0 := Facts.mono (k := 3) R1_1 (by decide)
  have R2_1 := Facts.addF R2_0 (x := "_law_take") (f := ⟨2, t__law_take, "_law_take"⟩) (by rfl) (PySem.W.mg_of X G m2) U2 k2 (F2.binds fun _ _ _ _ _ us hl => match us, hl with | [_, _], _ => rfl) rfl
  have F3 := funG_mk (st := (top 20)) l3 c3 k3
  have Q3 : Facts l.prog w K mg base 3 B__law_pick G__law_pick := Facts.names (N := N__law_pick) R2_1
  have U3 := def_A F3 s__law_pick (n := 2) rfl Q3 b__law_pick c__law_pick (t := t__law_pick) w__law_pick
  have R3_0 := Facts.mono (k := 4) R2_1 (by decide)
  have R3_1 := Facts.addF R3_0 (x := "_law_pick") (f := ⟨2, t__law_pick, "_law_pick"⟩) (by rfl) (PySem.W.mg_of X G m3) U3 k3 (F3.binds fun _ _ _ _ _ us hl => match us, hl with | [_, _], _ => rfl) rfl
  have F4 := funG_mk (st := (top 23)) l4 c4 k4
  have Q4 : Facts l.prog w K mg base 4 B__law_bent G__law_bent := Facts.names (N := N__law_bent) R3_1
  have U4 := def_A F4 s__law_bent (n := 2) rfl Q4 b__law_bent c__law_bent (t := t__law_bent) w__law_bent
  have R4_0 := Facts.mono (k := 5) R3_1 (by decide)
  have R4_1 := Facts.addF R4_0 (x := "_law_bent") (f := ⟨2, t__law_bent, "_law_bent"⟩) (by rfl) (PySem.W.mg_of X G m4) U4 k4 (F4.binds fun _ _ _ _ _ us hl => match us, hl with | [_, _], _ => rfl) rfl
  have F5 := funG_mk (st := (top 15)) l5 c5 k5
  have Q5 : Facts l.prog w K mg base 5 B_is_sound G_is_sound := Facts.names (N := N_is_sound) R4_1
  have U5 := def_B F5 s_is_sound (n := 2) rfl Q5 b_is_sound c_is_sound (t := t_is_sound) f_is_sound w_is_sound
  have R5_0 := Facts.mono (k := 6) R4_1 (by decide)
  have R5_1 := Facts.addF R5_0 (x := "is_sound") (f := ⟨2, t_is_sound, "is_sound"⟩) (by rfl) (PySem.W.mg_of X G m5) U5 k5 (F5.binds fun _ _ _ _ _ us hl => match us, hl with | [_, _], _ => rfl) rfl
  have hl1 : ∀ y ∈ ([] : List (Str × Value)), PySem.W.nsIn K 0 y.1 = some (some y.2) := fun _ hq => (nomatch hq)
  have kb1 : TL.KB K (PySem.W.fnOf "is_sound" "is_sound" (defArgs (top 15)) (defBody (top 15)) (defScope (top 15)) .none kV5 dc5 pm5 an5 cd5 ct5) ["build", "falls"] 0 ["falls", "build"] [1, 0] [] := ⟨fun s us ws XS h1 h2 => match us, ws, h1, h2 with | [], [_, _], _, _ => BindsTo.of_looks fun M => KwChain.looks XS hl1 rfl⟩
  have R5_2 := Facts.addK R5_1 (x := "is_sound") (npos := 0) (kn := ["falls", "build"]) (e := ⟨2, 0, 2, [1, 0], [], t_is_sound⟩) (by rfl) (PySem.W.mg_of X G m5) U5 k5 kb1 (dV := []) .nil (fun hot H => .nil) rfl rfl
  have F6 := funG_mk (st := (top 24)) l6 c6 k6
  have Q6 : Facts l.prog w K mg base 6 B__law_sound G__law_sound := Facts.names (N := N__law_sound) R5_2
  have U6 := def_B F6 s__law_sound (n := 2) rfl Q6 b__law_sound c__law_sound (t := t__law_sound) f__law_sound w__law_sound
  have R6_0 := Facts.mono (k := 7) R5_2 (by decide)
  have R6_1 := Facts.addF R6_0 (x := "_law_sound") (f := ⟨2, t__law_sound, "_law_sound"⟩) (by rfl) (PySem.W.mg_of X G m6) U6 k6 (F6.binds fun _ _ _ _ _ us hl => match us, hl with | [_, _], _ => rfl) rfl
  have F7 := funG_mk (st := (top 21)) l7 c7 k7
  have Q7 : Facts l.prog w K mg base 7 B__law_ways G__law_ways := Facts.names (N := N__law_ways) R6_1
  have U7 := def_A F7 s__law_ways (n := 1) rfl Q7 b__law_ways c__law_ways (t := t__law_ways) w__law_ways
  have R7_0 := Facts.mono (k := 8) R6_1 (by decide)
  have R7_1 := Facts.addF R7_0 (x := "_law_ways") (f := ⟨1, t__law_ways, "_law_ways"⟩) (by rfl) (PySem.W.mg_of X G m7) U7 k7 (F7.binds fun _ _ _ _ _ us hl => match us, hl with | [_], _ => rfl) rfl
  have F8 := funG_mk (st := (top 25)) l8 c8 k8
  have Q8 : Facts l.prog w K mg base 8 B__law_right G__law_right := Facts.names (N := N__law_right) R7_1
  have U8 := def_A F8 s__law_right (n := 1) rfl Q8 b__law_right c__law_right (t := t__law_right) w__law_right
  have R8_0 := Facts.mono (k := 9) R7_1 (by decide)
  have R8_1 := Facts.addF R8_0 (x := "_law_right") (f := ⟨1, t__law_right, "_law_right"⟩) (by rfl) (PySem.W.mg_of X G m8) U8 k8 (F8.binds fun _ _ _ _ _ us hl => match us, hl with | [_], _ => rfl) rfl
  have F9 := funG_mk (st := (top 17)) l9 c9 k9
  have Q9 : Facts l.prog w K mg base 9 B__law_box G__law_box := Facts.names (N := N__law_box) R8_1
  have U9 := def_B F9 s__law_box (n := 2) rfl Q9 b__law_box c__law_box (t := t__law_box) f__law_box w__law_box
  have R9_0 := Facts.mono (k := 10) R8_1 (by decide)
  have R9_1 := Facts.addF R9_0 (x := "_law_box") (f := ⟨2, t__law_box, "_law_box"⟩) (by rfl) (PySem.W.mg_of X G m9) U9 k9 (F9.binds fun _ _ _ _ _ us hl => match us, hl with | [_, _], _ => rfl) rfl
  have F10 := funG_mk (st := (top 19)) l10 c10 k10
  have Q10 : Facts l.prog w K mg base 10 B__law_cells G__law_cells := Facts.names (N := N__law_cells) R9_1
  have U10 := def_B F10 s__law_cells (n := 2) rfl Q10 b__law_cells c__law_cells (t := t__law_cells) f__law_cells w__law_cells
  have R10_0 := Facts.mono (k := 11) R9_1 (by decide)
  have R10_1 := Facts.addF R10_0 (x := "_law_cells") (f := ⟨2, t__law_cells, "_law_cells"⟩) (by rfl) (PySem.W.mg_of X G m10) U10 k10 (F10.binds fun _ _ _ _ _ us hl => match us, hl with | [_, _], _ => rfl) rfl
  have F11 := funG_mk (st := (top 26)) l11 c11 k11
  have Q11 : Facts l.prog w K mg base 11 B_law G_law := Facts.names (N := N_law) R10_1
  have U11 := def_B F11 s_law (n := 1) rfl Q11 b_law c_law (t := t_law) f_law w_law
  exact U11
end Lk25
open PySem PySem.W PyProof.Rows in
set_option maxRecDepth 100000 in
set_option maxHeartbeats 0 in
theorem PySem.Challenge.cw_wishlane_k25_builds_or_not_holds : PySem.Challenge.rw_wishlane_k25_builds_or_not.Holds := by
  w_on; o_law; k_head; (case hw => w_witness2)
  k_fill
  refine TL.law_walk (l := PySem.Challenge.rw_wishlane_k25_builds_or_not) (k := 12) (x := "_law_script") rfl rfl ⟨rfl, by decide, by decide⟩ (fun w h Y => PySem.W.kIn_of Y) ?F
  case F =>
    intro w mg fa h KX G hmg
    refine' Lk25.all_mk KX G hmg ?z_len ?z_abs ?z_int ?z_list ?z_tuple ?z_all ?z_any ?z_repr ?z_range ?z_enumerate ?z_zip ?z_sorted ?z_set ?z_max ?z_min ?z_sum ?z_divmod ?z_isinstance ?z_str ?z_bool ?z_dict ?z_reversed ?z_type ?m_KINDS ?hc0_1 ?m_GRAB ?m_OVER ?m_PLAIN ?m_WAYS ?hc4_1 ?m0 ?l0 ?c0 ?k0 ?m1 ?l1 ?c1 ?k1 ?m2 ?l2 ?c2 ?k2 ?m3 ?l3 ?c3 ?k3 ?m4 ?l4 ?c4 ?k4 ?m5 ?l5 ?c5 ?k5 ?m6 ?l6 ?c6 ?k6 ?m7 ?l7 ?c7 ?k7 ?m8 ?l8 ?c8 ?k8 ?m9 ?l9 ?c9 ?k9 ?m10 ?l10 ?c10 ?k10 ?m11 ?l11 ?c11 ?k11
    (case z_len => k_is)
    (case z_abs => k_is)
    (case z_int => k_is)
    (case z_list => k_is)
    (case z_tuple => k_is)
    (case z_all => k_is)
    (case z_any => k_is)
    (case z_repr => k_is)
    (case z_range => k_is)
    (case z_enumerate => k_is)
    (case z_zip => k_is)
    (case z_sorted => k_is)
    (case z_set => k_is)
    (case z_max => k_is)
    (case z_min => k_is)
    (case z_sum => k_is)
    (case z_divmod => k_is)
    (case z_isinstance => k_is)
    (case z_str => k_is)
    (case z_bool => k_is)
    (case z_dict => k_is)
    (case z_reversed => k_is)
    (case z_type => k_is)
    (case m_KINDS => k_is)
    (case hc0_1 => k_is)
    (case m_GRAB => k_is)
    (case m_OVER => k_is)
    (case m_PLAIN => k_is)
    (case m_WAYS => k_is)
    (case hc4_1 => k_is)
    (case m0 => k_is)
    (case l0 => k_is)
    (case c0 => k_is)
    (case k0 => k_is)
    (case m1 => k_is)
    (case l1 => k_is)
    (case c1 => k_is)
    (case k1 => k_is)
    (case m2 => k_is)
    (case l2 => k_is)
    (case c2 => k_is)
    (case k2 => k_is)
    (case m3 => k_is)
    (case l3 => k_is)
    (case c3 => k_is)
    (case k3 => k_is)
    (case m4 => k_is)
    (case l4 => k_is)
    (case c4 => k_is)
    (case k4 => k_is)
    (case m5 => k_is)
    (case l5 => k_is)
    (case c5 => k_is)
    (case k5 => k_is)
    (case m6 => k_is)
    (case l6 => k_is)
    (case c6 => k_is)
    (case k6 => k_is)
    (case m7 => k_is)
    (case l7 => k_is)
    (case c7 => k_is)
    (case k7 => k_is)
    (case m8 => k_is)
    (case l8 => k_is)
    (case c8 => k_is)
    (case k8 => k_is)
    (case m9 => k_is)
    (case l9 => k_is)
    (case c9 => k_is)
    (case k9 => k_is)
    (case m10 => k_is)
    (case l10 => k_is)
    (case c10 => k_is)
    (case k10 => k_is)
    (case m11 => k_is)
    (case l11 => k_is)
    (case c11 => k_is)
    (case k11 => k_is)

