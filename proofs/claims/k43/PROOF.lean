import PyProof.Rows.All
import Wide.All
import OpenK.AllK
import Wide.FinOn
import HandS.ForMost
import HandS.ForExc
import HandS.TupAny
import HandS.Conv
import HandS.HeadHook1
import HandS.Words
import HandS.WordsExc
import HandS.Ends
import HandS.ExcOwn
import HandS.TupLe
import HandS.Wide
import HandS.Strs
import HandS.SetFor
import HandS.SortInts
import HandS.IsInst
import HandS.Zip
import HandS.Flow
import HandS.Style
import KE.GoesNew
import KE.GoesMore
import HandS.ExcValue
import HandS.ExcIs
import HandS.HeadHook2
import HandS.Text
import KE.KStateDown
import HandS.Defaults
import HandS.Head0
import HandS.Head1
import HandS.Head2
import HandS.HeadEnd
import HandS.HeadNt
import PyProof.ReprRoads
import PyProof.ReprBulk
import PyProof.Rows.RegStrFacts
import HandS.RaiseMore
import KE.GoesEnum
import HandS.TupMul
import KE.KItemsList
import KE.KDictZip
import HandS.ListItems
import KE.KTupSum
import HandS.ForDict
import HandS.Iter
import PyProof.AutoSeq1
import KE.DataMinMax
import PyProof.Rows.RowBridgeK
import KE.KDictSum
import KE.SortData
import KE.DataCmp
import KE.KDictCopyH
import HandS.TupSets
import PyProof.Transfer
import KE.SortKeyHeap
import HandS.SortKw
import PyProof.FactsAll.tuple_2
import HandS.DictTup
import KE.KDictDisplayH
import PyProof.SumAny
import HandS.WordsDict
import HandS.More
import PyProof.WalkInts
import PySem.Challenge.RW_sumorder_k43_least_rooms
set_option Elab.async false
set_option linter.all false
set_option maxRecDepth 100000
set_option maxHeartbeats 0
set_option autoImplicit false
namespace HD
open PySem PyProof.Rows L2
def TupD (K : PySem.W.Frag) (H : Hp) (a : Addr) (xs : List V) : Prop :=
  (∃ o : Obj, H a = some (.frz o (.tup xs)) ∧ o.dict = none) ∨
    ∃ (o : Obj) (its : Array Value) (n : Nat), K.lookup a = some o ∧ o.cls = .type "tuple" ∧ o.data = .seq its n ∧ its.size ≤ sizeLine ∧ Vals xs its.toList ∧ o.dict = none
theorem TupD.sq {K : PySem.W.Frag} {H : Hp} {a : Addr} {xs : List V} (h : TupD K H a xs) : SqT K H a xs := by
  rcases h with ⟨o, h, _⟩ | ⟨o, its, n, h1, h2, h3, h4, h5, _⟩
  · exact .inl (.inr ⟨o, h⟩)
  · exact .inr ⟨o, its, n, h1, h2, h3, h4, h5⟩
theorem TupD.same {K : PySem.W.Frag} {H H' : Hp} {a : Addr} {xs : List V} (e : Same H H') (h : TupD K H a xs) : TupD K H' a xs := by
  rcases h with ⟨o, h, d⟩ | h
  · exact .inl ⟨o, e _ _ h, d⟩
  · exact .inr h
theorem TupD.noDict {X : Cx} {pins : List (Addr × Obj)} {σ : L2.St} {H : Hp} {s : Shared} {a : Addr} {xs : List V} (I : Inv X pins σ H s) (h : TupD X.K H a xs) : ∃ ob, s.heap.get? a = some ob ∧ ob.dict = none := by
  rcases h with ⟨o, h, d⟩ | ⟨o, its, n, h1, h2, h3, h4, h5, d⟩
  · obtain ⟨e, _⟩ := (show ObjOk X.prog X.w H s.heap a (.frz o (.tup xs)) from I.hok a _ h)
    exact ⟨o, e, d⟩
  · exact ⟨o, I.kIn a o h1, d⟩
def newT (H : Hp) (xs : List V) (Q : VK) : Prop := ∀ (p : Addr) (o : Obj), H p = none → o.dict = none → Q (.ref p) (upd H p (.frz o (.tup xs)))
theorem laidT {X : Cx} {pins : List (Addr × Obj)} {σ : L2.St} {H : Hp} {s : Shared} {Q : VK} {xs : List V} {its : List Value} {tk : Nat} (I : Inv X pins σ H s) (r : Vals xs its) (hz : xs.length ≤ sizeLine) (q : newT H xs Q) :
    EP X pins σ Q (.ref s.heap.objs.size) { s with heap := s.heap.push { cls := .type "tuple", data := .seq its.toArray }, toks := tk } := by
  have hf : H s.heap.objs.size = none := I.hok.fresh (Nat.le_refl _)
  refine ⟨.ref s.heap.objs.size, _, I.laid (t' := tk) (fun b u e => Heap.get?_push_of_some _ e) (Nat.le_refl _) ?_, rfl, q _ { cls := .type "tuple", data := .seq its.toArray } hf rfl⟩
  exact ⟨Heap.get?_push_size _ rfl, hz, its, r, IsTup.new _ _⟩
section
variable {X : Cx}
def tTupF (t : TA) : TE := fun σ H Q => t σ H fun xs H1 => xs.length ≤ sizeLine ∧ newT H1 xs Q
theorem pe_tupF {x1} {es : List Expr} {t : TA} {pos : Pos} (h : PA X es t) : PE X (.Tuple es x1 pos) (tTupF t) := by
  refine ⟨fun pins s σ H Q I hq => ?_⟩
  refine wpAny_Tuple_spliced (thn (h.run pos pins s σ H _ I hq) fun us s1 ⟨xs, H1, I1, r, z, q⟩ => ⟨by rw [← r.length]; exact z, ?_⟩)
  exact laidT (tk := s1.toks) I1 r z q
def rCatF (K : PySem.W.Frag) : R2 := fun x y H Q => ∃ a b xs ys, x = .ref a ∧ y = .ref b ∧ SqT K H a xs ∧ SqT K H b ys ∧ xs.length + ys.length ≤ sizeLine ∧
  (xs = [] → Q (.ref b) H) ∧ (xs ≠ [] → ys = [] → Q (.ref a) H) ∧ (xs ≠ [] → ys ≠ [] → newT H (xs ++ ys) Q)
theorem op_catF : OpR X (binaryOp .Add) (rCatF X.K) := by
  intro pins s σ H x y v u Q I rx ry h
  obtain ⟨a, b, xs, ys, rfl, rfl, ha, hb, hz, q0, q1, q2⟩ := h
  cases rx
  cases ry
  obtain ⟨its, r1, p1, _⟩ := I.tuple ha
  obtain ⟨its2, r2, p2, _⟩ := I.tuple hb
  by_cases hx : xs = []
  · subst hx
    cases r1
    exact cat_tup0 p1 p2 ⟨.ref b, H, I, rfl, q0 rfl⟩
  · refine HT.cat_tup p1 p2 (fun z => hx (r1.nil_iff.mp z)) (fun z => ⟨.ref a, H, I, rfl, q1 hx (r2.nil_iff.mp z)⟩) (fun z => ?_) (by rw [← r1.length, ← r2.length]; exact hz)
    exact laidT (tk := s.toks) I (r1.append r2) (by rw [List.length_append]; exact hz) (q2 hx fun w => z (r2.nil_iff.mpr w))
def rSlF (K : PySem.W.Frag) : V → Option Int → Option Int → Hp → VK → Prop := fun x lo hi H Q => ∃ a xs, x = .ref a ∧ SqT K H a xs ∧
  (HT.sIx xs.length 0 lo = 0 ∧ HT.sIx xs.length xs.length hi = xs.length → Q (.ref a) H) ∧ (¬ (HT.sIx xs.length 0 lo = 0 ∧ HT.sIx xs.length xs.length hi = xs.length) → newT H (cutV xs lo hi) Q)
theorem sl_tupF : SlR X (rSlF X.K) := by
  intro pins s σ H x v vl vu lo hi sl Q I rx hs pl pu h
  obtain ⟨a, xs, rfl, hx, q1, q2⟩ := h
  cases rx
  obtain ⟨its, r, ht, hz⟩ := I.tuple hx
  have hlen : its.toArray.size = xs.length := by
    rw [List.size_toArray]
    exact r.length.symm
  refine ⟨"tuple", _, PyProof.Rows.slot_tuple_getitem.lookup, ht.typeIs, ?_⟩
  by_cases hw : HT.sIx xs.length 0 lo = 0 ∧ HT.sIx xs.length xs.length hi = xs.length
  · exact getItem_tuple_whole ht hs pl pu (by rw [hlen]; exact hw) ⟨.ref a, H, I, rfl, q1 hw⟩
  · refine HT.getItem_tuple_cut ht hs pl pu (by rw [hlen]; exact hw) ?_ (by rw [hlen]; exact hz)
    rw [hlen]
    exact laidT (tk := s.toks) I ((r.drop (HT.sIx xs.length 0 lo)).take (HT.sIx xs.length xs.length hi - HT.sIx xs.length 0 lo)) (Nat.le_trans (cutV_length xs lo hi) hz) (q2 hw)
theorem call_tupleF : CallR X (.type "tuple") (fun xs H Q => ∃ p ys, xs = [.ref p] ∧ ((SqL X.K H p ys ∧ newT H ys Q) ∨ (SqT X.K H p ys ∧ Q (.ref p) H))) := by
  intro pins s σ H xs us Q I r h
  obtain ⟨p, ys, rfl, h⟩ := h
  obtain ⟨u, rfl, rx⟩ := vals1 r
  cases rx
  rcases h with ⟨hq, q⟩ | ⟨hq, q⟩
  · obtain ⟨its, r', pl, hz⟩ := I.list hq
    have hlen := r'.length
    refine call_tuple_list pl.isList (fun h' kp => ?_) (by simp only [List.size_toArray] <;> omega)
    have I1 : Inv X pins σ H { s with heap := h' } := I.kept (t' := s.toks) kp
    exact laidT (tk := s.toks) I1 r' hz q
  · obtain ⟨its, r', pl, hz⟩ := I.tuple hq
    exact call_tuple_same pl ⟨.ref p, H, I, rfl, q⟩
def tTupRgF (te : L2.St → Hp → (Int → Int → Hp → Prop) → Prop) : TE := fun σ H Q => te σ H fun a b H1 => RgOk a b ∧ newT H1 (rgV a b) Q
theorem pe_tupRgF {e : Expr} {te : L2.St → Hp → (Int → Int → Hp → Prop) → Prop} {p pos : Pos} (hc : X.calm = true) (hg : Gl X "tuple") (hm : X.mg "tuple" = none) (he : PRg X e te) (na : starEach [e] X.env = (false, eval e X.env) :: starEach [] X.env) : PE X (.Call (.Name "tuple" p) [e] [] pos) (tTupRgF te) := by
  refine ⟨fun pins s σ H Q I h => ?_⟩
  refine Call_ (ld_blt I hg hm boot_tuple (PyProof.Rows.callWith_type1 (args_cons (thn (he pins s σ H _ I h) fun x s1 ⟨r, a, b, t, u, v, H1, ex, hr, I1, ok, q⟩ => args_nil ?_) na) na))
  subst ex
  obtain ⟨b1, b2, b3, b4, b5⟩ := ok
  refine call_tuple_range (n := (b - a).toNat) (I1.ok.hd hc) hr (small_one b1 b2 b3 b4) (rangeSize_nat a b) b5 fun h' tk acc hk hi => ?_
  have I2 : Inv X pins σ H1 { s1 with heap := h', toks := tk } := I1.kept hk
  have z := laidT (tk := tk) I2 (vals_rg hi) (by rw [rgV_length, sizeLine_eq]; omega) q
  rw [Array.toArray_toList] at z
  exact z
end
end HD
namespace HD
open PySem L2
abbrev clsV (K : PySem.W.Frag) (x : Str) : Value := .ref (He.ga K x)
inductive D where
  | non | bl (b : Bool) | int (i : Int) | str (x : Str) | val (v : V)
  | lst (ds : List D) | tup (ds : List D) | fz (ds : List D) | tk (ds : List D)
  | exc (c : Str)
  | glo (x : Str)
  | dk (ks : List Key) (ds : List D)
  | dt (ks : List (List Int)) (ds : List D)
def hT (ks : List Int) : Int := reduceHash (Builtin.Tuple.tupleHashOf (ks.map hashInt))
def dtO (a : Addr) (kbs : List (List Int × Addr × V)) : HO := .ext fun h => kbs.length ≤ sizeLine ∧ (a == sysModules) = false ∧ (kbs.map (·.1)).Nodup ∧ ∃ (us : List Value) (o : Obj) (es : Array DictEntry) (ep : Nat),
  Vals (kbs.map (·.2.2)) us ∧ h.get? a = some o ∧ o.ExactDict ∧ o.data = .dict es ep ∧ es.toList = (kbs.zip us).map fun x => ⟨hT x.1.1, .ref x.1.2.1, x.2⟩
mutual
def Rep (K : PySem.W.Frag) (F : Hp) : D → V → Prop
  | .non, v => v = .non
  | .bl b, v => v = .bl b
  | .int i, v => v = .int i
  | .str x, v => v = .str x
  | .val u, v => v = u
  | .lst ds, v => ∃ a xs, v = .ref a ∧ F a = some (.lst xs) ∧ Reps K F ds xs
  | .fz ds, v => ∃ a xs, v = .ref a ∧ SqL K F a xs ∧ Reps K F ds xs
  | .tup ds, v => ∃ a xs, v = .ref a ∧ TupD K F a xs ∧ Reps K F ds xs
  | .tk ds, v => ∃ a xs, v = .ref a ∧ SqT K F a xs ∧ Reps K F ds xs
  | .glo x, v => v = .ref (He.ga K x)
  | .exc c, v => ∃ a oe, v = .ref a ∧ F a = some (.frz oe (.own a)) ∧ oe.cls = clsV K c ∧ oe.dict = none ∧ ∃ vs, oe.data = .fields vs
  | .dk ks ds, v => ∃ a od vs, v = .ref a ∧ F a = some (.frz od (.dK vs)) ∧ vs.map (·.1) = ks ∧ Reps K F ds (vs.map (·.2))
  | .dt ks ds, v => ∃ a od kbs, v = .ref a ∧ F a = some (.frz od (dtO a kbs)) ∧ kbs.map (·.1) = ks ∧ (∀ x ∈ kbs, TupD K F x.2.1 (x.1.map V.int)) ∧ Reps K F ds (kbs.map (·.2.2))
def Reps (K : PySem.W.Frag) (F : Hp) : List D → List V → Prop
  | [], vs => vs = []
  | d :: ds, vs => ∃ v r, vs = v :: r ∧ Rep K F d v ∧ Reps K F ds r
end
theorem SqT.same {K : PySem.W.Frag} {F F' : Hp} {a : Addr} {xs : List V} (e : Same F F') (h : SqT K F a xs) : SqT K F' a xs := by
  rcases h with (h | ⟨o, h⟩) | h
  · exact .inl (.inl (e _ _ h))
  · exact .inl (.inr ⟨o, e _ _ h⟩)
  · exact .inr h
section
variable {K : PySem.W.Frag} {F F' : Hp}
mutual
theorem Rep.same (e : Same F F') : ∀ {d : D} {v : V}, Rep K F d v → Rep K F' d v
  | .non, _, h => h
  | .bl _, _, h => h
  | .int _, _, h => h
  | .str _, _, h => h
  | .val _, _, h => h
  | .lst _, _, h => by
    obtain ⟨a, xs, rfl, hs, hr⟩ := h
    exact ⟨a, xs, rfl, e _ _ hs, Reps.same e hr⟩
  | .fz _, _, h => by
    obtain ⟨a, xs, rfl, hs, hr⟩ := h
    exact ⟨a, xs, rfl, e.seq hs, Reps.same e hr⟩
  | .tup _, _, h => by
    obtain ⟨a, xs, rfl, hs, hr⟩ := h
    exact ⟨a, xs, rfl, TupD.same e hs, Reps.same e hr⟩
  | .tk _, _, h => by
    obtain ⟨a, xs, rfl, hs, hr⟩ := h
    exact ⟨a, xs, rfl, SqT.same e hs, Reps.same e hr⟩
  | .glo _, _, h => h
  | .exc _, _, h => by
    obtain ⟨a, oe, rfl, hs, hr⟩ := h
    exact ⟨a, oe, rfl, e _ _ hs, hr⟩
  | .dk _ _, _, h => by
    obtain ⟨a, od, vs, rfl, hs, hk, hr⟩ := h
    exact ⟨a, od, vs, rfl, e _ _ hs, hk, Reps.same e hr⟩
  | .dt _ _, _, h => by
    obtain ⟨a, od, vs, rfl, hs, hk, ht, hr⟩ := h
    exact ⟨a, od, vs, rfl, e _ _ hs, hk, fun x hx => TupD.same e (ht x hx), Reps.same e hr⟩
theorem Reps.same (e : Same F F') : ∀ {ds : List D} {vs : List V}, Reps K F ds vs → Reps K F' ds vs
  | [], _, h => h
  | _ :: _, _, h => by
    obtain ⟨v, r, rfl, h1, h2⟩ := h
    exact ⟨v, r, rfl, Rep.same e h1, Reps.same e h2⟩
end
theorem Reps.nil : Reps K F [] [] := rfl
theorem Reps.cons {d : D} {v : V} {ds : List D} {vs : List V} (h : Rep K F d v) (t : Reps K F ds vs) : Reps K F (d :: ds) (v :: vs) := ⟨v, vs, rfl, h, t⟩
theorem Reps.length : ∀ {ds : List D} {vs : List V}, Reps K F ds vs → ds.length = vs.length
  | [], _, h => by
    have e : _ = [] := h
    rw [e]
    rfl
  | _ :: ds, _, h => by
    obtain ⟨v, r, rfl, _, h2⟩ := h
    rw [List.length_cons, List.length_cons, Reps.length h2]
theorem Reps.get : ∀ {ds : List D} {vs : List V} {i : Nat} {d : D}, Reps K F ds vs → ds[i]? = some d → ∃ v, vs[i]? = some v ∧ Rep K F d v
  | [], _, _, _, _, e => by simp at e
  | _ :: ds, _, 0, _, h, e => by
    obtain ⟨v, r, rfl, h1, _⟩ := h
    have e' := Option.some.inj e
    subst e'
    exact ⟨v, rfl, h1⟩
  | _ :: ds, _, i + 1, _, h, e => by
    obtain ⟨v, r, rfl, _, h2⟩ := h
    exact Reps.get (i := i) h2 e
theorem Reps.getV : ∀ {ds : List D} {vs : List V} {i : Nat} {v : V}, Reps K F ds vs → vs[i]? = some v → ∃ d, ds[i]? = some d ∧ Rep K F d v
  | [], _, _, _, h, e => by
    have z : _ = [] := h
    rw [z] at e
    simp at e
  | d :: ds, _, 0, _, h, e => by
    obtain ⟨v, r, rfl, h1, _⟩ := h
    have e' := Option.some.inj e
    subst e'
    exact ⟨d, rfl, h1⟩
  | _ :: ds, _, i + 1, _, h, e => by
    obtain ⟨v, r, rfl, _, h2⟩ := h
    exact Reps.getV (i := i) h2 e
theorem Reps.of_get : ∀ {ds : List D} {vs : List V}, ds.length = vs.length → (∀ (i : Nat) d v, ds[i]? = some d → vs[i]? = some v → Rep K F d v) → Reps K F ds vs
  | [], [], _, _ => rfl
  | [], _ :: _, e, _ => by simp at e
  | _ :: _, [], e, _ => by simp at e
  | d :: ds, v :: vs, e, h => ⟨v, vs, rfl, h 0 d v rfl rfl, Reps.of_get (by simpa using e) fun i d' v' h1 h2 => h (i + 1) d' v' h1 h2⟩
theorem Reps.append : ∀ {ds es : List D} {vs us : List V}, Reps K F ds vs → Reps K F es us → Reps K F (ds ++ es) (vs ++ us)
  | [], _, _, _, h, g => by
    have e : _ = [] := h
    rw [e]
    exact g
  | _ :: _, _, _, _, h, g => by
    obtain ⟨v, r, rfl, h1, h2⟩ := h
    exact ⟨v, _, rfl, h1, Reps.append h2 g⟩
theorem Reps.one {d : D} {v : V} (h : Rep K F d v) : Reps K F [d] [v] := .cons h .nil
theorem Reps.take {ds : List D} {vs : List V} (h : Reps K F ds vs) (n : Nat) : Reps K F (ds.take n) (vs.take n) := by
  refine Reps.of_get (by rw [List.length_take, List.length_take, h.length]) fun i d v h1 h2 => ?_
  rw [List.getElem?_take] at h1 h2
  split at h1
  · rename_i hi
    rw [if_pos hi] at h2
    obtain ⟨v', e, r⟩ := h.get h1
    rw [h2] at e
    cases e
    exact r
  · cases h1
theorem Reps.drop {ds : List D} {vs : List V} (h : Reps K F ds vs) (n : Nat) : Reps K F (ds.drop n) (vs.drop n) := by
  refine Reps.of_get (by rw [List.length_drop, List.length_drop, h.length]) fun i d v h1 h2 => ?_
  rw [List.getElem?_drop] at h1 h2
  obtain ⟨v', e, r⟩ := h.get h1
  rw [h2] at e
  cases e
  exact r
theorem Reps.set {ds : List D} {vs : List V} (h : Reps K F ds vs) (n : Nat) {d : D} {v : V} (hd : Rep K F d v) : Reps K F (ds.set n d) (vs.set n v) := by
  refine Reps.of_get (by rw [List.length_set, List.length_set, h.length]) fun i d' v' h1 h2 => ?_
  rw [List.getElem?_set] at h1 h2
  split at h1
  · rename_i hi
    rw [if_pos hi] at h2
    split at h1
    · split at h2
      · cases h1
        cases h2
        exact hd
      · cases h2
    · cases h1
  · rename_i hi
    rw [if_neg hi] at h2
    obtain ⟨w, e, r⟩ := h.get h1
    rw [h2] at e
    cases e
    exact r
theorem Reps.eraseIdx : ∀ {ds : List D} {vs : List V} (n : Nat), Reps K F ds vs → Reps K F (ds.eraseIdx n) (vs.eraseIdx n)
  | [], _, _, h => by
    have e : _ = [] := h
    rw [e]
    exact rfl
  | _ :: _, _, 0, h => by
    obtain ⟨v, r, rfl, _, h2⟩ := h
    exact h2
  | _ :: _, _, n + 1, h => by
    obtain ⟨v, r, rfl, h1, h2⟩ := h
    exact ⟨v, _, rfl, h1, Reps.eraseIdx n h2⟩
theorem Reps.dropLast {ds : List D} {vs : List V} (h : Reps K F ds vs) : Reps K F ds.dropLast vs.dropLast := by
  rw [List.dropLast_eq_take, List.dropLast_eq_take, h.length]
  exact h.take _
theorem Reps.ints : ∀ {ns : List Int} {vs : List V}, Reps K F (ns.map D.int) vs → vs = ns.map V.int
  | [], _, h => h
  | n :: ns, _, h => by
    obtain ⟨v, r, rfl, h1, h2⟩ := h
    have e : v = .int n := h1
    rw [e, Reps.ints (ns := ns) h2]
    rfl
theorem Reps.of_ints : ∀ (ns : List Int), Reps K F (ns.map D.int) (ns.map V.int)
  | [] => rfl
  | n :: ns => ⟨_, _, rfl, rfl, Reps.of_ints ns⟩
theorem Reps.bls : ∀ {bs : List Bool} {vs : List V}, Reps K F (bs.map D.bl) vs → vs = bs.map V.bl
  | [], _, h => h
  | n :: ns, _, h => by
    obtain ⟨v, r, rfl, h1, h2⟩ := h
    have e : v = .bl n := h1
    rw [e, Reps.bls (bs := ns) h2]
    rfl
end
inductive OC where
  | lst (ds : List D)
  | dk (kvs : List (Key × D))
  | dt (kvs : List (List Int × D))
  | ins (c : Str) (dx : Addr) (fs : List (Str × D))
  | own (x : Addr)
  | lkK (od : Obj) (vs : List (Key × V)) (kvs : List (Key × D))
  | lkT (od : Obj) (kbs : List (List Int × Addr × V)) (kvs : List (List Int × D))
def OC.ok (K : PySem.W.Frag) (F : Hp) (a : Addr) : OC → HO → Prop
  | .lst ds, o => ∃ vs, o = .lst vs ∧ Reps K F ds vs
  | .dk kvs, o => ∃ vs : List (Key × V), o = .dK vs ∧ vs.map (·.1) = kvs.map (·.1) ∧ Reps K F (kvs.map (·.2)) (vs.map (·.2))
  | .dt kvs, o => ∃ kbs : List (List Int × Addr × V), o = dtO a kbs ∧ kbs.map (·.1) = kvs.map (·.1) ∧ (∀ x ∈ kbs, TupD K F x.2.1 (x.1.map V.int)) ∧ Reps K F (kvs.map (·.2)) (kbs.map (·.2.2))
  | .ins c dx fs, o => ∃ vs : List (Str × V), o = .ins (He.ga K c) dx vs ∧ vs.map (·.1) = fs.map (·.1) ∧ Reps K F (fs.map (·.2)) (vs.map (·.2))
  | .own x, o => o = .own x
  | .lkK od vs kvs, o => o = .frz od (.dK vs) ∧ vs.map (·.1) = kvs.map (·.1) ∧ Reps K F (kvs.map (·.2)) (vs.map (·.2))
  | .lkT od kbs kvs, o => o = .frz od (dtO a kbs) ∧ kbs.map (·.1) = kvs.map (·.1) ∧ (∀ x ∈ kbs, TupD K F x.2.1 (x.1.map V.int)) ∧ Reps K F (kvs.map (·.2)) (kbs.map (·.2.2))
theorem OC.ok.same {K : PySem.W.Frag} {F F' : Hp} {a : Addr} (e : Same F F') : ∀ {c : OC} {o : HO}, OC.ok K F a c o → OC.ok K F' a c o
  | .lst _, _, ⟨vs, h1, h2⟩ => ⟨vs, h1, h2.same e⟩
  | .dk _, _, ⟨vs, h1, h2, h3⟩ => ⟨vs, h1, h2, h3.same e⟩
  | .dt _, _, ⟨vs, h1, h2, h3, h4⟩ => ⟨vs, h1, h2, fun x hx => TupD.same e (h3 x hx), h4.same e⟩
  | .ins _ _ _, _, ⟨vs, h1, h2, h3⟩ => ⟨vs, h1, h2, h3.same e⟩
  | .own _, _, h => h
  | .lkK _ _ _, _, ⟨h1, h2, h3⟩ => ⟨h1, h2, h3.same e⟩
  | .lkT _ _ _, _, ⟨h1, h2, h3, h4⟩ => ⟨h1, h2, fun x hx => TupD.same e (h3 x hx), h4.same e⟩
def Loose (o : HO) : Prop := (∀ xs, o ≠ .tup xs) ∧ ∀ od xs, o ≠ .frz od (.tup xs)
theorem OC.ok.loose {K : PySem.W.Frag} {F : Hp} {a : Addr} : ∀ {c : OC} {o : HO}, OC.ok K F a c o → Loose o
  | .lst _, _, ⟨vs, h1, _⟩ => by subst h1; exact ⟨fun _ z => (nomatch z), fun _ _ z => (nomatch z)⟩
  | .dk _, _, ⟨vs, h1, _⟩ => by subst h1; exact ⟨fun _ z => (nomatch z), fun _ _ z => (nomatch z)⟩
  | .dt _, _, ⟨vs, h1, _⟩ => by subst h1; exact ⟨fun _ z => (nomatch z), fun _ _ z => (nomatch z)⟩
  | .ins _ _ _, _, ⟨vs, h1, _⟩ => by subst h1; exact ⟨fun _ z => (nomatch z), fun _ _ z => (nomatch z)⟩
  | .own _, _, h => by
    have e : _ = HO.own _ := h
    subst e
    exact ⟨fun _ z => (nomatch z), fun _ _ z => (nomatch z)⟩
  | .lkK _ _ _, _, ⟨h1, _⟩ => by subst h1; exact ⟨fun _ z => (nomatch z), fun _ _ z => (nomatch z)⟩
  | .lkT _ _ _, _, ⟨h1, _⟩ => by subst h1; exact ⟨fun _ z => (nomatch z), fun _ _ z => (nomatch z)⟩
inductive Sl where
  | un
  | ext (d : D)
  | lst (a : Addr) (ds : List D)
  | al (i : Nat) (a : Addr)
  | reg (d : D) (cs : List (Addr × OC))
  | ar (i : Nat) (b : Addr)
def Sl.owned : Sl → List Addr
  | .lst a _ => [a]
  | .reg _ cs => cs.map (·.1)
  | _ => []
def cellOf : List (Addr × OC) → Addr → Option OC
  | [], _ => none
  | p :: r, b => if p.1 = b then some p.2 else cellOf r b
def SlOk (K : PySem.W.Frag) (F H : Hp) (v : V) : Sl → Prop
  | .un => True
  | .ext d => Rep K F d v
  | .lst a ds => v = .ref a ∧ F a = none ∧ ∃ vs, H a = some (.lst vs) ∧ Reps K F ds vs
  | .al _ a => v = .ref a
  | .ar _ b => v = .ref b
  | .reg d cs => Rep K F d v ∧ (cs.map (·.1)).Nodup ∧ ∀ p ∈ cs, F p.1 = none ∧ ∃ o, H p.1 = some o ∧ OC.ok K F p.1 p.2 o
theorem SlOk.ndo {K : PySem.W.Frag} {F H : Hp} {v : V} : ∀ {sl : Sl}, SlOk K F H v sl → sl.owned.Nodup
  | .un, _ => List.nodup_nil
  | .ext _, _ => List.nodup_nil
  | .al _ _, _ => List.nodup_nil
  | .lst _ _, _ => List.pairwise_singleton _ _
  | .ar _ _, _ => List.nodup_nil
  | .reg _ _, h => h.2.1
structure Ent where
  F0 : Hp
  H0 : Hp
  A0 : List Addr
abbrev Env' := List Sl
abbrev Tmp := List (V × Sl)
def ownedE (env : Env') : List Addr := env.flatMap Sl.owned
def ownedT (T : Tmp) : List Addr := T.flatMap fun p => p.2.owned
structure Holds (K : PySem.W.Frag) (e : Ent) (env : Env') (T : Tmp) (F : Hp) (σ : St) (H : Hp) : Prop where
  fh : Same F H
  len : env.length = σ.length
  slots : ∀ (i : Nat) sl, env[i]? = some sl → sl = .un ∨ ∃ v, σ[i]? = some (some v) ∧ SlOk K F H v sl
  temps : ∀ p ∈ T, SlOk K F H p.1 p.2
  nd : (ownedE env ++ ownedT T).Nodup
  s1 : Same e.F0 F
  s2 : ∀ a o, e.H0 a = some o → a ∉ e.A0 → H a = some o ∧ (e.F0 a = none → F a = none)
  s3 : ∀ a ∈ ownedE env ++ ownedT T, a ∈ e.A0 ∨ e.H0 a = none
structure Grow (F H F1 H1 : Hp) : Prop where
  ff : Same F F1
  hh : Same H H1
  fh : Same F1 H1
  new : ∀ a, F1 a ≠ none → F a ≠ none ∨ H a = none
theorem Grow.refl {F H : Hp} (h : Same F H) : Grow F H F H := ⟨Same.refl _, Same.refl _, h, fun _ z => .inl z⟩
theorem Grow.trans {F H F1 H1 F2 H2 : Hp} (g : Grow F H F1 H1) (k : Grow F1 H1 F2 H2) : Grow F H F2 H2 :=
  ⟨g.ff.trans k.ff, g.hh.trans k.hh, k.fh, fun a z => by
    rcases k.new a z with z | z
    · exact g.new a z
    · exact .inr (g.hh.free z)⟩
theorem Grow.frozen {F H : Hp} {p : Addr} {o : HO} (fh : Same F H) (n : H p = none) : Grow F H (upd F p o) (upd H p o) where
  ff := fun b x q => by
    rw [upd_ne (ne_of_none (fh _ _ q) n)]
    exact q
  hh := fun b x q => by
    rw [upd_ne (ne_of_none q n)]
    exact q
  fh := fun b x q => by
    by_cases e : b = p
    · subst e
      rw [upd_same] at q ⊢
      exact q
    · rw [upd_ne e] at q ⊢
      exact fh _ _ q
  new := fun a z => by
    by_cases e : a = p
    · subst e
      exact .inr n
    · rw [upd_ne e] at z
      exact .inl z
theorem Grow.loose {F H : Hp} {p : Addr} {o : HO} (fh : Same F H) (n : H p = none) : Grow F H F (upd H p o) where
  ff := Same.refl _
  hh := fun b x q => by
    rw [upd_ne (ne_of_none q n)]
    exact q
  fh := fun b x q => by
    rw [upd_ne (ne_of_none (fh _ _ q) n)]
    exact fh _ _ q
  new := fun a z => .inl z
theorem SlOk.grow {K : PySem.W.Frag} {F H F1 H1 : Hp} {v : V} (g : Grow F H F1 H1) : ∀ {sl : Sl}, SlOk K F H v sl → SlOk K F1 H1 v sl
  | .un, _ => trivial
  | .ext d, h => Rep.same g.ff h
  | .al _ _, h => h
  | .lst a ds, h => by
    obtain ⟨rfl, n, vs, hv, hr⟩ := h
    refine ⟨rfl, ?_, vs, g.hh _ _ hv, hr.same g.ff⟩
    cases q : F1 a with
    | none => rfl
    | some o =>
      rcases g.new a (by rw [q]; simp) with z | z
      · exact absurd n z
      · rw [hv] at z
        cases z
  | .ar _ _, h => h
  | .reg d cs, h => by
    obtain ⟨rd, nd, hc⟩ := h
    refine ⟨Rep.same g.ff rd, nd, fun p hp => ?_⟩
    obtain ⟨n, o, ho, ok⟩ := hc p hp
    refine ⟨?_, o, g.hh _ _ ho, ok.same g.ff⟩
    cases q : F1 p.1 with
    | none => rfl
    | some o' =>
      rcases g.new p.1 (by rw [q]; simp) with z | z
      · exact absurd n z
      · rw [ho] at z
        cases z
section
variable {K : PySem.W.Frag} {e : Ent} {env : Env'} {T : Tmp} {F F1 : Hp} {σ : St} {H H1 : Hp}
theorem Holds.ownedL (h : Holds K e env T F σ H) : ∀ a ∈ ownedE env ++ ownedT T, F a = none ∧ ∃ o, H a = some o ∧ Loose o := fun a ha => by
  have key : ∀ v (sl : Sl), SlOk K F H v sl → a ∈ sl.owned → F a = none ∧ ∃ o, H a = some o ∧ Loose o := fun v sl ok hm => by
    cases sl with
    | un => cases hm
    | ext d => cases hm
    | al i b => cases hm
    | lst b ds =>
      obtain ⟨_, n, vs, hv, _⟩ := ok
      have z : a = b := List.mem_singleton.mp hm
      subst z
      exact ⟨n, _, hv, ⟨fun _ z => (nomatch z), fun _ _ z => (nomatch z)⟩⟩
    | ar i b => cases hm
    | reg b cs =>
      obtain ⟨_, _, hc⟩ := ok
      obtain ⟨p, hp, rfl⟩ := List.mem_map.mp hm
      obtain ⟨n, o, ho, ok⟩ := hc p hp
      exact ⟨n, o, ho, ok.loose⟩
  rcases List.mem_append.mp ha with ha | ha
  · obtain ⟨sl, hs, hm⟩ := List.mem_flatMap.mp ha
    obtain ⟨i, hi, rfl⟩ := List.getElem_of_mem hs
    rcases h.slots i _ (List.getElem?_eq_getElem hi) with z | ⟨v, _, ok⟩
    · rw [z] at hm
      cases hm
    · exact key v _ ok hm
  · obtain ⟨p, hp, hm⟩ := List.mem_flatMap.mp ha
    exact key p.1 p.2 (h.temps p hp) hm
theorem Holds.ownedH (h : Holds K e env T F σ H) : ∀ a ∈ ownedE env ++ ownedT T, F a = none ∧ ∃ o, H a = some o := fun a ha => by
  obtain ⟨n, o, ho, _⟩ := h.ownedL a ha
  exact ⟨n, o, ho⟩
theorem Holds.grow (h : Holds K e env T F σ H) (g : Grow F H F1 H1) : Holds K e env T F1 σ H1 where
  fh := g.fh
  len := h.len
  slots := fun i sl q => by
    rcases h.slots i sl q with z | ⟨v, hv, ok⟩
    · exact .inl z
    · exact .inr ⟨v, hv, ok.grow g⟩
  temps := fun p hp => (h.temps p hp).grow g
  nd := h.nd
  s1 := h.s1.trans g.ff
  s2 := fun a o q n => by
    obtain ⟨q1, q2⟩ := h.s2 a o q n
    refine ⟨g.hh _ _ q1, fun z => ?_⟩
    cases r : F1 a with
    | none => rfl
    | some x =>
      rcases g.new a (by rw [r]; simp) with y | y
      · exact absurd (q2 z) y
      · rw [q1] at y
        cases y
  s3 := h.s3
theorem Holds.push {v : V} {sl : Sl} (h : Holds K e env T F σ H) (g : Grow F H F1 H1) (ok : SlOk K F1 H1 v sl) (own : ∀ a ∈ sl.owned, H a = none) : Holds K e env ((v, sl) :: T) F1 σ H1 := by
  have h1 := h.grow g
  have old := h.ownedH
  have ndo : sl.owned.Nodup := ok.ndo
  have dis : ∀ a ∈ sl.owned, a ∉ ownedE env ++ ownedT T := fun a ha hb => by
    obtain ⟨_, vs, q⟩ := old a hb
    rw [own a ha] at q
    cases q
  refine ⟨h1.fh, h1.len, h1.slots, fun p hp => ?_, ?_, h1.s1, h1.s2, fun a ha => ?_⟩
  · rcases List.mem_cons.mp hp with rfl | hp
    · exact ok
    · exact h1.temps p hp
  · show (ownedE env ++ (sl.owned ++ ownedT T)).Nodup
    have z := h.nd
    rw [List.nodup_append] at z ⊢
    obtain ⟨z1, z2, z3⟩ := z
    refine ⟨z1, ?_, fun a ha b hb => ?_⟩
    · rw [List.nodup_append]
      exact ⟨ndo, z2, fun a ha b hb e => dis a ha (by rw [e]; exact List.mem_append_right _ hb)⟩
    · rcases List.mem_append.mp hb with hb | hb
      · exact fun e => dis b hb (by rw [← e]; exact List.mem_append_left _ ha)
      · exact z3 a ha b hb
  · have ha' : a ∈ ownedE env ++ (sl.owned ++ ownedT T) := ha
    rcases List.mem_append.mp ha' with hb | hb
    · exact h.s3 a (List.mem_append_left _ hb)
    · rcases List.mem_append.mp hb with hb | hb
      · have hn := own a hb
        cases q : e.H0 a with
        | none => exact .inr rfl
        | some o =>
          by_cases hA : a ∈ e.A0
          · exact .inl hA
          · rw [(h.s2 a o q hA).1] at hn
            cases hn
      · exact h.s3 a (List.mem_append_right _ hb)
theorem Holds.pushE {v : V} {d : D} (h : Holds K e env T F σ H) (ok : Rep K F d v) : Holds K e env ((v, .ext d) :: T) F σ H :=
  h.push (Grow.refl h.fh) ok fun a ha => by cases ha
theorem Holds.pushA {i : Nat} {a : Addr} (h : Holds K e env T F σ H) : Holds K e env ((.ref a, .al i a) :: T) F σ H :=
  h.push (Grow.refl h.fh) rfl fun a ha => by cases ha
theorem ownedT_sub {T T' : Tmp} (s : T'.Sublist T) : (ownedT T').Sublist (ownedT T) := by
  unfold ownedT
  induction s with
  | slnil => exact .slnil
  | cons a _ ih => exact ih.trans (List.sublist_append_right _ _)
  | cons_cons a _ ih => exact (List.Sublist.refl _).append ih
theorem Holds.sub {T' : Tmp} (h : Holds K e env T F σ H) (s : T'.Sublist T) : Holds K e env T' F σ H := by
  have so : (ownedT T').Sublist (ownedT T) := ownedT_sub s
  have sa : (ownedE env ++ ownedT T').Sublist (ownedE env ++ ownedT T) := (List.Sublist.refl _).append so
  exact ⟨h.fh, h.len, h.slots, fun p hp => h.temps p (s.subset hp), h.nd.sublist sa, h.s1, h.s2, fun a ha => h.s3 a (sa.subset ha)⟩
theorem Holds.pop {p : V × Sl} (h : Holds K e env (p :: T) F σ H) : Holds K e env T F σ H := h.sub (List.sublist_cons_self _ _)
theorem splitE {env : Env'} {i : Nat} {sl : Sl} (h : env[i]? = some sl) : ∃ A B, ownedE env = A ++ (sl.owned ++ B) ∧ ∀ sl', ownedE (env.set i sl') = A ++ (Sl.owned sl' ++ B) := by
  obtain ⟨hi, rfl⟩ := List.getElem?_eq_some_iff.mp h
  refine ⟨ownedE (env.take i), ownedE (env.drop (i + 1)), ?_, fun sl' => ?_⟩
  · have z : env = env.take i ++ env[i] :: env.drop (i + 1) := by
      rw [List.getElem_cons_drop, List.take_append_drop]
    have y := congrArg ownedE z
    rw [y]
    unfold ownedE
    rw [List.flatMap_append, List.flatMap_cons]
  · rw [List.set_eq_take_append_cons_drop, if_pos hi]
    unfold ownedE
    rw [List.flatMap_append, List.flatMap_cons]
theorem owned_two {env : Env'} {X : List Addr} {i j : Nat} {s1 s2 : Sl} {a : Addr} (nd : (ownedE env ++ X).Nodup) (h1 : env[i]? = some s1) (h2 : env[j]? = some s2) (m1 : a ∈ s1.owned) (m2 : a ∈ s2.owned) : i = j := by
  obtain ⟨A, B, e1, e2⟩ := splitE h1
  rcases Nat.lt_trichotomy i j with h | h | h
  · exfalso
    obtain ⟨hi, rfl⟩ := List.getElem?_eq_some_iff.mp h1
    obtain ⟨hj, rfl⟩ := List.getElem?_eq_some_iff.mp h2
    have z : env = env.take j ++ env[j] :: env.drop (j + 1) := by rw [List.getElem_cons_drop, List.take_append_drop]
    have y : ownedE env = ownedE (env.take j) ++ (env[j].owned ++ ownedE (env.drop (j + 1))) := by
      have y := congrArg ownedE z
      rw [y]
      unfold ownedE
      rw [List.flatMap_append, List.flatMap_cons]
    rw [y, List.append_assoc] at nd
    have q := (List.nodup_append.mp nd).2.2
    refine q a (List.mem_flatMap.mpr ⟨env[i], ?_, m1⟩) a (List.mem_append_left _ (List.mem_append_left _ m2)) rfl
    exact List.mem_iff_getElem?.mpr ⟨i, by rw [List.getElem?_take_of_lt h]; exact List.getElem?_eq_getElem hi⟩
  · exact h
  · exfalso
    obtain ⟨hi, rfl⟩ := List.getElem?_eq_some_iff.mp h1
    obtain ⟨hj, rfl⟩ := List.getElem?_eq_some_iff.mp h2
    have z : env = env.take i ++ env[i] :: env.drop (i + 1) := by rw [List.getElem_cons_drop, List.take_append_drop]
    have y : ownedE env = ownedE (env.take i) ++ (env[i].owned ++ ownedE (env.drop (i + 1))) := by
      have y := congrArg ownedE z
      rw [y]
      unfold ownedE
      rw [List.flatMap_append, List.flatMap_cons]
    rw [y, List.append_assoc] at nd
    have q := (List.nodup_append.mp nd).2.2
    refine q a (List.mem_flatMap.mpr ⟨env[j], ?_, m2⟩) a (List.mem_append_left _ (List.mem_append_left _ m1)) rfl
    exact List.mem_iff_getElem?.mpr ⟨j, by rw [List.getElem?_take_of_lt h]; exact List.getElem?_eq_getElem hj⟩
theorem mem_ownedE {env : Env'} {i : Nat} {sl : Sl} {a : Addr} (h : env[i]? = some sl) (m : a ∈ sl.owned) : a ∈ ownedE env :=
  List.mem_flatMap.mpr ⟨sl, List.mem_iff_getElem?.mpr ⟨i, h⟩, m⟩
theorem SlOk.write {v : V} {a : Addr} {o : HO} : ∀ {sl : Sl}, a ∉ sl.owned → SlOk K F H v sl → SlOk K F (upd H a o) v sl
  | .un, _, _ => trivial
  | .ext _, _, h => h
  | .al _ _, _, h => h
  | .lst b ds, n, h => by
    obtain ⟨rfl, q, vs, hv, hr⟩ := h
    refine ⟨rfl, q, vs, ?_, hr⟩
    have nb : b ≠ a := fun z => n (by rw [z]; exact List.mem_singleton.mpr rfl)
    rw [upd_ne nb]
    exact hv
  | .ar _ _, _, h => h
  | .reg b cs, n, h => by
    obtain ⟨rd, nd, hc⟩ := h
    refine ⟨rd, nd, fun p hp => ?_⟩
    obtain ⟨q, o', ho, ok⟩ := hc p hp
    have nb : p.1 ≠ a := fun z => n (by rw [← z]; exact List.mem_map.mpr ⟨p, hp, rfl⟩)
    exact ⟨q, o', by rw [upd_ne nb]; exact ho, ok⟩
theorem Holds.write {i : Nat} {a : Addr} {ds ds' : List D} {vs' : List V} (h : Holds K e env T F σ H) (hi : env[i]? = some (.lst a ds)) (hr : Reps K F ds' vs') : Holds K e (env.set i (.lst a ds')) T F σ (upd H a (.lst vs')) := by
  obtain ⟨A, B, e1, e2⟩ := splitE hi
  have own : ownedE (env.set i (.lst a ds')) = ownedE env := by
    rw [e1, e2]
    rfl
  have ma : a ∈ ownedE env := mem_ownedE hi (List.mem_singleton.mpr rfl)
  have mm : a ∈ ownedE env ++ ownedT T := List.mem_append_left _ ma
  obtain ⟨Fn, _⟩ := h.ownedH a mm
  refine ⟨fun b o q => ?_, by rw [List.length_set]; exact h.len, fun j sl q => ?_, fun p hp => (h.temps p hp).write fun m => ?_, by rw [own]; exact h.nd, h.s1, fun b o q n => ?_, by rw [own]; exact h.s3⟩
  · have nb : b ≠ a := fun z => by
      rw [z, Fn] at q
      cases q
    rw [upd_ne nb]
    exact h.fh b o q
  · rw [List.getElem?_set] at q
    split at q
    · rename_i ij
      subst ij
      split at q
      · cases q
        right
        rcases h.slots i _ hi with z | ⟨v, hv, rfl, q1, _⟩
        · cases z
        · exact ⟨_, hv, rfl, q1, vs', upd_same, hr⟩
      · cases q
    · rename_i ij
      rcases h.slots j sl q with z | ⟨v, hv, ok⟩
      · exact .inl z
      · refine .inr ⟨v, hv, ok.write fun m => ij (owned_two h.nd hi q (List.mem_singleton.mpr rfl) m)⟩
  · exact (List.nodup_append.mp h.nd).2.2 a ma a (List.mem_flatMap.mpr ⟨p, hp, m⟩) rfl
  · have nb : b ≠ a := fun z => by
      subst z
      rcases h.s3 b mm with y | y
      · exact n y
      · rw [q] at y
        cases y
    rw [upd_ne nb]
    exact h.s2 b o q n
theorem Holds.writeT {v : V} {a : Addr} {ds ds' : List D} {vs' : List V} (h : Holds K e env ((v, .lst a ds) :: T) F σ H) (hr : Reps K F ds' vs') : Holds K e env ((v, .lst a ds') :: T) F σ (upd H a (.lst vs')) := by
  have mT : a ∈ ownedT ((v, Sl.lst a ds) :: T) := List.mem_append_left _ (List.mem_singleton.mpr rfl)
  have mm : a ∈ ownedE env ++ ownedT ((v, Sl.lst a ds) :: T) := List.mem_append_right _ mT
  obtain ⟨Fn, _⟩ := h.ownedH a mm
  have z3 := (List.nodup_append.mp h.nd).2.2
  have zT : ([a] ++ ownedT T).Nodup := (List.nodup_append.mp h.nd).2.1
  refine ⟨fun b o q => ?_, h.len, fun j sl q => ?_, fun p hp => ?_, h.nd, h.s1, fun b o q n => ?_, h.s3⟩
  · have nb : b ≠ a := fun z => by
      rw [z, Fn] at q
      cases q
    rw [upd_ne nb]
    exact h.fh b o q
  · rcases h.slots j sl q with z | ⟨w, hw, ok⟩
    · exact .inl z
    · exact .inr ⟨w, hw, ok.write fun m => z3 a (mem_ownedE q m) a mT rfl⟩
  · rcases List.mem_cons.mp hp with rfl | hp
    · obtain ⟨rfl, q1, _⟩ := h.temps (v, .lst a ds) List.mem_cons_self
      exact ⟨rfl, q1, vs', upd_same, hr⟩
    · refine (h.temps p (List.mem_cons_of_mem _ hp)).write fun m => ?_
      exact (List.nodup_append.mp zT).2.2 a (List.mem_singleton.mpr rfl) a (List.mem_flatMap.mpr ⟨p, hp, m⟩) rfl
  · have nb : b ≠ a := fun z => by
      subst z
      rcases h.s3 b mm with y | y
      · exact n y
      · rw [q] at y
        cases y
    rw [upd_ne nb]
    exact h.s2 b o q n
theorem SlOk.freeze {v : V} {a : Addr} {vs : List V} (hF : F a = none) : ∀ {sl : Sl}, a ∉ sl.owned → SlOk K F H v sl → SlOk K (upd F a (.lst vs)) H v sl := by
  have sm : Same F (upd F a (.lst vs)) := fun b o q => by
    rw [upd_ne (ne_of_none q hF)]
    exact q
  intro sl n h
  cases sl with
  | un => trivial
  | ext d => exact Rep.same sm h
  | al i b => exact h
  | lst b ds =>
    obtain ⟨rfl, q, us, hv, hr⟩ := h
    refine ⟨rfl, ?_, us, hv, hr.same sm⟩
    have nb : b ≠ a := fun z => n (by rw [z]; exact List.mem_singleton.mpr rfl)
    rw [upd_ne nb]
    exact q
  | ar i b => exact h
  | reg b cs =>
    obtain ⟨rd, nd, hc⟩ := h
    refine ⟨Rep.same sm rd, nd, fun p hp => ?_⟩
    obtain ⟨q, o', ho, ok⟩ := hc p hp
    have nb : p.1 ≠ a := fun z => n (by rw [← z]; exact List.mem_map.mpr ⟨p, hp, rfl⟩)
    exact ⟨by rw [upd_ne nb]; exact q, o', ho, ok.same sm⟩
theorem Holds.freezeT {v : V} {a : Addr} {ds : List D} (h : Holds K e env ((v, .lst a ds) :: T) F σ H) : ∃ F1, Same F F1 ∧ Holds K e env ((v, .ext (.lst ds)) :: T) F1 σ H := by
  have mT : a ∈ ownedT ((v, Sl.lst a ds) :: T) := List.mem_append_left _ (List.mem_singleton.mpr rfl)
  have mm : a ∈ ownedE env ++ ownedT ((v, Sl.lst a ds) :: T) := List.mem_append_right _ mT
  obtain ⟨rfl, hF, vs, hv, hr⟩ := h.temps (v, .lst a ds) List.mem_cons_self
  have z3 := (List.nodup_append.mp h.nd).2.2
  have zT : ([a] ++ ownedT T).Nodup := (List.nodup_append.mp h.nd).2.1
  have hF : F a = none := hF
  have sm : Same F (upd F a (.lst vs)) := fun b o q => by
    rw [upd_ne (ne_of_none q hF)]
    exact q
  have sub : (ownedE env ++ ownedT ((V.ref a, Sl.ext (.lst ds)) :: T)).Sublist (ownedE env ++ ownedT ((V.ref a, Sl.lst a ds) :: T)) :=
    (List.Sublist.refl _).append (List.sublist_append_right [a] (ownedT T))
  refine ⟨upd F a (.lst vs), sm, fun b o q => ?_, h.len, fun j sl q => ?_, fun p hp => ?_, h.nd.sublist sub, h.s1.trans sm, fun b o q n => ?_, fun b hb => h.s3 b (sub.subset hb)⟩
  · by_cases nb : b = a
    · rw [nb, upd_same] at q
      rw [nb, hv]
      exact q
    · rw [upd_ne nb] at q
      exact h.fh b o q
  · rcases h.slots j sl q with z | ⟨w, hw, ok⟩
    · exact .inl z
    · exact .inr ⟨w, hw, ok.freeze hF fun m => z3 a (mem_ownedE q m) a mT rfl⟩
  · rcases List.mem_cons.mp hp with rfl | hp
    · exact ⟨a, vs, rfl, upd_same, hr.same sm⟩
    · refine (h.temps p (List.mem_cons_of_mem _ hp)).freeze hF fun m => ?_
      exact (List.nodup_append.mp zT).2.2 a (List.mem_singleton.mpr rfl) a (List.mem_flatMap.mpr ⟨p, hp, m⟩) rfl
  · have nb : b ≠ a := fun z => by
      subst z
      rcases h.s3 b mm with y | y
      · exact n y
      · rw [q] at y
        cases y
    rw [upd_ne nb]
    exact h.s2 b o q n
theorem Holds.unset (h : Holds K e env T F σ H) (i : Nat) : Holds K e (env.set i .un) T F σ H := by
  by_cases hl : i < env.length
  · obtain ⟨A, B, e1, e2⟩ := splitE (List.getElem?_eq_getElem hl)
    have sub : (ownedE (env.set i .un) ++ ownedT T).Sublist (ownedE env ++ ownedT T) := by
      rw [e2, e1]
      exact ((List.Sublist.refl _).append (List.sublist_append_right _ _)).append (List.Sublist.refl _)
    refine ⟨h.fh, by rw [List.length_set]; exact h.len, fun j sl q => ?_, h.temps, h.nd.sublist sub, h.s1, h.s2, fun a ha => h.s3 a (sub.subset ha)⟩
    rw [List.getElem?_set] at q
    split at q
    · cases q
      exact .inl rfl
    · exact h.slots j sl q
  · rw [List.set_eq_of_length_le (by omega)]
    exact h
def Sl.plain : Sl → Prop
  | .al _ _ => False
  | .ar _ _ => False
  | _ => True
theorem Holds.assign {v : V} {sl : Sl} (h : Holds K e env ((v, sl) :: T) F σ H) (i : Nat) (hp : sl.plain) : Holds K e (env.set i sl) T F (σ.set i (some v)) H := by
  by_cases hl : i < env.length
  · obtain ⟨A, B, e1, e2⟩ := splitE (List.getElem?_eq_getElem hl)
    have sub : (A ++ B ++ (sl.owned ++ ownedT T)).Sublist (ownedE env ++ ownedT ((v, sl) :: T)) := by
      rw [e1]
      exact ((List.Sublist.refl _).append (List.sublist_append_right _ _)).append (List.Sublist.refl _)
    have perm : (A ++ B ++ (sl.owned ++ ownedT T)).Perm (ownedE (env.set i sl) ++ ownedT T) := by
      rw [e2, List.append_assoc, List.append_assoc]
      refine List.Perm.append_left A ?_
      rw [List.append_assoc, ← List.append_assoc, ← List.append_assoc]
      exact List.Perm.append_right _ List.perm_append_comm
    refine ⟨h.fh, by rw [List.length_set, List.length_set]; exact h.len, fun j s q => ?_, fun p hp => h.temps p (List.mem_cons_of_mem _ hp), perm.nodup (h.nd.sublist sub), h.s1, h.s2, fun a ha => h.s3 a (sub.subset (perm.mem_iff.mpr ha))⟩
    rw [List.getElem?_set] at q
    rw [List.getElem?_set]
    split at q
    · rename_i ij
      rw [if_pos ij, if_pos (by rw [← h.len]; exact hl)]
      cases q
      exact .inr ⟨v, rfl, h.temps (v, sl) List.mem_cons_self⟩
    · rename_i ij
      rw [if_neg ij]
      exact h.slots j s q
  · rw [List.set_eq_of_length_le (by omega), List.set_eq_of_length_le (by rw [← h.len]; omega)]
    exact h.pop
theorem Holds.take {i : Nat} {sl : Sl} {v : V} (h : Holds K e env T F σ H) (hi : env[i]? = some sl) (hv : σ[i]? = some (some v)) : Holds K e (env.set i .un) ((v, sl) :: T) F σ H := by
  obtain ⟨A, B, e1, e2⟩ := splitE hi
  have perm : (ownedE env ++ ownedT T).Perm (ownedE (env.set i .un) ++ ownedT ((v, sl) :: T)) := by
    rw [e1, e2]
    show (A ++ (sl.owned ++ B) ++ ownedT T).Perm (A ++ ([] ++ B) ++ (sl.owned ++ ownedT T))
    rw [List.append_assoc, List.append_assoc, List.nil_append, List.append_assoc]
    refine List.Perm.append_left A ?_
    rw [← List.append_assoc, ← List.append_assoc]
    exact List.Perm.append_right _ List.perm_append_comm
  refine ⟨h.fh, by rw [List.length_set]; exact h.len, (h.unset i).slots, fun p hp => ?_, perm.nodup h.nd, h.s1, h.s2, fun a ha => h.s3 a (perm.mem_iff.mpr ha)⟩
  rcases List.mem_cons.mp hp with rfl | hp
  · rcases h.slots i sl hi with z | ⟨w, hw, ok⟩
    · subst z
      trivial
    · rw [hv] at hw
      cases hw
      exact ok
  · exact h.temps p hp
theorem Holds.freeze {i : Nat} {a : Addr} {ds : List D} (h : Holds K e env T F σ H) (hi : env[i]? = some (.lst a ds)) : ∃ F1, Same F F1 ∧ Holds K e (env.set i (.ext (.lst ds))) T F1 σ H := by
  rcases h.slots i _ hi with z | ⟨v, hv, ok⟩
  · cases z
  · obtain ⟨F1, sm, h1⟩ := (h.take hi hv).freezeT
    have h2 := h1.assign i trivial
    rw [List.set_set] at h2
    have z : σ.set i (some v) = σ := by
      obtain ⟨hl, e⟩ := List.getElem?_eq_some_iff.mp hv
      rw [← e]
      exact List.set_getElem_self hl
    rw [z] at h2
    exact ⟨F1, sm, h2⟩
theorem Holds.bare (h : Holds K e env T F σ H) : Holds K e env [] F σ H := h.sub (List.nil_sublist _)
end
end HD
namespace HD
open PySem PySem.Spec PyProof.Rows L2
structure FnG (P : Program) (w : World) (K : PySem.W.Frag) (mg : Str → Option Value) (base : Heap) (C : CXT) (k : Nat) (f : Addr) (fd : FuncData) (ps : List Str) (sp : Sp) : Prop where
  fit : ∀ vs H Q E, sp vs H Q E → vs.length = ps.length
  go : ∀ (A : Around) (out : List Env) (t : Shared) (H : Hp) (args : Args) (us : List Value) (vs : List V) (Q : VK) (E : XK), A.guards = some [] → Room k A → Env0 P w K mg base A out t H → BindsTo t fd args (ps.zip us) → Vals vs us → sp vs H Q E →
    codeAny (model P w) A (.call (.ref f) args) (CR C out P w H t Q E) t
section
variable {P : Program} {w : World} {K : PySem.W.Frag} {mg : Str → Option Value} {base : Heap} {C : CXT} {k : Nat} {f : Addr} {fd : FuncData} {N ps : List Str} {sp : Sp} {x qual : Str} {st : Stmt}
theorem fnG_of (hF : Fun K x qual st f fd) (S : FnScope N ps (defScope st)) (fit : ∀ vs H Q E, sp vs H Q E → vs.length = ps.length)
    (body : ∀ (cd : Value) (A : Around) (out : List Env) (t : Shared) (H : Hp) (vs : List V) (Q : VK) (E : XK), A.guards = some [] → Room k (A.deeper (envOfC qual (defScope st) t.heap.objs.size f cd)) → sp vs H Q E →
      ∃ tt, PSs (cxOf C P w K mg base N qual (defScope st) f cd A out t H E) (defBody st) tt ∧ tt { nx := fun _ H' => Q .non H', rt := Q } (L2.start N vs) H) : FnG P w K mg base C (k + 1) f fd ps sp := by
  obtain ⟨oc, od, kV, doc, pm, an, cd, ct, osl, rfl, at_f, code⟩ := hF.ex
  refine ⟨fit, fun A out t H args us vs Q E gd room e0 bnd rel hsp => ?_⟩
  have inK : K.In t.heap := e0.mod.kin.keeps fun b o q => (e0.bs b o q).1
  have noLim : t.heap.NoLimit := e0.mod.nolimit.keeps fun b o q => (e0.bs b o q).1
  refine codeAny_call_function room.depth (inK _ _ at_f) rfl S.co S.gen rfl (PySem.W.codeRec_of inK code) (bnd _ _ _ _ ?_)
  refine wpAny_newFunctionEnv_cells S.kind (fun y hy => ?_) fun env he t1 call => ?_
  · obtain ⟨nm, v⟩ := y
    rcases S.par nm (List.of_mem_zip hy).1 with z | z
    · exact Or.inl z
    · exact Or.inr ⟨z, PySem.W.cellsFrom_some _ _ _ (.inl z)⟩
  · subst he
    refine ⟨noLim.keeps call.toInCall.keep, codeAny_func ?_⟩
    obtain ⟨tt, hb, hq⟩ := body cd A out t H vs Q E gd (room.deeper _) hsp
    have J : L2.Inv (cxOf C P w K mg base N qual (defScope st) f cd A out t H E) [] (L2.start N vs) H t1 := inv_start S room.hd e0 (fit _ _ _ _ hsp) rel call
    refine wpAny_mono (hb.run [] t1 (L2.start N vs) H _ J hq) (fun fl t2 h2 => ?_) fun e t2 h2 => h2
    cases fl with
    | ret u =>
      obtain ⟨v, σ2, H2, J2, rv, q⟩ := h2
      exact ⟨v, H2, J2.os, J2.bare, J2.base, J2.hok, rv, q⟩
    | next =>
      obtain ⟨σ2, H2, J2, q⟩ := h2
      exact ⟨V.non, H2, J2.os, J2.bare, J2.base, J2.hok, rfl, q⟩
    | brk => exact h2.elim fun _ z => z.elim fun _ z => z.2.elim
    | cont => exact h2.elim fun _ z => z.elim fun _ z => z.2.elim
end
section
variable {X : Cx} {C : CXT} {k : Nat} {f : Addr} {fd : FuncData} {ps : List Str} {sp : Sp} {E : L2.St → XK}
theorem runG {pins : List (Addr × Obj)} {σ : L2.St} {H : Hp} {t : Shared} {Q : VK} {us : List Value} {vs : List V} (F : FnG X.prog X.w X.K X.mg X.base C k f fd ps sp) (gd : X.A.guards = some []) (room : Room k X.A) (bnd : Binds X.K fd ps []) (pass : PassesAt C X σ (E σ))
    (J : L2.Inv X pins σ H t) (rel : Vals vs us) (h : sp vs H Q (E σ)) : wpAny (model X.prog X.w) X.A (call (.ref f) us) (EP X pins σ Q) X.xe t := by
  have l1 : us.length = ps.length := by rw [← rel.length]; exact F.fit _ _ _ _ h
  have b := bnd t us J.kIn (by rw [List.append_nil]; exact l1)
  rw [List.append_nil] at b
  refine wpAny_call (codeAny_mono (F.go X.A X.stack t H ⟨us, []⟩ us vs Q (E σ) gd room J.env0 b rel h) fun res t2 hres => ?_)
  cases res with
  | error e => exact pass pins H t e t2 J hres
  | ok fl =>
    cases fl with
    | ret u => exact J.after hres
    | next => exact hres.elim
    | brk => exact hres.elim
    | cont => exact hres.elim
end
theorem law_callG {P : Program} {w : World} {K : PySem.W.Frag} {mg mb : Str → Option Value} {C : CXT} {k : Nat} {fa a : Addr} {fd : FuncData} {x : Str} {sp : Sp} {t1 : Shared} {vs : List Value} {ns : List Int}
    (KX : K.In t1.heap) (hns : t1.heap.Ns mainGlobals mg) (hb : t1.heap.Ns builtinsNs mb) (hbb : ∀ y : Str, y ≠ "__name__" → mb y = bootBuiltins y) (lim : t1.heap.NoLimit) (hg : t1.gens = #[])
    (ha : t1.heap.get? a = some { cls := .type "list", data := .seq vs.toArray }) (hi : IntsAre vs ns) (hl : ns.length ≤ sizeLine) (room : Room k callerA)
    (F : ∀ base : Heap, K.In base → base.Ns mainGlobals mg → FnG P w K mg base C k fa fd [x] sp) (bnd : ∀ (s : Shared) (u : Value), BindsTo s fd ⟨[u], []⟩ [(x, u)])
    (hsp : ∀ H : Hp, L2.Only H → SqL K H a (ns.map V.int) → sp [.ref a] H (fun v _ => v = .bl true) fun _ _ _ => False)
    (noX : ∀ H e s', C [] H t1 (fun _ _ _ => False) e s' → False) :
    codeAny (model P w) callerA (.call (.ref fa) ⟨[.ref a], []⟩) (fun r s' => r = .ok (.ret (.bool true)) ∧ OldK t1.heap s'.heap ∧ s'.os = t1.os ∧ AllBare s'.gens) t1 := by
  have rv := vals_ints hi
  have lenV := hi.length
  have core : ∀ H : Hp, L2.Only H → SqL K H a (ns.map V.int) → HOk P w H t1.heap → (∀ b, H b ≠ none → b = a) → (H a ≠ none → K.lookup a = none) →
      codeAny (model P w) callerA (.call (.ref fa) ⟨[.ref a], []⟩) (fun r s' => r = .ok (.ret (.bool true)) ∧ OldK t1.heap s'.heap ∧ s'.os = t1.os ∧ AllBare s'.gens) t1 := by
    intro H only hS hok hA hK
    have up : ∀ {b : Addr} {o : Obj}, t1.heap.get? b = some o → H b = none → (hidT t1.heap H).get? b = some o := fun e n => hidT_get e n
    have notA : ∀ {b : Addr} {u : HO}, H b = some u → b = a := fun {b u} q => hA b (by rw [q]; simp)
    have dicts : ∀ {b : Addr} {o : Obj} {es : Array DictEntry} {ep : Nat}, t1.heap.get? b = some o → o.data = .dict es ep → H b = none := fun {b o es ep} e d => by
      cases q : H b with
      | none => rfl
      | some u =>
        have e1 := notA q
        subst e1
        rw [ha] at e
        cases e
        cases (show Data.seq vs.toArray _ = Data.dict es ep from d)
    have spaces : ∀ {b : Addr} {m : Str → Option Value}, t1.heap.Ns b m → (hidT t1.heap H).Ns b m := fun {b m} ⟨o, es, ep, e, d, r⟩ => ⟨o, es, ep, up e (dicts e d), d, r⟩
    have inB : K.In (hidT t1.heap H) := fun b o e => up (KX b o e) (by
      cases q : H b with
      | none => rfl
      | some u =>
        have e1 := notA q
        subst e1
        rw [hK (by rw [q]; simp)] at e
        cases e)
    have md : Mod K mg (hidT t1.heap H) := ⟨inB, spaces hns, ⟨mb, spaces hb, hbb⟩, let ⟨mc, h1, h2⟩ := lim; ⟨mc, spaces h1, h2⟩⟩
    have e0 : Env0 P w K mg (hidT t1.heap H) callerA [] t1 H := ⟨rfl, md, fun b o e => of_hidT e, Nat.le_of_eq (hidT_size _ _), True.intro, fun b hb => absurd (show b ∈ ([] : List Addr) from hb) (by simp), hok, .of_eq hg⟩
    refine codeAny_mono ((F _ inB (spaces hns)).go callerA [] t1 H ⟨[.ref a], []⟩ [.ref a] [.ref a] _ _ rfl room e0 (bnd t1 (.ref a)) (.cons rfl .nil) (hsp H only hS)) fun res t2 h => ?_
    cases res with
    | error e => exact (noX H e t2 h).elim
    | ok fl =>
      cases fl with
      | next => exact h.elim
      | brk => exact h.elim
      | cont => exact h.elim
      | ret u =>
        obtain ⟨v, H2, os, bare, un, hok2, r2, q⟩ := h
        cases (show v = .bl true from q)
        cases (show u = Value.bool true from r2)
        refine ⟨rfl, OldK.of_keep fun b o e => ?_, os, bare⟩
        cases q : H b with
        | none => exact un.keep b o e q (by intro z; exact absurd (show b ∈ ([] : List Addr) from z) (by simp)) (by simp)
        | some u =>
          rcases only b with z | ⟨ob, ys, z⟩
          · rw [q] at z; cases z
          · obtain ⟨y1, _⟩ := hok b _ z
            obtain ⟨y2, _⟩ := hok2 b _ (un.frzs b ob _ z)
            rw [e] at y1
            cases y1
            exact y2
  cases hk : K.lookup a with
  | some o =>
    have e := KX a o hk
    rw [ha] at e
    cases e
    exact core (fun _ => none) (fun _ => .inl rfl) (.inr ⟨_, vs.toArray, _, hk, rfl, rfl, rfl, by rw [List.size_toArray, lenV]; exact hl, by simpa using rv⟩) (fun b u z => by cases (show (none : Option HO) = some u from z)) (fun b z => absurd rfl z) fun z => absurd rfl z
  | none =>
    let o0 : Obj := { cls := .type "list", data := .seq vs.toArray }
    refine core (fun b => if b = a then some (.frz o0 (.lst (ns.map V.int))) else none) (fun b => ?_) (.inl (.inr ⟨o0, if_pos rfl⟩)) (fun b u z => ?_) (fun b z => ?_) fun _ => hk
    · by_cases q : b = a
      · exact .inr ⟨_, _, if_pos q⟩
      · exact .inl (if_neg q)
    · by_cases q : b = a
      · cases (if_pos q).symm.trans z
        subst q
        exact ⟨ha, by rw [List.length_map]; exact hl, vs, _, rv, ha⟩
      · cases (if_neg q).symm.trans z
    · by_cases q : b = a
      · exact q
      · exact absurd (if_neg q) z
end HD
namespace HD
open PySem L2
theorem ownedT_perm {T T' : Tmp} (p : T.Perm T') : (ownedT T).Perm (ownedT T') := by
  unfold ownedT
  induction p with
  | nil => exact .refl _
  | cons x _ ih => exact ih.append_left _
  | swap x y l =>
    rw [List.flatMap_cons, List.flatMap_cons, List.flatMap_cons, List.flatMap_cons, ← List.append_assoc, ← List.append_assoc]
    exact List.perm_append_comm.append_right _
  | trans _ _ i1 i2 => exact i1.trans i2
theorem Holds.perm {K : PySem.W.Frag} {e : Ent} {env : Env'} {T T' : Tmp} {F : Hp} {σ : St} {H : Hp} (h : Holds K e env T F σ H) (p : T.Perm T') : Holds K e env T' F σ H :=
  ⟨h.fh, h.len, h.slots, fun x hx => h.temps x (p.mem_iff.mpr hx), ((ownedT_perm p).append_left _).nodup h.nd, h.s1, h.s2, fun a ha => h.s3 a (((ownedT_perm p).append_left _).mem_iff.mpr ha)⟩
abbrev DX := Str → Env' → Prop
abbrev DT := DX → Env' → (Sl → Env' → Prop) → Prop
abbrev DTT := DX → Env' → (Bool → Env' → Prop) → Prop
abbrev DTA := DX → Env' → (List Sl → Env' → Prop) → Prop
def Link (K : PySem.W.Frag) (e : Ent) (W : WX) (Ex : DX) : Prop := ∀ c env F σ H, Holds K e env [] F σ H → Ex c env → W (clsV K c) none σ H
def Im (K : PySem.W.Frag) (W : WX) (te : TE) (t : DT) : Prop :=
  ∀ (e : Ent) (Ex : DX), Link K e W Ex → ∀ (env : Env') (T : Tmp) (F : Hp) (σ : St) (H : Hp) (Q : Sl → Env' → Prop) (R : VK),
    Holds K e env T F σ H → t Ex env Q → (∀ v H' F' env' sl, Holds K e env' ((v, sl) :: T) F' σ H' → Q sl env' → R v H') → te σ H R
def ImT (K : PySem.W.Frag) (W : WX) (tt : TT) (t : DTT) : Prop :=
  ∀ (e : Ent) (Ex : DX), Link K e W Ex → ∀ (env : Env') (T : Tmp) (F : Hp) (σ : St) (H : Hp) (Q : Bool → Env' → Prop) (R : Bool → Hp → Prop),
    Holds K e env T F σ H → t Ex env Q → (∀ b H' F' env', Holds K e env' T F' σ H' → Q b env' → R b H') → tt σ H R
def ImA (K : PySem.W.Frag) (W : WX) (ta : TA) (t : DTA) : Prop :=
  ∀ (e : Ent) (Ex : DX), Link K e W Ex → ∀ (env : Env') (T : Tmp) (F : Hp) (σ : St) (H : Hp) (Q : List Sl → Env' → Prop) (R : List V → Hp → Prop),
    Holds K e env T F σ H → t Ex env Q → (∀ vs H' F' env' xs, vs.length = xs.length → Holds K e env' (vs.zip xs ++ T) F' σ H' → Q xs env' → R vs H') → ta σ H R
structure GG where
  P : Program
  w : World
  K : PySem.W.Frag
  mg : Str → Option Value
  base : Heap
structure SC where
  sc : Scope
  own : Str → Bool
  top : Bool
abbrev fnS (sc : Scope) : SC := ⟨sc, fun _ => true, true⟩
def relab (scope sc : Scope) : Scope :=
  { scope with names := scope.names.map fun (n, k) => if (k == .free && sc.kind == .function && sc.names.lookup n == some .cell) then (n, .cell) else (n, k) }
abbrev lcS (scope : Scope) (sc : SC) : SC := ⟨relab scope sc.sc, fun x => scope.names.lookup x == some .cell, false⟩
structure Sit (G : GG) (N : List Str) (sc : SC) (W : WX) (k : Nat) (X : Cx) : Prop where
  prog : X.prog = G.P
  w : X.w = G.w
  K : X.K = G.K
  mg : X.mg = G.mg
  base : X.base = G.base
  nms : X.N = N
  nd : N.Nodup
  scp : X.env.scope = sc.sc
  calm : X.calm = true
  room : Room k X.A
  tk : Takes X W
  fn : ∀ x, sc.own x = true → X.fn x = true
  own : PassesOwn (model X.prog X.w) X.A X.env X.xe
  stk : sc.top = true → X.stack = X.env :: X.outer ∧ X.env.frame = some X.env.locals
  gd : X.A.guards = some []
structure DE (G : GG) (N : List Str) (sc : SC) (k : Nat) (e : Expr) (t : DT) : Prop where
  ex : ∀ W : WX, ∃ te, (∀ X, Sit G N sc W k X → PE X e te) ∧ Im G.K W te t
structure DTe (G : GG) (N : List Str) (sc : SC) (k : Nat) (e : Expr) (t : DTT) : Prop where
  ex : ∀ W : WX, ∃ te, (∀ X, Sit G N sc W k X → PT X e te) ∧ ImT G.K W te t
structure DAs (G : GG) (N : List Str) (sc : SC) (k : Nat) (es : List Expr) (t : DTA) : Prop where
  ex : ∀ W : WX, ∃ te, (∀ X, Sit G N sc W k X → PA X es te) ∧ ImA G.K W te t
section
variable {G : GG} {N : List Str} {sc : SC} {k : Nat}
def dC (d : D) : DT := fun _ env Q => Q (.ext d) env
def dVar (i : Nat) : DT := fun _ env Q => match env[i]? with
  | some (.ext d) => Q (.ext d) env
  | some (.lst a _) => Q (.al i a) env
  | _ => False
theorem im_const {K : PySem.W.Frag} {W : WX} {v : V} {d : D} (h : ∀ F, Rep K F d v) : Im K W (tC v) (dC d) :=
  fun e Ex _ env T F σ H Q R hh ht hR => hR v H F env (.ext d) (hh.pushE (h F)) ht
theorem im_var {K : PySem.W.Frag} {W : WX} (i : Nat) : Im K W (tVar i) (dVar i) := fun e Ex _ env T F σ H Q R hh ht hR => by
  unfold dVar at ht
  split at ht
  · rename_i d q
    rcases hh.slots i _ q with z | ⟨v, hv, ok⟩
    · cases z
    · exact ⟨v, hv, hR v H F env (.ext d) (hh.pushE ok) ht⟩
  · rename_i a ds q
    rcases hh.slots i _ q with z | ⟨v, hv, ok⟩
    · cases z
    · obtain ⟨rfl, _⟩ := ok
      exact ⟨_, hv, hR _ H F env (.al i a) hh.pushA ht⟩
  · exact ht.elim
theorem Sit.vis {W : WX} {X : Cx} {x : Str} (S : Sit G N sc W k X) (h : Vis sc.sc x) : Vis X.env.scope x := by rw [S.scp]; exact h
theorem de_var (i : Nat) {x : Str} {pos : Pos} (hN : N[i]? = some x := by rfl) (hv : Vis sc.sc x := by first | exact Or.inl rfl | exact Or.inr (Or.inl rfl) | exact Or.inr (Or.inr rfl))
    (hd : (x == ("__debug__" : Str)) = false := by decide) (hcd : (x == ("__classdict__" : Str)) = false := by decide) : DE G N sc k (.Name x pos) (dVar i) :=
  ⟨fun W => ⟨tVar i, fun X S => pe_var (by rw [S.nms]; exact hN) (S.vis hv) hd hcd, im_var i⟩⟩
theorem de_int {i j pos} : DE G N sc k (.Constant (.int i) j pos) (dC (.int i)) := ⟨fun _ => ⟨_, fun _ _ => pe_int, im_const fun _ => rfl⟩⟩
theorem de_bl {i j pos} : DE G N sc k (.Constant (.bool i) j pos) (dC (.bl i)) := ⟨fun _ => ⟨_, fun _ _ => pe_bl, im_const fun _ => rfl⟩⟩
theorem de_non {j pos} : DE G N sc k (.Constant .none j pos) (dC .non) := ⟨fun _ => ⟨_, fun _ _ => pe_non, im_const fun _ => rfl⟩⟩
theorem de_str {i j pos} : DE G N sc k (.Constant (.str i) j pos) (dC (.str i)) := ⟨fun _ => ⟨_, fun _ _ => pe_str, im_const fun _ => rfl⟩⟩
def GlS (sc : SC) (x : Str) : Prop := sc.sc.names.lookup x = some .globalImplicit
theorem Sit.gl {W : WX} {X : Cx} {x : Str} (S : Sit G N sc W k X) (h : GlS sc x) : Gl X x := by
  show X.env.scope.names.lookup x = some .globalImplicit
  rw [S.scp]
  exact h
theorem de_glob {x : Str} {v : V} {u : Value} {d : D} {pos : Pos} (hg : GlS sc x) (hm : G.mg x = some u) (r : RelV v u) (hr : ∀ F, Rep G.K F d v) (hd : (x == ("__debug__" : Str)) = false := by decide) : DE G N sc k (.Name x pos) (dC d) :=
  ⟨fun _ => ⟨tC v, fun X S => pe_glob (S.gl hg) (by rw [S.mg]; exact hm) r hd, im_const hr⟩⟩
theorem de_bltn {x : Str} {v : V} {u : Value} {pos : Pos} (hg : GlS sc x) (hm : G.mg x = none) (hv : bootBuiltins x = some u) (r : RelV v u) (hn : x ≠ "__name__" := by decide) (hd : (x == ("__debug__" : Str)) = false := by decide) : DE G N sc k (.Name x pos) (dC (.val v)) :=
  ⟨fun _ => ⟨tC v, fun X S => pe_bltn (S.gl hg) (by rw [S.mg]; exact hm) hv r hn hd, im_const fun _ => rfl⟩⟩
def dNil : DTA := fun _ env Q => Q [] env
def dCons (t : DT) (u : DTA) : DTA := fun Ex env Q => t Ex env fun x env1 => u Ex env1 fun xs env2 => Q (x :: xs) env2
theorem im_nil {K : PySem.W.Frag} {W : WX} : ImA K W tNil dNil := fun e Ex _ env T F σ H Q R hh ht hR => hR [] H F env [] rfl hh ht
theorem im_cons {K : PySem.W.Frag} {W : WX} {te : TE} {ta : TA} {t : DT} {u : DTA} (h1 : Im K W te t) (h2 : ImA K W ta u) : ImA K W (tCons te ta) (dCons t u) := fun e Ex hl env T F σ H Q R hh ht hR => by
  refine h1 e Ex hl env T F σ H _ _ hh ht fun v H1 F1 env1 sl hh1 q1 => ?_
  refine h2 e Ex hl env1 _ F1 σ H1 _ _ hh1 q1 fun vs H2 F2 env2 xs le hh2 q2 => ?_
  exact hR (v :: vs) H2 F2 env2 (sl :: xs) (by rw [List.length_cons, List.length_cons, le]) (hh2.perm List.perm_middle) q2
theorem da_nil : DAs G N sc k [] dNil := ⟨fun _ => ⟨tNil, fun _ _ => pa_nil, im_nil⟩⟩
abbrev NoStar (e : Expr) (es : List Expr) : Prop := ∀ env, starEach (e :: es) env = (false, eval e env) :: starEach es env
theorem da_cons {e : Expr} {es : List Expr} {t : DT} {u : DTA} (h1 : DE G N sc k e t) (h2 : DAs G N sc k es u) (hs : NoStar e es := by intro _; rfl) : DAs G N sc k (e :: es) (dCons t u) :=
  ⟨fun W => by
    obtain ⟨te, p1, i1⟩ := h1.ex W
    obtain ⟨ta, p2, i2⟩ := h2.ex W
    exact ⟨tCons te ta, fun X S => pa_cons (p1 X S) (p2 X S) (hs _), im_cons i1 i2⟩⟩
theorem cellOf_mem : ∀ {cs : List (Addr × OC)} {b : Addr} {oc : OC}, cellOf cs b = some oc → (b, oc) ∈ cs
  | [], _, _, h => nomatch h
  | p :: r, b, oc, h => by
    unfold cellOf at h
    split at h
    · rename_i e
      cases h
      rw [← e]
      exact List.mem_cons_self
    · exact List.mem_cons_of_mem _ (cellOf_mem h)
theorem Holds.cell {K : PySem.W.Frag} {e : Ent} {env : Env'} {T : Tmp} {F : Hp} {σ : St} {H : Hp} {i : Nat} {d : D} {cs : List (Addr × OC)} {b : Addr} {oc : OC} (h : Holds K e env T F σ H) (hi : env[i]? = some (.reg d cs)) (hc : cellOf cs b = some oc) : F b = none ∧ ∃ o, H b = some o ∧ OC.ok K F b oc o := by
  rcases h.slots i _ hi with z | ⟨v, _, _, _, ok⟩
  · cases z
  · exact ok (b, oc) (cellOf_mem hc)
def RepT (K : PySem.W.Frag) (F H : Hp) (d : D) (v : V) : Prop := Rep K F d v ∨ ∃ a ds vs, d = .lst ds ∧ v = .ref a ∧ H a = some (.lst vs) ∧ Reps K F ds vs
def RepTs (K : PySem.W.Frag) (F H : Hp) : List D → List V → Prop
  | [], vs => vs = []
  | d :: ds, vs => ∃ v r, vs = v :: r ∧ RepT K F H d v ∧ RepTs K F H ds r
def wd (env : Env') (sl : Sl) (k : D → Prop) : Prop := match sl with
  | .ext d => k d
  | .lst _ ds => k (.lst ds)
  | .al i a => match env[i]? with
    | some (.lst b ds) => b = a ∧ k (.lst ds)
    | _ => False
  | .un => False
  | .reg _ _ => False
  | .ar i b => match env[i]? with
    | some (.reg _ cs) => match cellOf cs b with
      | some (.lst ds) => k (.lst ds)
      | _ => False
    | _ => False
def wds (env : Env') : List Sl → (List D → Prop) → Prop
  | [], k => k []
  | s :: ss, k => wd env s fun d => wds env ss fun ds => k (d :: ds)
theorem Holds.wd {K : PySem.W.Frag} {e : Ent} {env : Env'} {T : Tmp} {F : Hp} {σ : St} {H : Hp} {v : V} {sl : Sl} {q : D → Prop} (h : Holds K e env T F σ H) (m : (v, sl) ∈ T) (w : HD.wd env sl q) : ∃ d, RepT K F H d v ∧ q d := by
  have ok := h.temps _ m
  cases sl with
  | un => exact w.elim
  | reg _ _ => exact w.elim
  | ar i b =>
    have w' : (match env[i]? with | some (.reg _ cs) => (match cellOf cs b with | some (.lst ds) => q (.lst ds) | _ => False) | _ => False) := w
    split at w'
    · rename_i d cs hb
      split at w'
      · rename_i ds hc
        obtain ⟨_, o, ho, vs, rfl, hr⟩ := h.cell hb hc
        exact ⟨.lst ds, .inr ⟨b, ds, vs, rfl, ok, ho, hr⟩, w'⟩
      · exact w'.elim
    · exact w'.elim
  | ext d => exact ⟨d, .inl ok, w⟩
  | lst a ds =>
    obtain ⟨e1, _, vs, hv, hr⟩ := ok
    exact ⟨.lst ds, .inr ⟨a, ds, vs, rfl, e1, hv, hr⟩, w⟩
  | al i a =>
    have w' : (match env[i]? with | some (.lst b ds) => b = a ∧ q (.lst ds) | _ => False) := w
    split at w'
    · rename_i b ds hb
      obtain ⟨rfl, w'⟩ := w'
      rcases h.slots i _ hb with z | ⟨u, hu, e1, _, vs, hv, hr⟩
      · cases z
      · exact ⟨.lst ds, .inr ⟨b, ds, vs, rfl, ok, hv, hr⟩, w'⟩
    · exact w'.elim
theorem Holds.wds {K : PySem.W.Frag} {e : Ent} {env : Env'} {T : Tmp} {F : Hp} {σ : St} {H : Hp} (h : Holds K e env T F σ H) : ∀ {vs : List V} {xs : List Sl} {q : List D → Prop}, vs.length = xs.length → (∀ p ∈ vs.zip xs, p ∈ T) → HD.wds env xs q → ∃ ds, RepTs K F H ds vs ∧ q ds
  | [], [], q, _, _, w => ⟨[], rfl, w⟩
  | [], _ :: _, _, e, _, _ => by cases e
  | _ :: _, [], _, e, _, _ => by cases e
  | v :: vs, x :: xs, q, e, m, w => by
    obtain ⟨d, r1, w1⟩ := h.wd (m (v, x) List.mem_cons_self) w
    obtain ⟨ds, r2, w2⟩ := Holds.wds h (by simpa using e) (fun p hp => m p (List.mem_cons_of_mem _ hp)) w1
    exact ⟨d :: ds, ⟨v, vs, rfl, r1, r2⟩, w2⟩
section
variable {K : PySem.W.Frag} {F H : Hp} {v : V}
theorem RepT.int {i : Int} (h : RepT K F H (.int i) v) : v = .int i := by
  rcases h with h | ⟨_, _, _, z, _⟩
  · exact h
  · cases z
theorem RepT.str {x : Str} (h : RepT K F H (.str x) v) : v = .str x := by
  rcases h with h | ⟨_, _, _, z, _⟩
  · exact h
  · cases z
theorem RepT.bl {x : Bool} (h : RepT K F H (.bl x) v) : v = .bl x := by
  rcases h with h | ⟨_, _, _, z, _⟩
  · exact h
  · cases z
theorem RepT.non (h : RepT K F H .non v) : v = .non := by
  rcases h with h | ⟨_, _, _, z, _⟩
  · exact h
  · cases z
theorem RepT.val {x : V} (h : RepT K F H (.val x) v) : v = x := by
  rcases h with h | ⟨_, _, _, z, _⟩
  · exact h
  · cases z
theorem RepT.tup {ds : List D} (fh : Same F H) (h : RepT K F H (.tup ds) v) : ∃ a vs, v = .ref a ∧ SqT K H a vs ∧ TupD K F a vs ∧ Reps K F ds vs := by
  rcases h with ⟨a, vs, e, hs, hr⟩ | ⟨_, _, _, z, _⟩
  · exact ⟨a, vs, e, SqT.same fh hs.sq, hs, hr⟩
  · cases z
theorem RepT.tk {ds : List D} (fh : Same F H) (h : RepT K F H (.tk ds) v) : ∃ a vs, v = .ref a ∧ SqT K H a vs ∧ SqT K F a vs ∧ Reps K F ds vs := by
  rcases h with ⟨a, vs, e, hs, hr⟩ | ⟨_, _, _, z, _⟩
  · exact ⟨a, vs, e, SqT.same fh hs, hs, hr⟩
  · cases z
theorem RepT.lst {ds : List D} (fh : Same F H) (h : RepT K F H (.lst ds) v) : ∃ a vs, v = .ref a ∧ H a = some (.lst vs) ∧ Reps K F ds vs := by
  rcases h with ⟨a, vs, e, hs, hr⟩ | ⟨a, ds', vs, z, e, hs, hr⟩
  · exact ⟨a, vs, e, fh _ _ hs, hr⟩
  · cases z
    exact ⟨a, vs, e, hs, hr⟩
theorem RepT.fz {ds : List D} (fh : Same F H) (h : RepT K F H (.fz ds) v) : ∃ a vs, v = .ref a ∧ SqL K H a vs ∧ Reps K F ds vs := by
  rcases h with ⟨a, vs, e, hs, hr⟩ | ⟨a, ds', vs, z, e, hs, hr⟩
  · exact ⟨a, vs, e, fh.seq hs, hr⟩
  · cases z
theorem RepT.rep {d : D} (fh : Same F H) (h : RepT K F H d v) : Rep K H d v := by
  rcases h with h | ⟨a, ds, vs, rfl, rfl, hs, hr⟩
  · exact Rep.same fh h
  · exact ⟨a, vs, rfl, hs, hr.same fh⟩
theorem RepTs.one {d : D} {vs : List V} (h : RepTs K F H [d] vs) : ∃ v, vs = [v] ∧ RepT K F H d v := by
  obtain ⟨v, r, rfl, h1, h2⟩ := h
  have z : r = [] := h2
  exact ⟨v, by rw [z], h1⟩
theorem RepTs.two {d d' : D} {vs : List V} (h : RepTs K F H [d, d'] vs) : ∃ v v', vs = [v, v'] ∧ RepT K F H d v ∧ RepT K F H d' v' := by
  obtain ⟨v, r, rfl, h1, h2⟩ := h
  obtain ⟨v', e, h3⟩ := RepTs.one h2
  exact ⟨v, v', by rw [e], h1, h3⟩
end
def After (K : PySem.W.Frag) (F H : Hp) (Q : Sl → Prop) (R : VK) : Prop :=
  ∀ v F1 H1 sl, Grow F H F1 H1 → SlOk K F1 H1 v sl → (∀ a ∈ sl.owned, H a = none) → Q sl → R v H1
def Pr (K : PySem.W.Frag) (r : List V → Hp → VK → Prop) (f : List D → (Sl → Prop) → Prop) : Prop :=
  ∀ F H vs ds (Q : Sl → Prop) (R : VK), Same F H → RepTs K F H ds vs → f ds Q → After K F H Q R → r vs H R
def Pr2 (K : PySem.W.Frag) (r : R2) (f : D → D → (Sl → Prop) → Prop) : Prop :=
  ∀ F H v u d d' (Q : Sl → Prop) (R : VK), Same F H → RepT K F H d v → RepT K F H d' u → f d d' Q → After K F H Q R → r v u H R
section
variable {K : PySem.W.Frag} {F H : Hp} {Q : Sl → Prop} {R : VK}
theorem After.ext (h : After K F H Q R) (fh : Same F H) {v : V} {d : D} (r : Rep K F d v) (q : Q (.ext d)) : R v H := h v F H (.ext d) (Grow.refl fh) r (fun _ z => nomatch z) q
theorem After.int (h : After K F H Q R) (fh : Same F H) {i : Int} (q : Q (.ext (.int i))) : R (.int i) H := h.ext (d := .int i) fh rfl q
theorem After.bl (h : After K F H Q R) (fh : Same F H) {i : Bool} (q : Q (.ext (.bl i))) : R (.bl i) H := h.ext (d := .bl i) fh rfl q
theorem After.str (h : After K F H Q R) (fh : Same F H) {i : Str} (q : Q (.ext (.str i))) : R (.str i) H := h.ext (d := .str i) fh rfl q
theorem After.lst (h : After K F H Q R) (fh : Same F H) {p : Addr} {ds : List D} {vs : List V} (n : H p = none) (r : Reps K F ds vs) (q : Q (.lst p ds)) : R (.ref p) (upd H p (.lst vs)) :=
  h _ F _ (.lst p ds) (Grow.loose fh n) ⟨rfl, fh.free n, vs, upd_same, r⟩ (fun a z => by rw [List.mem_singleton.mp z]; exact n) q
theorem After.tup (h : After K F H Q R) (fh : Same F H) {ds : List D} {vs : List V} (r : Reps K F ds vs) (q : Q (.ext (.tup ds))) : newT H vs R := fun p o n d =>
  h _ (upd F p (.frz o (.tup vs))) _ (.ext (.tup ds)) (Grow.frozen fh n) ⟨p, vs, rfl, .inl ⟨o, upd_same, d⟩, r.same (Grow.frozen fh n).ff⟩ (fun _ z => nomatch z) q
theorem After.more (h : After K F H Q R) {p : Addr} {o : HO} (fh : Same F H) (n : H p = none) : After K F (upd H p o) Q R := fun v F1 H1 sl g ok own q =>
  h v F1 H1 sl ((Grow.loose fh n).trans g) ok (fun a ha => (Grow.loose fh n).hh.free (own a ha)) q
end
theorem Holds.done {K : PySem.W.Frag} {e : Ent} {env : Env'} {T : Tmp} {F : Hp} {σ : St} {H : Hp} {Q : Sl → Env' → Prop} {R : VK} (h : Holds K e env T F σ H) (hR : ∀ v H' F' env' sl, Holds K e env' ((v, sl) :: T) F' σ H' → Q sl env' → R v H') : After K F H (fun sl => Q sl env) R :=
  fun v F1 H1 sl g ok own q => hR v H1 F1 env sl (h.push g ok own) q
def dOp (f : D → D → (Sl → Prop) → Prop) (ta tb : DT) : DT := fun Ex env Q => ta Ex env fun x env1 => tb Ex env1 fun y env2 => wd env2 x fun d => wd env2 y fun d' => f d d' fun sl => Q sl env2
theorem im_op {K : PySem.W.Frag} {W : WX} {r : R2} {f : D → D → (Sl → Prop) → Prop} {ta tb : TE} {sa sb : DT} (hr : Pr2 K r f) (ha : Im K W ta sa) (hb : Im K W tb sb) : Im K W (tOp r ta tb) (dOp f sa sb) := fun e Ex hl env T F σ H Q R hh ht hR => by
  refine ha e Ex hl env T F σ H _ _ hh ht fun v H1 F1 env1 x hh1 q1 => ?_
  refine hb e Ex hl env1 _ F1 σ H1 _ _ hh1 q1 fun u H2 F2 env2 y hh2 q2 => ?_
  obtain ⟨d, rd, q3⟩ := hh2.wd (v := v) (sl := x) (List.mem_cons_of_mem _ List.mem_cons_self) q2
  obtain ⟨d', rd', q4⟩ := hh2.wd (v := u) (sl := y) List.mem_cons_self q3
  exact hr F2 H2 v u d d' _ R hh2.fh rd rd' q4 (hh2.pop.pop.done hR)
theorem Sit.units {W : WX} {X : Cx} (S : Sit G N sc W k X) : X.A.units + 64 < cLine := S.room.units
end
end HD
namespace HD
open PySem L2
def fAdd : D → D → (Sl → Prop) → Prop
  | .int i, .int j, Q => Q (.ext (.int (i + j)))
  | .str x, .str y, Q => x.length + y.length ≤ sizeLine ∧ Q (.ext (.str (x ++ y)))
  | .lst xs, .lst ys, Q => xs.length + ys.length ≤ sizeLine ∧ ∀ a, Q (.lst a (xs ++ ys))
  | .tup xs, .tup ys, Q => xs.length + ys.length ≤ sizeLine ∧ Q (.ext (.tup (xs ++ ys)))
  | _, _, _ => False
def rAddD (K : PySem.W.Frag) : R2 := fun x y H Q => (rI0 fun i j => .int (i + j)) x y H Q ∨ (∃ i j, x = .str i ∧ y = .str j ∧ i.length + j.length ≤ sizeLine ∧ Q (.str (i ++ j)) H) ∨ rCat x y H Q ∨ rCatF K x y H Q
theorem op_addD {X : Cx} : OpR X (binaryOp .Add) (rAddD X.K) := op_add.or (op_add_str.or (op_cat.or op_catF))
theorem pr_add {K : PySem.W.Frag} : Pr2 K (rAddD K) fAdd := fun F H v u d d' Q R fh h1 h2 hf ha => by
  unfold fAdd at hf
  split at hf
  · exact .inl ⟨_, _, h1.int, h2.int, ha.int fh hf⟩
  · exact .inr (.inl ⟨_, _, h1.str, h2.str, hf.1, ha.str fh hf.2⟩)
  · obtain ⟨a, vs, rfl, e1, r1⟩ := h1.lst fh
    obtain ⟨b, us, rfl, e2, r2⟩ := h2.lst fh
    exact .inr (.inr (.inl ⟨a, b, vs, us, rfl, rfl, e1, e2, by rw [← r1.length, ← r2.length]; exact hf.1, fun p n => ha.lst fh n (r1.append r2) (hf.2 p)⟩))
  · obtain ⟨a, vs, rfl, e1, e1', r1⟩ := h1.tup fh
    obtain ⟨b, us, rfl, e2, e2', r2⟩ := h2.tup fh
    refine .inr (.inr (.inr ⟨a, b, vs, us, rfl, rfl, e1, e2, by rw [← r1.length, ← r2.length]; exact hf.1, fun z => ?_, fun _ z => ?_, fun _ _ => ha.tup fh (r1.append r2) hf.2⟩))
    · refine ha.ext (d := .tup _) fh ⟨b, us, rfl, e2', ?_⟩ hf.2
      have q := r1.append r2
      rw [z] at q
      exact q
    · refine ha.ext (d := .tup _) fh ⟨a, vs, rfl, e1', ?_⟩ hf.2
      have q := r1.append r2
      rw [z, List.append_nil] at q
      exact q
  · exact hf.elim
def fSub : D → D → (Sl → Prop) → Prop
  | .int i, .int j, Q => Q (.ext (.int (i - j)))
  | _, _, _ => False
theorem pr_sub {K : PySem.W.Frag} : Pr2 K (rI0 fun i j => .int (i - j)) fSub := fun F H v u d d' Q R fh h1 h2 hf ha => by
  unfold fSub at hf
  split at hf
  · exact ⟨_, _, h1.int, h2.int, ha.int fh hf⟩
  · exact hf.elim
def fMul : D → D → (Sl → Prop) → Prop
  | .int i, .int j, Q => CMulW i j ∧ Q (.ext (.int (i * j)))
  | .lst xs, .int k, Q => k < 2 ^ 63 ∧ 0 ≤ k ∧ xs.length * k.toNat ≤ sizeLine ∧ ∀ a, Q (.lst a (List.replicate k.toNat xs).flatten)
  | _, _, _ => False
theorem Reps.rep {K : PySem.W.Frag} {F : Hp} {ds : List D} {vs : List V} (h : Reps K F ds vs) : ∀ k : Nat, Reps K F (List.replicate k ds).flatten (List.replicate k vs).flatten
  | 0 => rfl
  | k + 1 => by
    rw [List.replicate_succ, List.replicate_succ, List.flatten_cons, List.flatten_cons]
    exact h.append (Reps.rep h k)
theorem pr_mul {K : PySem.W.Frag} : Pr2 K (fun x y H Q => (rI CMulW fun i j => .int (i * j)) x y H Q ∨ rRep x y H Q) fMul := fun F H v u d d' Q R fh h1 h2 hf ha => by
  unfold fMul at hf
  split at hf
  · exact .inl ⟨_, _, h1.int, h2.int, hf.1, ha.int fh hf.2⟩
  · obtain ⟨a, vs, rfl, e1, r1⟩ := h1.lst fh
    obtain ⟨hf1, hf0, hf2, hf3⟩ := hf
    exact .inr ⟨a, _, vs, rfl, h2.int, e1, Int.le_trans (by decide) hf0, hf1, by rw [← r1.length]; exact hf2, fun p n => ha.lst fh n (r1.rep _) (hf3 p)⟩
  · exact hf.elim
theorem op_mulD {X : Cx} : OpR X (binaryOp .Mult) (fun x y H Q => (rI CMulW fun i j => .int (i * j)) x y H Q ∨ rRep x y H Q) := op_mulW.or op_rep
def fDiv : D → D → (Sl → Prop) → Prop
  | .int i, .int j, Q => CDivW i j ∧ Q (.ext (.int (i / j)))
  | _, _, _ => False
theorem pr_div {K : PySem.W.Frag} : Pr2 K (rI CDivW fun i j => .int (i / j)) fDiv := fun F H v u d d' Q R fh h1 h2 hf ha => by
  unfold fDiv at hf
  split at hf
  · exact ⟨_, _, h1.int, h2.int, hf.1, ha.int fh hf.2⟩
  · exact hf.elim
def fMod : D → D → (Sl → Prop) → Prop
  | .int i, .int j, Q => 0 < j ∧ Q (.ext (.int (i % j)))
  | _, _, _ => False
theorem pr_mod {K : PySem.W.Frag} : Pr2 K (rI (fun _ j => 0 < j) fun i j => .int (i % j)) fMod := fun F H v u d d' Q R fh h1 h2 hf ha => by
  unfold fMod at hf
  split at hf
  · exact ⟨_, _, h1.int, h2.int, hf.1, ha.int fh hf.2⟩
  · exact hf.elim
def fPow : D → D → (Sl → Prop) → Prop
  | .int i, .int j, Q => CPow i j ∧ Q (.ext (.int (i ^ j.toNat)))
  | _, _, _ => False
theorem pr_pow {K : PySem.W.Frag} : Pr2 K (rI CPow fun i j => .int (i ^ j.toNat)) fPow := fun F H v u d d' Q R fh h1 h2 hf ha => by
  unfold fPow at hf
  split at hf
  · exact ⟨_, _, h1.int, h2.int, hf.1, ha.int fh hf.2⟩
  · exact hf.elim
section
variable {G : GG} {N : List Str} {sc : SC} {k : Nat} {a b : Expr} {ta tb : DT} {pos : Pos}
theorem de_bin {op : Operator} {r : PySem.W.Frag → R2} {f : D → D → (Sl → Prop) → Prop} (hr : ∀ K, Pr2 K (r K) f) (ho : ∀ X : Cx, OpR X (binaryOp op) (r X.K)) (ha : DE G N sc k a ta) (hb : DE G N sc k b tb) : DE G N sc k (.BinOp a op b pos) (dOp f ta tb) :=
  ⟨fun W => by
    obtain ⟨te, p1, i1⟩ := ha.ex W
    obtain ⟨tf, p2, i2⟩ := hb.ex W
    exact ⟨tOp (r G.K) te tf, fun X S => pe_op (by rw [← S.K]; exact ho X) (p1 X S) (p2 X S), im_op (hr _) i1 i2⟩⟩
theorem de_add (ha : DE G N sc k a ta) (hb : DE G N sc k b tb) : DE G N sc k (.BinOp a .Add b pos) (dOp fAdd ta tb) := de_bin (r := rAddD) (fun _ => pr_add) (fun _ => op_addD) ha hb
theorem de_sub (ha : DE G N sc k a ta) (hb : DE G N sc k b tb) : DE G N sc k (.BinOp a .Sub b pos) (dOp fSub ta tb) := de_bin (r := fun _ => _) (fun _ => pr_sub) (fun _ => op_sub) ha hb
theorem de_mul (ha : DE G N sc k a ta) (hb : DE G N sc k b tb) : DE G N sc k (.BinOp a .Mult b pos) (dOp fMul ta tb) := de_bin (r := fun _ => _) (fun _ => pr_mul) (fun _ => op_mulD) ha hb
theorem de_div (ha : DE G N sc k a ta) (hb : DE G N sc k b tb) : DE G N sc k (.BinOp a .FloorDiv b pos) (dOp fDiv ta tb) := de_bin (r := fun _ => _) (fun _ => pr_div) (fun _ => op_fdivW) ha hb
theorem de_mod (ha : DE G N sc k a ta) (hb : DE G N sc k b tb) : DE G N sc k (.BinOp a .Mod b pos) (dOp fMod ta tb) := de_bin (r := fun _ => _) (fun _ => pr_mod) (fun _ => op_mod) ha hb
theorem de_pow (ha : DE G N sc k a ta) (hb : DE G N sc k b tb) : DE G N sc k (.BinOp a .Pow b pos) (dOp fPow ta tb) := de_bin (r := fun _ => _) (fun _ => pr_pow) (fun _ => op_pow) ha hb
end
def dNeg (ta : DT) : DT := fun Ex env Q => ta Ex env fun x env1 => wd env1 x fun d => match d with
  | .int i => Q (.ext (.int (-i))) env1
  | _ => False
mutual
def D.py : D → PyData
  | .non => .none
  | .bl b => .bool b
  | .int i => .int i
  | .str x => .str x
  | .val _ => .none
  | .lst ds => .list (D.pys ds)
  | .fz ds => .list (D.pys ds)
  | .tup ds => .tuple (D.pys ds)
  | .tk ds => .tuple (D.pys ds)
  | .exc _ => .none
  | .glo _ => .none
  | .dk _ _ => .none
  | .dt _ _ => .none
def D.pys : List D → List PyData
  | [] => []
  | d :: ds => D.py d :: D.pys ds
end
mutual
def D.noVal : D → Bool
  | .val _ => false
  | .exc _ => false
  | .glo _ => false
  | .dk _ _ => false
  | .dt _ _ => false
  | .lst ds => D.noVals ds
  | .fz ds => D.noVals ds
  | .tup ds => D.noVals ds
  | .tk ds => D.noVals ds
  | _ => true
def D.noVals : List D → Bool
  | [] => true
  | d :: ds => D.noVal d && D.noVals ds
end
section
variable {K : PySem.W.Frag} {H : Hp}
mutual
theorem Rep.dp : ∀ {d : D} {v : V}, d.noVal = true → Rep K H d v → Dp K H v d.py
  | .non, _, _, h => by
    have e : _ = V.non := h
    rw [e]
    exact .non
  | .bl b, _, _, h => by
    have e : _ = V.bl b := h
    rw [e]
    exact .bl b
  | .int b, _, _, h => by
    have e : _ = V.int b := h
    rw [e]
    exact .int b
  | .str b, _, _, h => by
    have e : _ = V.str b := h
    rw [e]
    exact .str b
  | .val _, _, n, _ => nomatch n
  | .exc _, _, n, _ => nomatch n
  | .glo _, _, n, _ => nomatch n
  | .dk _ _, _, n, _ => nomatch n
  | .dt _ _, _, n, _ => nomatch n
  | .lst ds, _, n, h => by
    obtain ⟨a, xs, rfl, hs, hr⟩ := h
    exact .lst (SqL.of hs) (Reps.dp n hr)
  | .fz ds, _, n, h => by
    obtain ⟨a, xs, rfl, hs, hr⟩ := h
    exact .lst hs (Reps.dp n hr)
  | .tup ds, _, n, h => by
    obtain ⟨a, xs, rfl, hs, hr⟩ := h
    exact .tup hs.sq (Reps.dp n hr)
  | .tk ds, _, n, h => by
    obtain ⟨a, xs, rfl, hs, hr⟩ := h
    exact .tup hs (Reps.dp n hr)
theorem Reps.dp : ∀ {ds : List D} {vs : List V}, D.noVals ds = true → Reps K H ds vs → DpAll K H vs (D.pys ds)
  | [], _, _, h => by
    have e : _ = [] := h
    rw [e]
    exact .nil
  | d :: ds, _, n, h => by
    obtain ⟨v, r, rfl, h1, h2⟩ := h
    have n' : (D.noVal d && D.noVals ds) = true := n
    rw [Bool.and_eq_true] at n'
    exact .cons (Rep.dp n'.1 h1) (Reps.dp n'.2 h2)
end
end
def D.cmp (d : D) : Prop := d.noVal = true ∧ SeqAt.shaped d.py = true
def D.eqv (d e : D) : Bool := PyData.eqv d.py e.py
def fEq : D → D → (Sl → Prop) → Prop
  | .int i, .int j, Q => Q (.ext (.bl (i == j)))
  | .str i, .str j, Q => Q (.ext (.bl (i == j)))
  | .bl i, .bl j, Q => Q (.ext (.bl (i == j)))
  | d, e, Q => d.cmp ∧ e.cmp ∧ Q (.ext (.bl (d.eqv e)))
def fNe : D → D → (Sl → Prop) → Prop
  | .int i, .int j, Q => Q (.ext (.bl (!(i == j))))
  | .str i, .str j, Q => Q (.ext (.bl (!(i == j))))
  | .bl i, .bl j, Q => Q (.ext (.bl (!(i == j))))
  | d, e, Q => d.cmp ∧ e.cmp ∧ Q (.ext (.bl (!d.eqv e)))
def rEqA (K : PySem.W.Frag) : R2 := fun x y H Q => rEq x y H Q ∨ rEqD K x y H Q
def rNeA (K : PySem.W.Frag) : R2 := fun x y H Q => rNe x y H Q ∨ rNeD K x y H Q
theorem pr_eq {K : PySem.W.Frag} : Pr2 K (rEqA K) fEq := fun F H v u d d' Q R fh h1 h2 hf ha => by
  unfold fEq at hf
  split at hf
  · rw [h1.int, h2.int]
    exact .inl ⟨rfl, by rw [dec_int]; exact ha.bl fh hf⟩
  · rw [h1.str, h2.str]
    exact .inl ⟨rfl, by rw [dec_str]; exact ha.bl fh hf⟩
  · rw [h1.bl, h2.bl]
    exact .inl ⟨rfl, by rw [dec_bl]; exact ha.bl fh hf⟩
  · obtain ⟨c1, c2, q⟩ := hf
    exact .inr ⟨d.py, d'.py, Rep.dp c1.1 (h1.rep fh), Rep.dp c2.1 (h2.rep fh), c1.2, c2.2, ha.bl fh q⟩
theorem pr_ne {K : PySem.W.Frag} : Pr2 K (rNeA K) fNe := fun F H v u d d' Q R fh h1 h2 hf ha => by
  unfold fNe at hf
  split at hf
  · rw [h1.int, h2.int]
    exact .inl ⟨rfl, by rw [dec_int]; exact ha.bl fh hf⟩
  · rw [h1.str, h2.str]
    exact .inl ⟨rfl, by rw [dec_str]; exact ha.bl fh hf⟩
  · rw [h1.bl, h2.bl]
    exact .inl ⟨rfl, by rw [dec_bl]; exact ha.bl fh hf⟩
  · obtain ⟨c1, c2, q⟩ := hf
    exact .inr ⟨d.py, d'.py, Rep.dp c1.1 (h1.rep fh), Rep.dp c2.1 (h2.rep fh), c1.2, c2.2, ha.bl fh q⟩
def fCmp (p : Int → Int → Bool) : D → D → (Sl → Prop) → Prop
  | .int i, .int j, Q => Q (.ext (.bl (p i j)))
  | _, _, _ => False
theorem pr_cmp {K : PySem.W.Frag} {p : Int → Int → Bool} : Pr2 K (rI0 fun i j => .bl (p i j)) (fCmp p) := fun F H v u d d' Q R fh h1 h2 hf ha => by
  unfold fCmp at hf
  split at hf
  · exact ⟨_, _, h1.int, h2.int, ha.bl fh hf⟩
  · exact hf.elim
def D.flat : D → Bool
  | .non => true
  | .bl _ => true
  | .int _ => true
  | .str _ => true
  | _ => false
def D.toV : D → V
  | .non => .non
  | .bl b => .bl b
  | .int i => .int i
  | .str x => .str x
  | .val v => v
  | _ => .non
def D.isIn (x : D) (xs : List D) : Bool := inV x.toV (xs.map D.toV)
def fIn (neg : Bool) : D → D → (Sl → Prop) → Prop
  | d, .lst ds, Q => d.flat = true ∧ ds.all D.flat = true ∧ Q (.ext (.bl (if neg then !d.isIn ds else d.isIn ds)))
  | d, .tup ds, Q => d.flat = true ∧ ds.all D.flat = true ∧ Q (.ext (.bl (if neg then !d.isIn ds else d.isIn ds)))
  | _, _, _ => False
theorem flat_rep {K : PySem.W.Frag} {F : Hp} {d : D} {v : V} (h : Rep K F d v) (f : d.flat = true) : v = d.toV ∧ flatV v = true := by
  cases d with
  | non =>
    have e : v = .non := h
    rw [e]
    exact ⟨rfl, rfl⟩
  | bl b =>
    have e : v = .bl b := h
    rw [e]
    exact ⟨rfl, rfl⟩
  | int b =>
    have e : v = .int b := h
    rw [e]
    exact ⟨rfl, rfl⟩
  | str b =>
    have e : v = .str b := h
    rw [e]
    exact ⟨rfl, rfl⟩
  | val u => exact nomatch f
  | lst ds => exact nomatch f
  | fz ds => exact nomatch f
  | tup ds => exact nomatch f
  | tk ds => exact nomatch f
  | exc c => exact nomatch f
  | glo c => exact nomatch f
  | dk _ _ => exact nomatch f
  | dt _ _ => exact nomatch f
theorem flat_reps {K : PySem.W.Frag} {F : Hp} : ∀ {ds : List D} {vs : List V}, Reps K F ds vs → ds.all D.flat = true → vs = ds.map D.toV ∧ vs.all flatV = true
  | [], _, h, _ => by
    have e : _ = [] := h
    rw [e]
    exact ⟨rfl, rfl⟩
  | d :: ds, _, h, f => by
    obtain ⟨v, r, rfl, h1, h2⟩ := h
    rw [List.all_cons, Bool.and_eq_true] at f
    obtain ⟨e1, f1⟩ := flat_rep h1 f.1
    obtain ⟨e2, f2⟩ := flat_reps h2 f.2
    rw [List.all_cons, f1, f2, List.map_cons, ← e1, ← e2]
    exact ⟨rfl, rfl⟩
theorem pr_in {K : PySem.W.Frag} (neg : Bool) : Pr2 K (rIn K neg) (fIn neg) := fun F H v u d d' Q R fh h1 h2 hf ha => by
  unfold fIn at hf
  split at hf
  · rename_i ds
    obtain ⟨b, us, rfl, e2, r2⟩ := h2.lst fh
    obtain ⟨f1, f2, q⟩ := hf
    obtain ⟨x1, x2⟩ := flat_rep (h1.rep fh) f1
    obtain ⟨y1, y2⟩ := flat_reps r2 f2
    refine ⟨b, us, rfl, .inl (SqL.of e2), x2, y2, ?_⟩
    rw [x1, y1]
    exact ha.bl fh q
  · rename_i ds
    obtain ⟨b, us, rfl, e2, _, r2⟩ := h2.tup fh
    obtain ⟨f1, f2, q⟩ := hf
    obtain ⟨x1, x2⟩ := flat_rep (h1.rep fh) f1
    obtain ⟨y1, y2⟩ := flat_reps r2 f2
    refine ⟨b, us, rfl, .inr e2, x2, y2, ?_⟩
    rw [x1, y1]
    exact ha.bl fh q
  · exact hf.elim
section
variable {G : GG} {N : List Str} {sc : SC} {k : Nat} {a b c : Expr} {ta tb tc : DT} {pos : Pos}
def CmpR (op : CmpOp) (f : D → D → (Sl → Prop) → Prop) : Prop := ∃ r : PySem.W.Frag → R2, (∀ K, Pr2 K (r K) f) ∧ ∀ X : Cx, X.A.units + 64 < cLine → OpR X (compareOp op) (r X.K)
theorem c_eq : CmpR .Eq fEq := ⟨rEqA, fun _ => pr_eq, fun _ h => op_eq.or (op_eqD h)⟩
theorem c_ne : CmpR .NotEq fNe := ⟨rNeA, fun _ => pr_ne, fun _ h => op_ne.or (op_neD h)⟩
theorem c_lt : CmpR .Lt (fCmp fun i j => decide (i < j)) := ⟨fun _ => _, fun _ => pr_cmp, fun _ _ => op_lt⟩
theorem c_le : CmpR .LtE (fCmp fun i j => decide (i ≤ j)) := ⟨fun _ => _, fun _ => pr_cmp, fun _ _ => op_le⟩
theorem c_gt : CmpR .Gt (fCmp fun i j => decide (j < i)) := ⟨fun _ => _, fun _ => pr_cmp, fun _ _ => op_gt⟩
theorem c_ge : CmpR .GtE (fCmp fun i j => decide (j ≤ i)) := ⟨fun _ => _, fun _ => pr_cmp, fun _ _ => op_ge⟩
theorem c_in : CmpR .In (fIn false) := ⟨fun K => rIn K false, fun _ => pr_in false, fun _ _ => op_in_seq⟩
theorem c_notin : CmpR .NotIn (fIn true) := ⟨fun K => rIn K true, fun _ => pr_in true, fun _ _ => op_notIn_seq⟩
def D.knN : D → Bool
  | .val _ => false
  | _ => true
def D.isNon : D → Bool
  | .non => true
  | _ => false
def fIsN : D → D → (Sl → Prop) → Prop
  | d, .non, Q => d.knN = true ∧ Q (.ext (.bl d.isNon))
  | _, _, _ => False
theorem isN_dec {K : PySem.W.Frag} {F : Hp} {d : D} {v : V} (n : d.knN = true) (h : Rep K F d v) : decide (v = .non) = d.isNon := by
  cases d with
  | non =>
    have e : v = .non := h
    rw [e]
    rfl
  | val u => cases n
  | bl b =>
    have e : v = .bl b := h
    rw [e]
    rfl
  | int b =>
    have e : v = .int b := h
    rw [e]
    rfl
  | str b =>
    have e : v = .str b := h
    rw [e]
    exact decide_eq_false fun z => nomatch z
  | lst ds =>
    obtain ⟨a, xs, rfl, _⟩ := h
    rfl
  | fz ds =>
    obtain ⟨a, xs, rfl, _⟩ := h
    rfl
  | tup ds =>
    obtain ⟨a, xs, rfl, _⟩ := h
    rfl
  | tk ds =>
    obtain ⟨a, xs, rfl, _⟩ := h
    rfl
  | exc c =>
    obtain ⟨a, oe, rfl, _⟩ := h
    rfl
  | dk _ _ =>
    obtain ⟨a, _, _, rfl, _⟩ := h
    rfl
  | dt _ _ =>
    obtain ⟨a, _, _, rfl, _⟩ := h
    rfl
  | glo c =>
    have e : v = .ref _ := h
    rw [e]
    rfl
theorem c_is : CmpR .Is fIsN := ⟨fun _ => _, fun K F H v u d d' Q R fh h1 h2 hf ha => by
    unfold fIsN at hf
    split at hf
    · refine ⟨h2.non, ?_⟩
      rw [isN_dec hf.1 (h1.rep fh)]
      exact ha.bl fh hf.2
    · exact hf.elim, fun _ _ => op_isN⟩
def fNotN : D → D → (Sl → Prop) → Prop
  | d, .non, Q => d.knN = true ∧ Q (.ext (.bl (!d.isNon)))
  | _, _, _ => False
theorem de_cmp {op : CmpOp} {f : D → D → (Sl → Prop) → Prop} (hr : CmpR op f) (ha : DE G N sc k a ta) (hb : DE G N sc k b tb) (hm : behindInMarks op b = false := by first | exact nomark _ | rfl) : DE G N sc k (.Compare a [op] [b] pos) (dOp f ta tb) :=
  ⟨fun W => by
    obtain ⟨r, h1, h2⟩ := hr
    obtain ⟨te, p1, i1⟩ := ha.ex W
    obtain ⟨tf, p2, i2⟩ := hb.ex W
    exact ⟨tOp (r G.K) te tf, fun X S => pe_cmpR (by rw [← S.K]; exact h2 X S.units) (p1 X S) (p2 X S) hm, im_op (h1 _) i1 i2⟩⟩
def dTest (t : DT) : DTT := fun Ex env Q => t Ex env fun x env1 => match x with
  | .ext (.bl b) => Q b env1
  | _ => False
theorem imT_of {K : PySem.W.Frag} {W : WX} {te : TE} {t : DT} {tt : TT} (h : Im K W te t) (hs : ∀ σ H Q, te σ H (fun x H1 => ∃ c, x = .bl c ∧ Q c H1) → tt σ H Q) : ImT K W tt (dTest t) := fun e Ex hl env T F σ H Q R hh ht hR => by
  refine hs _ _ _ (h e Ex hl env T F σ H _ _ hh ht fun v H1 F1 env1 x hh1 q1 => ?_)
  cases x with
  | ext d =>
    cases d with
    | bl b => exact ⟨b, hh1.temps (v, .ext (.bl b)) List.mem_cons_self, hR b H1 F1 env1 hh1.pop q1⟩
    | _ => exact q1.elim
  | _ => exact q1.elim
theorem dt_cmp {op : CmpOp} {f : D → D → (Sl → Prop) → Prop} (hr : CmpR op f) (ha : DE G N sc k a ta) (hb : DE G N sc k b tb) (hm : behindInMarks op b = false := by first | exact nomark _ | rfl) : DTe G N sc k (.Compare a [op] [b] pos) (dTest (dOp f ta tb)) :=
  ⟨fun W => by
    obtain ⟨r, h1, h2⟩ := hr
    obtain ⟨te, p1, i1⟩ := ha.ex W
    obtain ⟨tf, p2, i2⟩ := hb.ex W
    exact ⟨tTest (tOp (r G.K) te tf), fun X S => pt_cmpR (by rw [← S.K]; exact h2 X S.units) (p1 X S) (p2 X S) hm, imT_of (im_op (h1 _) i1 i2) fun _ _ _ h => h⟩⟩
theorem dt_val {e : Expr} {t : DT} (h : DE G N sc k e t) (he : ∀ env whole, isTrue e env whole = (do let v ← whole; standAt e.pos; holding [v] (truthy v)) := by intro _ _; rfl) : DTe G N sc k e (dTest t) :=
  ⟨fun W => by
    obtain ⟨te, p1, i1⟩ := h.ex W
    exact ⟨tB te, fun X S => pt_val (p1 X S) (he _), imT_of i1 fun _ _ _ h => h⟩⟩
def dChain (f f' : D → D → (Sl → Prop) → Prop) (ta tb tc : DT) : DT := fun Ex env Q => ta Ex env fun x env1 => tb Ex env1 fun y env2 => wd env2 x fun d => wd env2 y fun d' => f d d' fun z => match z with
  | .ext (.bl true) => tc Ex env2 fun w env3 => wd env3 y fun d1 => wd env3 w fun d2 => f' d1 d2 fun sl => Q sl env3
  | .ext (.bl false) => Q (.ext (.bl false)) env2
  | _ => False
theorem de_chain {op op' : CmpOp} {f f' : D → D → (Sl → Prop) → Prop} (hr : CmpR op f) (hr' : CmpR op' f') (ha : DE G N sc k a ta) (hb : DE G N sc k b tb) (hc : DE G N sc k c tc)
    (hm : lastMarks [op, op'] [b, c] = false := by with_unfolding_all rfl) : DE G N sc k (.Compare a [op, op'] [b, c] pos) (dChain f f' ta tb tc) :=
  ⟨fun W => by
    obtain ⟨r, h1, h2⟩ := hr
    obtain ⟨r', h1', h2'⟩ := hr'
    obtain ⟨te, p1, i1⟩ := ha.ex W
    obtain ⟨tf, p2, i2⟩ := hb.ex W
    obtain ⟨tg, p3, i3⟩ := hc.ex W
    refine ⟨tChain (r G.K) (r' G.K) te tf tg, fun X S => pe_chain (by rw [← S.K]; exact h2 X S.units) (by rw [← S.K]; exact h2' X S.units) (p1 X S) (p2 X S) (p3 X S) hm, fun e Ex hl env T F σ H Q R hh ht hR => ?_⟩
    refine i1 e Ex hl env T F σ H _ _ hh ht fun v H1 F1 env1 x hh1 q1 => ?_
    refine i2 e Ex hl env1 _ F1 σ H1 _ _ hh1 q1 fun u H2 F2 env2 y hh2 q2 => ?_
    obtain ⟨d, rd, q3⟩ := hh2.wd (v := v) (sl := x) (List.mem_cons_of_mem _ List.mem_cons_self) q2
    obtain ⟨d', rd', q4⟩ := hh2.wd (v := u) (sl := y) List.mem_cons_self q3
    refine h1 _ F2 H2 v u d d' _ _ hh2.fh rd rd' q4 fun z F3 H3 sl g ok own q5 => ?_
    have hh3 := hh2.push g ok own
    cases sl with
    | ext dz =>
      cases dz with
      | bl bb =>
        refine ⟨bb, hh3.temps (z, .ext (.bl bb)) List.mem_cons_self, ?_⟩
        cases bb with
        | true =>
          rw [if_pos rfl]
          refine i3 e Ex hl env2 _ F3 σ H3 _ _ hh3.pop q5 fun w H4 F4 env4 x4 hh4 q6 => ?_
          obtain ⟨d1, rd1, q7⟩ := hh4.wd (v := u) (sl := y) (List.mem_cons_of_mem _ List.mem_cons_self) q6
          obtain ⟨d2, rd2, q8⟩ := hh4.wd (v := w) (sl := x4) List.mem_cons_self q7
          exact h1' _ F4 H4 u w d1 d2 _ R hh4.fh rd1 rd2 q8 (hh4.pop.pop.pop.done hR)
        | false =>
          rw [if_neg Bool.false_ne_true]
          exact hR (.bl false) H3 F3 env2 (.ext (.bl false)) (hh3.pop.pop.pop.pushE rfl) q5
      | _ => exact q5.elim
    | _ => exact q5.elim⟩
def dAnd (t u : DTT) : DTT := fun Ex env Q => t Ex env fun b env1 => if b = true then u Ex env1 Q else Q false env1
def dOr (t u : DTT) : DTT := fun Ex env Q => t Ex env fun b env1 => if b = true then Q true env1 else u Ex env1 Q
def dNot (t : DTT) : DTT := fun Ex env Q => t Ex env fun b env1 => Q (!b) env1
structure DWe (G : GG) (N : List Str) (sc : SC) (k : Nat) (e : Expr) (t : DTT) : Prop where
  ex : ∀ W : WX, ∃ te, (∀ X, Sit G N sc W k X → PW X e te) ∧ ImT G.K W te t
variable {rest : List Expr} {t u : DTT}
theorem imT_and {K : PySem.W.Frag} {W : WX} {te tf : TT} (h : ImT K W te t) (g : ImT K W tf u) : ImT K W (tAnd te tf) (dAnd t u) := fun e Ex hl env T F σ H Q R hh ht hR => by
  refine h e Ex hl env T F σ H _ _ hh ht fun b H1 F1 env1 hh1 q1 => ?_
  cases b with
  | true =>
    rw [if_pos rfl] at q1 ⊢
    exact g e Ex hl env1 T F1 σ H1 _ _ hh1 q1 hR
  | false =>
    rw [if_neg Bool.false_ne_true] at q1 ⊢
    exact hR false H1 F1 env1 hh1 q1
theorem imT_or {K : PySem.W.Frag} {W : WX} {te tf : TT} (h : ImT K W te t) (g : ImT K W tf u) : ImT K W (tOr te tf) (dOr t u) := fun e Ex hl env T F σ H Q R hh ht hR => by
  refine h e Ex hl env T F σ H _ _ hh ht fun b H1 F1 env1 hh1 q1 => ?_
  cases b with
  | true =>
    rw [if_pos rfl] at q1 ⊢
    exact hR true H1 F1 env1 hh1 q1
  | false =>
    rw [if_neg Bool.false_ne_true] at q1 ⊢
    exact g e Ex hl env1 T F1 σ H1 _ _ hh1 q1 hR
theorem dw_and1 (h : DTe G N sc k a t) : DWe G N sc k (.BoolOp .And [a] pos) t := ⟨fun W => by
  obtain ⟨te, p1, i1⟩ := h.ex W
  exact ⟨te, fun X S => pw_and1 (p1 X S), i1⟩⟩
theorem dw_or1 (h : DTe G N sc k a t) : DWe G N sc k (.BoolOp .Or [a] pos) t := ⟨fun W => by
  obtain ⟨te, p1, i1⟩ := h.ex W
  exact ⟨te, fun X S => pw_or1 (p1 X S), i1⟩⟩
theorem dw_and (h : DTe G N sc k a t) (g : DWe G N sc k (.BoolOp .And (b :: rest) pos) u) : DWe G N sc k (.BoolOp .And (a :: b :: rest) pos) (dAnd t u) := ⟨fun W => by
  obtain ⟨te, p1, i1⟩ := h.ex W
  obtain ⟨tf, p2, i2⟩ := g.ex W
  exact ⟨tAnd te tf, fun X S => pw_and (p1 X S) (p2 X S), imT_and i1 i2⟩⟩
theorem dw_or (h : DTe G N sc k a t) (g : DWe G N sc k (.BoolOp .Or (b :: rest) pos) u) : DWe G N sc k (.BoolOp .Or (a :: b :: rest) pos) (dOr t u) := ⟨fun W => by
  obtain ⟨te, p1, i1⟩ := h.ex W
  obtain ⟨tf, p2, i2⟩ := g.ex W
  exact ⟨tOr te tf, fun X S => pw_or (p1 X S) (p2 X S), imT_or i1 i2⟩⟩
theorem DWe.te {e : Expr} (h : DWe G N sc k e t) : DTe G N sc k e t := ⟨fun W => by
  obtain ⟨te, p1, i1⟩ := h.ex W
  exact ⟨te, fun X S => (p1 X S).pt, i1⟩⟩
theorem dt_not (h : DTe G N sc k a t) : DTe G N sc k (.UnaryOp .Not a pos) (dNot t) := ⟨fun W => by
  obtain ⟨te, p1, i1⟩ := h.ex W
  exact ⟨tNot te, fun X S => pt_not (p1 X S), fun e Ex hl env T F σ H Q R hh ht hR => i1 e Ex hl env T F σ H _ _ hh ht fun b H1 F1 env1 hh1 q1 => hR (!b) H1 F1 env1 hh1 q1⟩⟩
def dAndV (ta tb : DT) : DT := fun Ex env Q => ta Ex env fun x env1 => match x with
  | .ext (.bl true) => tb Ex env1 Q
  | .ext (.bl false) => Q (.ext (.bl false)) env1
  | _ => False
def dOrV (ta tb : DT) : DT := fun Ex env Q => ta Ex env fun x env1 => match x with
  | .ext (.bl false) => tb Ex env1 Q
  | .ext (.bl true) => Q (.ext (.bl true)) env1
  | _ => False
def dNotV (ta : DT) : DT := fun Ex env Q => ta Ex env fun x env1 => match x with
  | .ext (.bl b) => Q (.ext (.bl (!b))) env1
  | _ => False
theorem de_one {op} {t : DT} (h : DE G N sc k a t) : DE G N sc k (.BoolOp op [a] pos) t := ⟨fun W => by
  obtain ⟨te, p1, i1⟩ := h.ex W
  exact ⟨te, fun X S => pe_one (p1 X S), i1⟩⟩
theorem de_and (h : DE G N sc k a ta) (g : DE G N sc k (.BoolOp .And (b :: rest) pos) tb) : DE G N sc k (.BoolOp .And (a :: b :: rest) pos) (dAndV ta tb) := ⟨fun W => by
  obtain ⟨te, p1, i1⟩ := h.ex W
  obtain ⟨tf, p2, i2⟩ := g.ex W
  refine ⟨tAndV te tf, fun X S => pe_and (p1 X S) (p2 X S), fun e Ex hl env T F σ H Q R hh ht hR => ?_⟩
  refine i1 e Ex hl env T F σ H _ _ hh ht fun v H1 F1 env1 x hh1 q1 => ?_
  cases x with
  | ext d =>
    cases d with
    | bl bb =>
      refine ⟨bb, hh1.temps (v, .ext (.bl bb)) List.mem_cons_self, ?_⟩
      cases bb with
      | true =>
        rw [if_pos rfl]
        exact i2 e Ex hl env1 T F1 σ H1 _ _ hh1.pop q1 hR
      | false =>
        rw [if_neg Bool.false_ne_true]
        exact hR (.bl false) H1 F1 env1 (.ext (.bl false)) (hh1.pop.pushE rfl) q1
    | _ => exact q1.elim
  | _ => exact q1.elim⟩
theorem de_not (h : DE G N sc k a ta) : DE G N sc k (.UnaryOp .Not a pos) (dNotV ta) := ⟨fun W => by
  obtain ⟨te, p1, i1⟩ := h.ex W
  refine ⟨tNotV te, fun X S => pe_not (p1 X S), fun e Ex hl env T F σ H Q R hh ht hR => ?_⟩
  refine i1 e Ex hl env T F σ H _ _ hh ht fun v H1 F1 env1 x hh1 q1 => ?_
  cases x with
  | ext d =>
    cases d with
    | bl bb => exact ⟨bb, hh1.temps (v, .ext (.bl bb)) List.mem_cons_self, hR _ H1 F1 env1 (.ext (.bl (!bb))) (hh1.pop.pushE rfl) q1⟩
    | _ => exact q1.elim
  | _ => exact q1.elim⟩
def dIf (t : DTT) (ta tb : DT) : DT := fun Ex env Q => t Ex env fun b env1 => if b = true then ta Ex env1 Q else tb Ex env1 Q
theorem de_if {t : DTT} (hc : DTe G N sc k c t) (ha : DE G N sc k a ta) (hb : DE G N sc k b tb) : DE G N sc k (.IfExp c a b pos) (dIf t ta tb) := ⟨fun W => by
  obtain ⟨tc, p0, i0⟩ := hc.ex W
  obtain ⟨te, p1, i1⟩ := ha.ex W
  obtain ⟨tf, p2, i2⟩ := hb.ex W
  refine ⟨tIf tc te tf, fun X S => pe_ifExp (p0 X S) (p1 X S) (p2 X S), fun e Ex hl env T F σ H Q R hh ht hR => ?_⟩
  refine i0 e Ex hl env T F σ H _ _ hh ht fun bb H1 F1 env1 hh1 q1 => ?_
  cases bb with
  | true =>
    rw [if_pos rfl] at q1 ⊢
    exact i1 e Ex hl env1 T F1 σ H1 _ _ hh1 q1 hR
  | false =>
    rw [if_neg Bool.false_ne_true] at q1 ⊢
    exact i2 e Ex hl env1 T F1 σ H1 _ _ hh1 q1 hR⟩
def froz (env : Env') : Sl → (D → Prop) → Prop
  | .ext d, q => q d
  | .lst _ ds, q => q (.lst ds)
  | _, _ => False
def frozs (env : Env') : List Sl → (List D → Prop) → Prop
  | [], q => q []
  | s :: ss, q => froz env s fun d => frozs env ss fun ds => q (d :: ds)
theorem Holds.froz1 {K : PySem.W.Frag} {e : Ent} {env : Env'} {T : Tmp} {F : Hp} {σ : St} {H : Hp} {v : V} {sl : Sl} {q : D → Prop} (h : Holds K e env ((v, sl) :: T) F σ H) (w : froz env sl q) : ∃ d F1, Same F F1 ∧ Holds K e env T F1 σ H ∧ Rep K F1 d v ∧ q d := by
  cases sl with
  | un => exact w.elim
  | reg _ _ => exact w.elim
  | ar _ _ => exact w.elim
  | al i a => exact w.elim
  | ext d => exact ⟨d, F, Same.refl _, h.pop, h.temps (v, .ext d) List.mem_cons_self, w⟩
  | lst a ds =>
    obtain ⟨F1, sm, h1⟩ := h.freezeT
    exact ⟨.lst ds, F1, sm, h1.pop, h1.temps (v, .ext (.lst ds)) List.mem_cons_self, w⟩
theorem Holds.frozs {K : PySem.W.Frag} {e : Ent} {env : Env'} {T : Tmp} {σ : St} {H : Hp} : ∀ {vs : List V} {xs : List Sl} {q : List D → Prop} {F : Hp}, vs.length = xs.length → Holds K e env (vs.zip xs ++ T) F σ H → HD.frozs env xs q → ∃ ds F1, Same F F1 ∧ Holds K e env T F1 σ H ∧ Reps K F1 ds vs ∧ q ds
  | [], [], q, F, _, h, w => ⟨[], F, Same.refl _, h, rfl, w⟩
  | [], _ :: _, _, _, e, _, _ => by cases e
  | _ :: _, [], _, _, e, _, _ => by cases e
  | v :: vs, x :: xs, q, F, le, h, w => by
    obtain ⟨d, F1, sm, h1, r1, w1⟩ := h.froz1 w
    obtain ⟨ds, F2, sm2, h2, r2, w2⟩ := Holds.frozs (vs := vs) (xs := xs) (by simpa using le) h1 w1
    exact ⟨d :: ds, F2, sm.trans sm2, h2, ⟨v, vs, rfl, Rep.same sm2 r1, r2⟩, w2⟩
def frzD (env : Env') : Sl → (D → Env' → Prop) → Prop
  | .ext d, q => q d env
  | .lst _ ds, q => q (.lst ds) env
  | .al i a, q => match env[i]? with
    | some (.lst b ds) => b = a ∧ q (.lst ds) (env.set i (.ext (.lst ds)))
    | some (.ext (.lst ds)) => False
    | _ => False
  | .un, _ => False
  | .reg _ _, _ => False
  | .ar _ _, _ => False
def frzDs (env : Env') : List Sl → (List D → Env' → Prop) → Prop
  | [], q => q [] env
  | s :: ss, q => frzD env s fun d env1 => frzDs env1 ss fun ds env2 => q (d :: ds) env2
theorem Holds.frz1 {K : PySem.W.Frag} {e : Ent} {env : Env'} {T : Tmp} {F : Hp} {σ : St} {H : Hp} {v : V} {sl : Sl} {q : D → Env' → Prop} (h : Holds K e env ((v, sl) :: T) F σ H) (w : frzD env sl q) : ∃ d F1 env', Same F F1 ∧ Holds K e env' T F1 σ H ∧ Rep K F1 d v ∧ q d env' := by
  cases sl with
  | un => exact w.elim
  | reg _ _ => exact w.elim
  | ar _ _ => exact w.elim
  | ext d => exact ⟨d, F, env, Same.refl _, h.pop, h.temps (v, .ext d) List.mem_cons_self, w⟩
  | lst a ds =>
    obtain ⟨F1, sm, h1⟩ := h.freezeT
    exact ⟨.lst ds, F1, env, sm, h1.pop, h1.temps (v, .ext (.lst ds)) List.mem_cons_self, w⟩
  | al i a =>
    have ev : v = .ref a := h.temps (v, .al i a) List.mem_cons_self
    have w' : (match env[i]? with | some (.lst b ds) => b = a ∧ q (.lst ds) (env.set i (.ext (.lst ds))) | some (.ext (.lst ds)) => False | _ => False) := w
    split at w'
    · rename_i b ds hb
      obtain ⟨rfl, w'⟩ := w'
      obtain ⟨F1, sm, h1⟩ := h.pop.freeze hb
      refine ⟨.lst ds, F1, _, sm, h1, ?_, w'⟩
      have hi : i < env.length := (List.getElem?_eq_some_iff.mp hb).1
      rcases h.slots i _ hb with z | ⟨u, hu, e1, _⟩
      · cases z
      · rcases h1.slots i (.ext (.lst ds)) (by rw [List.getElem?_set, if_pos rfl, if_pos hi]) with z | ⟨u', hu', ok⟩
        · cases z
        · rw [hu] at hu'
          cases hu'
          rw [ev, ← e1]
          exact ok
    · exact w'.elim
    · exact w'.elim
theorem Holds.frzs {K : PySem.W.Frag} {e : Ent} {T : Tmp} {σ : St} {H : Hp} : ∀ {vs : List V} {xs : List Sl} {q : List D → Env' → Prop} {F : Hp} {env : Env'}, vs.length = xs.length → Holds K e env (vs.zip xs ++ T) F σ H → HD.frzDs env xs q → ∃ ds F1 env', Same F F1 ∧ Holds K e env' T F1 σ H ∧ Reps K F1 ds vs ∧ q ds env'
  | [], [], q, F, env, _, h, w => ⟨[], F, env, Same.refl _, h, rfl, w⟩
  | [], _ :: _, _, _, _, e, _, _ => by cases e
  | _ :: _, [], _, _, _, e, _, _ => by cases e
  | v :: vs, x :: xs, q, F, env, le, h, w => by
    obtain ⟨d, F1, env1, sm, h1, r1, w1⟩ := h.frz1 w
    obtain ⟨ds, F2, env2, sm2, h2, r2, w2⟩ := Holds.frzs (vs := vs) (xs := xs) (by simpa using le) h1 w1
    exact ⟨d :: ds, F2, env2, sm.trans sm2, h2, ⟨v, vs, rfl, Rep.same sm2 r1, r2⟩, w2⟩
def dTup (t : DTA) : DT := fun Ex env Q => t Ex env fun xs env1 => xs.length ≤ sizeLine ∧ frzDs env1 xs fun ds env2 => Q (.ext (.tup ds)) env2
def dLst (t : DTA) : DT := fun Ex env Q => t Ex env fun xs env1 => xs.length ≤ sizeLine ∧ frzDs env1 xs fun ds env2 => ∀ a, Q (.lst a ds) env2
variable {es : List Expr} {tA : DTA}
theorem de_tup {x1} (h : DAs G N sc k es tA) : DE G N sc k (.Tuple es x1 pos) (dTup tA) := ⟨fun W => by
  obtain ⟨te, p1, i1⟩ := h.ex W
  refine ⟨tTupF te, fun X S => pe_tupF (p1 X S), fun e Ex hl env T F σ H Q R hh ht hR => ?_⟩
  refine i1 e Ex hl env T F σ H _ _ hh ht fun vs H1 F1 env1 xs le hh1 q1 => ⟨by rw [le]; exact q1.1, ?_⟩
  obtain ⟨ds, F2, env2, sm, hh2, r2, q2⟩ := hh1.frzs le q1.2
  exact (hh2.done hR).tup hh2.fh r2 q2⟩
theorem de_lst (h : DAs G N sc k es tA) : DE G N sc k (.List es pos) (dLst tA) := ⟨fun W => by
  obtain ⟨te, p1, i1⟩ := h.ex W
  refine ⟨tLst te, fun X S => pe_lst (p1 X S), fun e Ex hl env T F σ H Q R hh ht hR => ?_⟩
  refine i1 e Ex hl env T F σ H _ _ hh ht fun vs H1 F1 env1 xs le hh1 q1 => ⟨by rw [le]; exact q1.1, fun p n => ?_⟩
  obtain ⟨ds, F2, env2, sm, hh2, r2, q2⟩ := hh1.frzs le q1.2
  exact (hh2.done hR).lst hh2.fh n r2 (q2 p)⟩
def fIx : D → D → (Sl → Prop) → Prop
  | .lst ds, .int i, Q => ∃ d, atI ds i = some d ∧ Q (.ext d)
  | .tup ds, .int i, Q => ∃ d, atI ds i = some d ∧ Q (.ext d)
  | .tk ds, .int i, Q => ∃ d, atI ds i = some d ∧ Q (.ext d)
  | .fz ds, .int i, Q => ∃ d, atI ds i = some d ∧ Q (.ext d)
  | .str z, .int i, Q => z.length ≤ sizeLine ∧ ∃ c, atI z.cps.toList i = some c ∧ Q (.ext (.str ⟨#[c]⟩))
  | _, _, _ => False
theorem Reps.atI {K : PySem.W.Frag} {F : Hp} {ds : List D} {vs : List V} {i : Int} {d : D} (h : Reps K F ds vs) (e : L2.atI ds i = some d) : ∃ v, L2.atI vs i = some v ∧ Rep K F d v := by
  unfold L2.atI at e ⊢
  rw [← h.length]
  cases q : ixN ds.length i with
  | none =>
    rw [q] at e
    cases e
  | some j =>
    rw [q] at e
    exact h.get e
theorem pr_ix {K : PySem.W.Frag} : Pr2 K (rIx K) fIx := fun F H v u d d' Q R fh h1 h2 hf ha => by
  unfold fIx at hf
  split at hf
  · obtain ⟨a, vs, rfl, e1, r1⟩ := h1.lst fh
    obtain ⟨d, e, q⟩ := hf
    obtain ⟨w, e', r⟩ := r1.atI e
    exact .inl ⟨a, vs, _, w, rfl, h2.int, SqL.of e1, e', ha.ext fh r q⟩
  · obtain ⟨a, vs, rfl, e1, _, r1⟩ := h1.tup fh
    obtain ⟨d, e, q⟩ := hf
    obtain ⟨w, e', r⟩ := r1.atI e
    exact .inr (.inl ⟨a, vs, _, w, rfl, h2.int, e1, e', ha.ext fh r q⟩)
  · obtain ⟨a, vs, rfl, e1, _, r1⟩ := h1.tk fh
    obtain ⟨d, e, q⟩ := hf
    obtain ⟨w, e', r⟩ := r1.atI e
    exact .inr (.inl ⟨a, vs, _, w, rfl, h2.int, e1, e', ha.ext fh r q⟩)
  · obtain ⟨a, vs, rfl, e1, r1⟩ := h1.fz fh
    obtain ⟨d, e, q⟩ := hf
    obtain ⟨w, e', r⟩ := r1.atI e
    exact .inl ⟨a, vs, _, w, rfl, h2.int, e1, e', ha.ext fh r q⟩
  · obtain ⟨hz, c, e, q⟩ := hf
    exact .inr (.inr ⟨_, _, c, h1.str, h2.int, hz, e, ha.str fh q⟩)
  · exact hf.elim
theorem de_ix (ha : DE G N sc k a ta) (hb : DE G N sc k b tb) (hs : PlainIx b := by intro _ _; rfl) : DE G N sc k (.Subscript a b pos) (dOp fIx ta tb) := ⟨fun W => by
  obtain ⟨te, p1, i1⟩ := ha.ex W
  obtain ⟨tf, p2, i2⟩ := hb.ex W
  exact ⟨tOp (rIx G.K) te tf, fun X S => pe_ix (by rw [← S.K]; exact ix_seq) (p1 X S) (p2 X S) hs, im_op pr_ix i1 i2⟩⟩
abbrev DTO := DX → Env' → (Option Int → Env' → Prop) → Prop
def ImO (K : PySem.W.Frag) (W : WX) (to : TO) (t : DTO) : Prop :=
  ∀ (e : Ent) (Ex : DX), Link K e W Ex → ∀ (env : Env') (T : Tmp) (F : Hp) (σ : St) (H : Hp) (Q : Option Int → Env' → Prop) (R : Option Int → Hp → Prop),
    Holds K e env T F σ H → t Ex env Q → (∀ o H' F' env', Holds K e env' T F' σ H' → Q o env' → R o H') → to σ H R
structure DO' (G : GG) (N : List Str) (sc : SC) (k : Nat) (e : Option Expr) (t : DTO) : Prop where
  ex : ∀ W : WX, ∃ te, (∀ X, Sit G N sc W k X → PO X e te) ∧ ImO G.K W te t
def dNoPart : DTO := fun _ env Q => Q none env
def dPart (t : DT) : DTO := fun Ex env Q => t Ex env fun x env1 => match x with
  | .ext (.int i) => Q (some i) env1
  | _ => False
theorem do_none : DO' G N sc k none dNoPart := ⟨fun W => ⟨tNoPart, fun X S => po_none, fun e Ex hl env T F σ H Q R hh ht hR => hR none H F env hh ht⟩⟩
theorem do_some (h : DE G N sc k a ta) : DO' G N sc k (some a) (dPart ta) := ⟨fun W => by
  obtain ⟨te, p1, i1⟩ := h.ex W
  refine ⟨tPart te, fun X S => po_some (p1 X S), fun e Ex hl env T F σ H Q R hh ht hR => ?_⟩
  refine i1 e Ex hl env T F σ H _ _ hh ht fun v H1 F1 env1 x hh1 q1 => ?_
  cases x with
  | ext d =>
    cases d with
    | int i => exact ⟨i, hh1.temps (v, .ext (.int i)) List.mem_cons_self, hR (some i) H1 F1 env1 hh1.pop q1⟩
    | _ => exact q1.elim
  | _ => exact q1.elim⟩
def cutD (xs : List D) (lo hi : Option Int) : List D := (xs.drop (HT.sIx xs.length 0 lo)).take (HT.sIx xs.length xs.length hi - HT.sIx xs.length 0 lo)
theorem Reps.cut {K : PySem.W.Frag} {F : Hp} {ds : List D} {vs : List V} (h : Reps K F ds vs) (lo hi : Option Int) : Reps K F (cutD ds lo hi) (cutV vs lo hi) := by
  unfold cutD cutV
  rw [h.length]
  exact (h.drop _).take _
def fSl (d : D) (lo hi : Option Int) (Q : Sl → Prop) : Prop := match d with
  | .lst ds => ∀ a, Q (.lst a (cutD ds lo hi))
  | .fz ds => ∀ a, Q (.lst a (cutD ds lo hi))
  | .tup ds => Q (.ext (.tup (cutD ds lo hi)))
  | _ => False
def dSl (ta : DT) (tl th : DTO) : DT := fun Ex env Q => ta Ex env fun x env1 => tl Ex env1 fun lo env2 => th Ex env2 fun hi env3 => wd env3 x fun d => fSl d lo hi fun sl => Q sl env3
theorem cut_whole {α : Type} {xs : List α} {lo hi : Option Int} (h : HT.sIx xs.length 0 lo = 0 ∧ HT.sIx xs.length xs.length hi = xs.length) : (xs.drop (HT.sIx xs.length 0 lo)).take (HT.sIx xs.length xs.length hi - HT.sIx xs.length 0 lo) = xs := by
  rw [h.1, h.2, List.drop_zero, Nat.sub_zero, List.take_length]
theorem de_slice {lo hi : Option Expr} {tl th : DTO} {p2 : Pos} (h : DE G N sc k a ta) (hl : DO' G N sc k lo tl) (hh : DO' G N sc k hi th) : DE G N sc k (.Subscript a (.Slice lo hi none p2) pos) (dSl ta tl th) := ⟨fun W => by
  obtain ⟨te, p1, i1⟩ := h.ex W
  obtain ⟨tl', p2', i2⟩ := hl.ex W
  obtain ⟨th', p3, i3⟩ := hh.ex W
  refine ⟨tSl (fun x lo hi H Q => rSlL G.K x lo hi H Q ∨ rSlF G.K x lo hi H Q) te tl' th', fun X S => pe_slice (by rw [← S.K]; exact sl_list.or sl_tupF) (p1 X S) (p2' X S) (p3 X S), fun e Ex hl env T F σ H Q R hh ht hR => ?_⟩
  refine i1 e Ex hl env T F σ H _ _ hh ht fun v H1 F1 env1 x hh1 q1 => ?_
  refine i2 e Ex hl env1 _ F1 σ H1 _ _ hh1 q1 fun lo' H2 F2 env2 hh2 q2 => ?_
  refine i3 e Ex hl env2 _ F2 σ H2 _ _ hh2 q2 fun hi' H3 F3 env3 hh3 q3 => ?_
  obtain ⟨d, rd, q4⟩ := hh3.wd (v := v) (sl := x) List.mem_cons_self q3
  have dn := hh3.pop.done hR
  cases d with
  | lst ds =>
    obtain ⟨b, vs, rfl, e1, r1⟩ := rd.lst hh3.fh
    exact .inl ⟨b, vs, rfl, SqL.of e1, fun p n => dn.lst hh3.fh n (r1.cut lo' hi') (q4 p)⟩
  | fz ds =>
    obtain ⟨b, vs, rfl, e1, r1⟩ := rd.fz hh3.fh
    exact .inl ⟨b, vs, rfl, e1, fun p n => dn.lst hh3.fh n (r1.cut lo' hi') (q4 p)⟩
  | tup ds =>
    obtain ⟨b, vs, rfl, e1, e2, r1⟩ := rd.tup hh3.fh
    refine .inr ⟨b, vs, rfl, e1, fun z => ?_, fun _ => dn.tup hh3.fh (r1.cut lo' hi') q4⟩
    refine dn.ext (d := .tup (cutD ds lo' hi')) hh3.fh ⟨b, vs, rfl, e2, ?_⟩ q4
    have q := r1.cut lo' hi'
    unfold cutV at q
    rw [cut_whole z] at q
    exact q
  | _ => exact q4.elim⟩
end
end HD
namespace HD
open PySem L2
abbrev DSpec := List Sl → (Sl → List Sl → Prop) → (Str → List Sl → Prop) → Prop
abbrev entOf (F H : Hp) (args : Env') : Ent := ⟨F, H, ownedE args⟩
def toSp (K : PySem.W.Frag) (n : Nat) (spec : DSpec) : Sp := fun vs H Q E => ∃ (F : Hp) (args : Env') (Qd : Sl → List Sl → Prop) (Xd : Str → List Sl → Prop),
  vs.length = n ∧ Holds K (entOf F H args) args [] F (vs.map some) H ∧ spec args Qd Xd ∧
  (∀ v H' F' r fin, Holds K (entOf F H args) fin [(v, r)] F' (vs.map some) H' → Qd r fin → Q v H') ∧
  (∀ c H' F' fin, Holds K (entOf F H args) fin [] F' (vs.map some) H' → Xd c fin → E (clsV K c) none H')
def rootOf : D → Option Addr
  | .val (.ref a) => some a
  | _ => none
theorem rootOf_some {d : D} {a : Addr} (h : rootOf d = some a) : d = .val (.ref a) := by
  unfold rootOf at h
  split at h
  · cases h; rfl
  · cases h
theorem rootOf_eq {d d' : D} (h : (rootOf d).isSome = true ∧ rootOf d = rootOf d') : d = d' := by
  obtain ⟨h1, h2⟩ := h
  cases e : rootOf d with
  | none => rw [e] at h1; cases h1
  | some a =>
    have e2 : rootOf d' = some a := by rw [← h2]; exact e
    rw [rootOf_some e, rootOf_some e2]
def fin1 : Sl → Option Sl → Sl
  | .ext d, _ => .ext d
  | .lst a _, some (.lst b ds) => if a = b then .lst a ds else .un
  | .reg d _, some (.reg d' cs) => if (rootOf d).isSome = true ∧ rootOf d = rootOf d' then .reg d cs else .un
  | _, _ => .un
def finals (args env : Env') : Env' := (List.range args.length).map fun i => fin1 (args.getD i .un) env[i]?
theorem finals_get {args env : Env'} {i : Nat} {sl : Sl} (h : (finals args env)[i]? = some sl) : ∃ s, args[i]? = some s ∧ sl = fin1 s env[i]? := by
  unfold finals at h
  rw [List.getElem?_map] at h
  by_cases hi : i < args.length
  · rw [List.getElem?_range hi] at h
    have e := Option.some.inj h
    refine ⟨args[i], List.getElem?_eq_getElem hi, ?_⟩
    rw [← e]
    show fin1 (args.getD i .un) _ = _
    rw [List.getD_eq_getElem?_getD, List.getElem?_eq_getElem hi]
    rfl
  · rw [List.getElem?_eq_none (by rw [List.length_range]; omega)] at h
    cases h
theorem fin1_owned (s : Sl) (o : Option Sl) : (fin1 s o).owned.Sublist ((o.getD .un).owned) := by
  cases s with
  | un => exact List.nil_sublist _
  | ext d => exact List.nil_sublist _
  | al i a => exact List.nil_sublist _
  | ar i a => exact List.nil_sublist _
  | reg d cs =>
    cases o with
    | none => exact List.nil_sublist _
    | some s' =>
      cases s' with
      | reg d' cs' =>
        show (if (rootOf d).isSome = true ∧ rootOf d = rootOf d' then Sl.reg d cs' else .un).owned.Sublist (cs'.map (·.1))
        split
        · exact List.Sublist.refl _
        · exact List.nil_sublist _
      | _ => exact List.nil_sublist _
  | lst a ds =>
    cases o with
    | none => exact List.nil_sublist _
    | some s' =>
      cases s' with
      | lst b es =>
        show (if a = b then Sl.lst a es else .un).owned.Sublist [b]
        split
        · rename_i e
          subst e
          exact List.Sublist.refl _
        · exact List.nil_sublist _
      | _ => exact List.nil_sublist _
theorem finals_owned (args env : Env') : (ownedE (finals args env)).Sublist (ownedE env) := by
  have key : ∀ (n : Nat), (ownedE ((List.range n).map fun i => fin1 (args.getD i .un) env[i]?)).Sublist (ownedE (env.take n)) := by
    intro n
    induction n with
    | zero => exact List.nil_sublist _
    | succ n ih =>
      rw [List.range_succ, List.map_append]
      unfold ownedE at ih ⊢
      rw [List.flatMap_append, List.take_add_one, List.flatMap_append]
      refine ih.append ?_
      rw [List.map_cons, List.map_nil, List.flatMap_cons, List.flatMap_nil, List.append_nil]
      refine (fin1_owned _ _).trans ?_
      cases env[n]? with
      | none => exact List.Sublist.refl _
      | some s =>
        show s.owned.Sublist ([s].flatMap Sl.owned)
        rw [List.flatMap_cons, List.flatMap_nil, List.append_nil]
        exact List.Sublist.refl _
  refine (key args.length).trans ?_
  unfold ownedE
  have z := congrArg (List.flatMap Sl.owned) (List.take_append_drop args.length env)
  rw [List.flatMap_append] at z
  rw [← z]
  exact List.sublist_append_left _ _
theorem Holds.finals {K : PySem.W.Frag} {F H F' H' : Hp} {args env : Env'} {T : Tmp} {σ' : St} {vs : List V} (h0 : Holds K (entOf F H args) args [] F (vs.map some) H) (h : Holds K (entOf F H args) env T F' σ' H') : Holds K (entOf F H args) (HD.finals args env) T F' (vs.map some) H' := by
  have sub : (ownedE (HD.finals args env) ++ ownedT T).Sublist (ownedE env ++ ownedT T) := (finals_owned args env).append (List.Sublist.refl _)
  refine ⟨h.fh, ?_, fun i sl q => ?_, h.temps, h.nd.sublist sub, h.s1, h.s2, fun a ha => h.s3 a (sub.subset ha)⟩
  · rw [← h0.len]
    unfold HD.finals
    rw [List.length_map, List.length_range]
  · obtain ⟨s, hs, rfl⟩ := finals_get q
    rcases h0.slots i s hs with z | ⟨v, hv, ok⟩
    · subst z
      exact .inl rfl
    · cases s with
      | un => exact .inl rfl
      | al j a => exact .inl rfl
      | ar j a => exact .inl rfl
      | reg d cs =>
        cases e : env[i]? with
        | none => exact .inl rfl
        | some s' =>
          cases s' with
          | reg d' cs' =>
            show (if (rootOf d).isSome = true ∧ rootOf d = rootOf d' then Sl.reg d cs' else .un) = .un ∨ ∃ v, _ ∧ SlOk K F' H' v (if (rootOf d).isSome = true ∧ rootOf d = rootOf d' then Sl.reg d cs' else .un)
            split
            · rename_i dd
              have ed := rootOf_eq dd
              subst ed
              rcases h.slots i _ e with z | ⟨w, _, ok'⟩
              · cases z
              · exact .inr ⟨v, hv, Rep.same h.s1 ok.1, ok'.2⟩
            · exact .inl rfl
          | _ => exact .inl rfl
      | ext d => exact .inr ⟨v, hv, Rep.same h.s1 ok⟩
      | lst a ds =>
        obtain ⟨rfl, _⟩ := ok
        cases e : env[i]? with
        | none => exact .inl rfl
        | some s' =>
          cases s' with
          | lst b es =>
            show (if a = b then Sl.lst a es else .un) = .un ∨ ∃ v, _ ∧ SlOk K F' H' v (if a = b then Sl.lst a es else .un)
            split
            · rename_i ab
              subst ab
              rcases h.slots i _ e with z | ⟨w, _, ok'⟩
              · cases z
              · obtain ⟨rfl, r⟩ := ok'
                exact .inr ⟨_, hv, rfl, r⟩
            · exact .inl rfl
          | _ => exact .inl rfl
mutual
def D.imm : D → Bool
  | .lst _ => false
  | .exc _ => false
  | .fz _ => false
  | .dk _ _ => false
  | .dt _ _ => false
  | .tup ds => D.imms ds
  | .tk ds => D.imms ds
  | _ => true
def D.imms : List D → Bool
  | [] => true
  | d :: ds => D.imm d && D.imms ds
end
mutual
theorem Rep.ofT {K : PySem.W.Frag} {F F' : Hp} (t : ∀ a xs, SqT K F a xs → SqT K F' a xs) (t2 : ∀ a xs, TupD K F a xs → TupD K F' a xs) : ∀ {d : D} {v : V}, d.imm = true → Rep K F d v → Rep K F' d v
  | .non, _, _, h => h
  | .bl _, _, _, h => h
  | .int _, _, _, h => h
  | .str _, _, _, h => h
  | .val _, _, _, h => h
  | .lst _, _, n, _ => nomatch n
  | .fz _, _, n, _ => nomatch n
  | .exc _, _, n, _ => nomatch n
  | .dk _ _, _, n, _ => nomatch n
  | .dt _ _, _, n, _ => nomatch n
  | .glo _, _, _, h => h
  | .tup _, _, n, h => by
    obtain ⟨a, xs, rfl, hs, hr⟩ := h
    exact ⟨a, xs, rfl, t2 _ _ hs, Reps.ofT t t2 n hr⟩
  | .tk _, _, n, h => by
    obtain ⟨a, xs, rfl, hs, hr⟩ := h
    exact ⟨a, xs, rfl, t _ _ hs, Reps.ofT t t2 n hr⟩
theorem Reps.ofT {K : PySem.W.Frag} {F F' : Hp} (t : ∀ a xs, SqT K F a xs → SqT K F' a xs) (t2 : ∀ a xs, TupD K F a xs → TupD K F' a xs) : ∀ {ds : List D} {vs : List V}, D.imms ds = true → Reps K F ds vs → Reps K F' ds vs
  | [], _, _, h => h
  | d :: ds, _, n, h => by
    obtain ⟨v, r, rfl, h1, h2⟩ := h
    have n' : (D.imm d && D.imms ds) = true := n
    rw [Bool.and_eq_true] at n'
    exact ⟨v, r, rfl, Rep.ofT t t2 n'.1 h1, Reps.ofT t t2 n'.2 h2⟩
end
def Sl.imm : Sl → Bool
  | .ext d => d.imm
  | .lst _ ds => D.imms ds
  | _ => false
section
variable {K : PySem.W.Frag} {e : Ent} {env : Env'} {T : Tmp} {F : Hp} {σ : St} {H : Hp}
structure Left (A : List Addr) (F H F' H' : Hp) : Prop where
  ff : Same F F'
  fh : Same F' H'
  out : ∀ b o, H b = some o → b ∉ A → H' b = some o ∧ (F b = none → F' b = none)
theorem SlOk.left {A : List Addr} {F' H' : Hp} {v : V} {sl : Sl} (l : Left A F H F' H') (n : ∀ a ∈ sl.owned, a ∉ A) (h : SlOk K F H v sl) : SlOk K F' H' v sl := by
  cases sl with
  | un => trivial
  | ext d => exact Rep.same l.ff h
  | al i b => exact h
  | lst b ds =>
    obtain ⟨rfl, q, us, hv, hr⟩ := h
    obtain ⟨q1, q2⟩ := l.out b _ hv (n b (List.mem_singleton.mpr rfl))
    exact ⟨rfl, q2 q, us, q1, hr.same l.ff⟩
  | ar i b => exact h
  | reg b cs =>
    obtain ⟨rd, nd, hc⟩ := h
    refine ⟨Rep.same l.ff rd, nd, fun p hp => ?_⟩
    obtain ⟨q, o', ho, ok⟩ := hc p hp
    obtain ⟨q1, q2⟩ := l.out p.1 _ ho (n p.1 (List.mem_map.mpr ⟨p, hp, rfl⟩))
    exact ⟨q2 q, o', q1, ok.same l.ff⟩
theorem Holds.left0 {F' H' : Hp} {v : V} {r : Sl} (h : Holds K e env T F σ H) (l : Left [] F H F' H') (ok : SlOk K F' H' v r) (own : ∀ a ∈ r.owned, H a = none) : Holds K e env ((v, r) :: T) F' σ H' := by
  have h1 : Holds K e env T F' σ H' := by
    refine ⟨l.fh, h.len, fun i sl q => ?_, fun p hp => (h.temps p hp).left l (fun _ _ z => nomatch z), h.nd, h.s1.trans l.ff, fun a o q n => ?_, h.s3⟩
    · rcases h.slots i sl q with z | ⟨w, hw, ok⟩
      · exact .inl z
      · exact .inr ⟨w, hw, ok.left l fun _ _ z => nomatch z⟩
    · obtain ⟨q1, q2⟩ := h.s2 a o q n
      obtain ⟨r1, r2⟩ := l.out a o q1 (fun z => nomatch z)
      exact ⟨r1, fun z => r2 (q2 z)⟩
  have old := h.ownedH
  have ndo : r.owned.Nodup := ok.ndo
  have dis : ∀ a ∈ r.owned, a ∉ ownedE env ++ ownedT T := fun a ha hb => by
    obtain ⟨_, vs, q⟩ := old a hb
    rw [own a ha] at q
    cases q
  refine ⟨h1.fh, h1.len, h1.slots, fun p hp => ?_, ?_, h1.s1, h1.s2, fun a ha => ?_⟩
  · rcases List.mem_cons.mp hp with rfl | hp
    · exact ok
    · exact h1.temps p hp
  · show (ownedE env ++ (r.owned ++ ownedT T)).Nodup
    have z := h.nd
    rw [List.nodup_append] at z ⊢
    obtain ⟨z1, z2, z3⟩ := z
    refine ⟨z1, ?_, fun a ha b hb => ?_⟩
    · rw [List.nodup_append]
      exact ⟨ndo, z2, fun a ha b hb e => dis a ha (by rw [e]; exact List.mem_append_right _ hb)⟩
    · rcases List.mem_append.mp hb with hb | hb
      · exact fun e => dis b hb (by rw [← e]; exact List.mem_append_left _ ha)
      · exact z3 a ha b hb
  · have ha' : a ∈ ownedE env ++ (r.owned ++ ownedT T) := ha
    rcases List.mem_append.mp ha' with hb | hb
    · exact h.s3 a (List.mem_append_left _ hb)
    · rcases List.mem_append.mp hb with hb | hb
      · have hn := own a hb
        cases q : e.H0 a with
        | none => exact .inr rfl
        | some o =>
          by_cases hA : a ∈ e.A0
          · exact .inl hA
          · rw [(h.s2 a o q hA).1] at hn
            cases hn
      · exact h.s3 a (List.mem_append_right _ hb)
theorem Holds.left1 {F' H' : Hp} {v : V} {r s' : Sl} {i : Nat} {a : Addr} {ds : List D} (h : Holds K e env T F σ H) (hi : env[i]? = some (.lst a ds)) (l : Left [a] F H F' H') (ok : SlOk K F' H' v r) (ok' : SlOk K F' H' (.ref a) s')
    (own : ∀ b ∈ s'.owned ++ r.owned, b = a ∨ H b = none) (nd : (s'.owned ++ r.owned).Nodup) (hp : s'.plain) : Holds K e (env.set i s') ((v, r) :: T) F' σ H' := by
  obtain ⟨hv0, hF0⟩ : (∃ w, σ[i]? = some (some w) ∧ w = .ref a) ∧ F a = none := by
    rcases h.slots i _ hi with z | ⟨w, hw, e1, e2, _⟩
    · cases z
    · exact ⟨⟨w, hw, e1⟩, e2⟩
  obtain ⟨w, hw, rfl⟩ := hv0
  -- the slot's object as a temp, then dropped: the others
  have h0 := (h.take hi hw).pop
  have hx := h.take hi hw
  have na : ∀ b ∈ ownedE (env.set i .un) ++ ownedT T, b ≠ a := fun b hb z => by
    subst z
    have nd := hx.nd
    have perm : (ownedE (env.set i .un) ++ (([b] : List Addr) ++ ownedT T)).Perm ([b] ++ (ownedE (env.set i .un) ++ ownedT T)) := by
      rw [← List.append_assoc, ← List.append_assoc]
      exact List.Perm.append_right _ List.perm_append_comm
    have nd' : ([b] ++ (ownedE (env.set i .un) ++ ownedT T)).Nodup := perm.nodup nd
    exact (List.nodup_append.mp nd').2.2 b (List.mem_singleton.mpr rfl) b hb rfl
  have h1 : Holds K e (env.set i .un) T F' σ H' := by
    refine ⟨l.fh, h0.len, fun j sl q => ?_, fun p hp => (h0.temps p hp).left l (fun b hb z => ?_), h0.nd, h0.s1.trans l.ff, fun b o q n => ?_, h0.s3⟩
    · rcases h0.slots j sl q with z | ⟨w, hw, ok⟩
      · exact .inl z
      · refine .inr ⟨w, hw, ok.left l fun b hb z => ?_⟩
        exact na b (List.mem_append_left _ (mem_ownedE q hb)) (List.mem_singleton.mp z)
    · exact na b (List.mem_append_right _ (List.mem_flatMap.mpr ⟨p, hp, hb⟩)) (List.mem_singleton.mp z)
    · obtain ⟨q1, q2⟩ := h0.s2 b o q n
      have nb : b ∉ [a] := fun z => by
        rw [List.mem_singleton.mp z] at q n
        have mm : a ∈ ownedE env ++ ownedT T := List.mem_append_left _ (mem_ownedE hi (List.mem_singleton.mpr rfl))
        rcases h.s3 a mm with y | y
        · exact n y
        · rw [q] at y
          cases y
      obtain ⟨r1, r2⟩ := l.out b o q1 nb
      exact ⟨r1, fun z => r2 (q2 z)⟩
  have old := h0.ownedH
  have dis : ∀ b ∈ s'.owned ++ r.owned, b ∉ ownedE (env.set i .un) ++ ownedT T := fun b hb hc => by
    rcases own b hb with z | z
    · exact na b hc z
    · obtain ⟨_, vs, q⟩ := old b hc
      rw [z] at q
      cases q
  have fin3 : ∀ b ∈ s'.owned ++ r.owned, b ∈ e.A0 ∨ e.H0 b = none := fun b hb => by
    rcases own b hb with z | z
    · subst z
      exact h.s3 b (List.mem_append_left _ (mem_ownedE hi (List.mem_singleton.mpr rfl)))
    · cases q : e.H0 b with
      | none => exact .inr rfl
      | some o =>
        by_cases hA : b ∈ e.A0
        · exact .inl hA
        · rw [(h.s2 b o q hA).1] at z
          cases z
  -- both come in as temps, then the slot is set
  have h2 : Holds K e (env.set i .un) ((.ref a, s') :: (v, r) :: T) F' σ H' := by
    refine ⟨h1.fh, h1.len, h1.slots, fun p hp => ?_, ?_, h1.s1, h1.s2, fun b hb => ?_⟩
    · rcases List.mem_cons.mp hp with rfl | hp
      · exact ok'
      · rcases List.mem_cons.mp hp with rfl | hp
        · exact ok
        · exact h1.temps p hp
    · show (ownedE (env.set i .un) ++ (s'.owned ++ (r.owned ++ ownedT T))).Nodup
      have z := h0.nd
      rw [← List.append_assoc s'.owned]
      rw [List.nodup_append] at z ⊢
      obtain ⟨z1, z2, z3⟩ := z
      refine ⟨z1, ?_, fun b hb c hc => ?_⟩
      · rw [List.nodup_append]
        exact ⟨nd, z2, fun b hb c hc e => dis b hb (by rw [e]; exact List.mem_append_right _ hc)⟩
      · rcases List.mem_append.mp hc with hc | hc
        · exact fun e => dis c hc (by rw [← e]; exact List.mem_append_left _ hb)
        · exact z3 b hb c hc
    · have hb' : b ∈ ownedE (env.set i .un) ++ (s'.owned ++ (r.owned ++ ownedT T)) := hb
      rw [← List.append_assoc s'.owned] at hb'
      rcases List.mem_append.mp hb' with hc | hc
      · exact h0.s3 b (List.mem_append_left _ hc)
      · rcases List.mem_append.mp hc with hc | hc
        · exact fin3 b hc
        · exact h0.s3 b (List.mem_append_right _ hc)
  have h3 := h2.assign i hp
  rw [List.set_set] at h3
  have z : σ.set i (some (.ref a)) = σ := by
    obtain ⟨hl, q⟩ := List.getElem?_eq_some_iff.mp hw
    rw [← q]
    exact List.set_getElem_self hl
  rw [z] at h3
  exact h3
end
def anyAl : List Sl → Bool
  | [] => false
  | .al _ _ :: _ => true
  | .ar _ _ :: _ => true
  | _ :: r => anyAl r
section
variable {K : PySem.W.Frag} {e : Ent} {env : Env'} {T : Tmp} {σ : St} {H : Hp}
theorem Holds.lend : ∀ {vs : List V} {xs : List Sl} {q : List D → Prop} {F : Hp}, vs.length = xs.length → Holds K e env (vs.zip xs ++ T) F σ H → HD.wds env xs q →
    ∃ ds F1 Fc, q ds ∧ Holds K e env T F1 σ H ∧ Same F F1 ∧ Same F1 Fc ∧ Reps K Fc ds vs ∧ Same Fc H ∧ (∀ b, Fc b ≠ none → F1 b ≠ none ∨ b ∈ ownedE env) ∧ (anyAl xs = false → Fc = F1)
  | [], [], q, F, _, h, w => ⟨[], F, F, w, h, Same.refl _, Same.refl _, rfl, h.fh, fun _ z => .inl z, fun _ => rfl⟩
  | [], _ :: _, _, _, le, _, _ => by cases le
  | _ :: _, [], _, _, le, _, _ => by cases le
  | v :: vs, x :: xs, q, F, le, h, w => by
    have le' : vs.length = xs.length := by simpa using le
    cases x with
    | un => exact w.elim
    | reg _ _ => exact w.elim
    | ar i b =>
      have ev : v = .ref b := h.temps (v, .ar i b) List.mem_cons_self
      have h' : Holds K e env (vs.zip xs ++ T) F σ H := h.pop
      have w' : (match env[i]? with | some (.reg _ cs) => (match cellOf cs b with | some (.lst ds) => HD.wds env xs (fun es => q (.lst ds :: es)) | _ => False) | _ => False) := w
      split at w'
      · rename_i dr cs hb
        split at w'
        · rename_i es hc
          obtain ⟨ds, F1, Fc, w1, h1, s1, s2, r, fh, nw, na⟩ := Holds.lend (q := fun ds => q (.lst es :: ds)) le' h' w'
          obtain ⟨e2, o, hv, us, rfl, hr⟩ := h1.cell hb hc
          have s3 : Same Fc (upd Fc b (.lst us)) := fun c o qc => by
            by_cases nc : c = b
            · rw [nc] at qc ⊢
              have := fh _ _ qc
              rw [hv] at this
              rw [upd_same]
              exact this
            · rw [upd_ne nc]
              exact qc
          refine ⟨.lst es :: ds, F1, upd Fc b (.lst us), w1, h1, s1, s2.trans s3, ⟨v, vs, rfl, ⟨b, us, ev, upd_same, hr.same (s2.trans s3)⟩, r.same s3⟩, fun c o qc => ?_, fun c nc => ?_, fun z => nomatch z⟩
          · by_cases ec : c = b
            · rw [ec, upd_same] at qc
              rw [ec, hv]
              exact qc
            · rw [upd_ne ec] at qc
              exact fh _ _ qc
          · by_cases ec : c = b
            · rw [ec]
              exact .inr (mem_ownedE hb (List.mem_map.mpr ⟨(b, .lst es), cellOf_mem hc, rfl⟩))
            · rw [upd_ne ec] at nc
              exact nw c nc
        · exact w'.elim
      · exact w'.elim
    | ext d =>
      have rd : Rep K F d v := h.temps (v, .ext d) List.mem_cons_self
      have h' : Holds K e env (vs.zip xs ++ T) F σ H := h.pop
      obtain ⟨ds, F1, Fc, w1, h1, s1, s2, r, fh, nw, na⟩ := Holds.lend (q := fun ds => q (d :: ds)) le' h' w
      exact ⟨d :: ds, F1, Fc, w1, h1, s1, s2, ⟨v, vs, rfl, Rep.same (s1.trans s2) rd, r⟩, fh, nw, na⟩
    | lst a es =>
      obtain ⟨F0, s0, h0⟩ := h.freezeT
      have rd : Rep K F0 (.lst es) v := h0.temps (v, .ext (.lst es)) List.mem_cons_self
      have h' : Holds K e env (vs.zip xs ++ T) F0 σ H := h0.pop
      obtain ⟨ds, F1, Fc, w1, h1, s1, s2, r, fh, nw, na⟩ := Holds.lend (q := fun ds => q (.lst es :: ds)) le' h' w
      exact ⟨.lst es :: ds, F1, Fc, w1, h1, s0.trans s1, s2, ⟨v, vs, rfl, Rep.same (s1.trans s2) rd, r⟩, fh, nw, na⟩
    | al i a =>
      have ev : v = .ref a := h.temps (v, .al i a) List.mem_cons_self
      have h' : Holds K e env (vs.zip xs ++ T) F σ H := h.pop
      have w' : (match env[i]? with | some (.lst b ds) => b = a ∧ HD.wds env xs (fun es => q (.lst ds :: es)) | _ => False) := w
      split at w'
      · rename_i b es hb
        obtain ⟨rfl, w'⟩ := w'
        obtain ⟨ds, F1, Fc, w1, h1, s1, s2, r, fh, nw, na⟩ := Holds.lend (q := fun ds => q (.lst es :: ds)) le' h' w'
        rcases h1.slots i _ hb with z | ⟨u, hu, e1, e2, us, hv, hr⟩
        · cases z
        · have s3 : Same Fc (upd Fc b (.lst us)) := fun c o qc => by
            by_cases nc : c = b
            · rw [nc] at qc ⊢
              have := fh _ _ qc
              rw [hv] at this
              rw [upd_same]
              exact this
            · rw [upd_ne nc]
              exact qc
          refine ⟨.lst es :: ds, F1, upd Fc b (.lst us), w1, h1, s1, s2.trans s3, ⟨v, vs, rfl, ⟨b, us, ev, upd_same, hr.same (s2.trans s3)⟩, r.same s3⟩, fun c o qc => ?_, fun c nc => ?_, fun z => nomatch z⟩
          · by_cases ec : c = b
            · rw [ec, upd_same] at qc
              rw [ec, hv]
              exact qc
            · rw [upd_ne ec] at qc
              exact fh _ _ qc
          · by_cases ec : c = b
            · rw [ec]
              exact .inr (mem_ownedE hb (List.mem_singleton.mpr rfl))
            · rw [upd_ne ec] at nc
              exact nw c nc
      · exact w'.elim
theorem Holds.thaw {F1 Fc F' H' : Hp} (h : Holds K e env T F1 σ H) (s2 : Same F1 Fc) (nw : ∀ b, Fc b ≠ none → F1 b ≠ none ∨ b ∈ ownedE env) (l : Left [] Fc H F' H') :
    ∃ F2, Left [] F1 H F2 H' ∧ (∀ (d : D) (v : V), d.imm = true → Rep K F' d v → Rep K F2 d v) ∧ (∀ (ds : List D) (vs : List V), D.imms ds = true → Reps K F' ds vs → Reps K F2 ds vs) ∧ ∀ b, F' b = none → F2 b = none := by
  have old := h.ownedL
  have sT : ∀ a xs, SqT K F' a xs → SqT K (fun b => if b ∈ ownedE env then none else F' b) a xs := fun a xs hs => by
    have out : ∀ o, F' a = some o → a ∈ ownedE env → Loose o := fun o q m => by
      obtain ⟨_, us, hu, lo⟩ := old a (List.mem_append_left _ m)
      have z := (l.out a _ hu (fun z => nomatch z)).1
      rw [l.fh _ _ q] at z
      rw [Option.some.inj z]
      exact lo
    rcases hs with (hs | ⟨o, hs⟩) | hs
    · refine .inl (.inl ?_)
      have n : a ∉ ownedE env := fun m => by
        obtain ⟨z1, z2⟩ := out _ hs m
        first | exact z1 _ rfl | exact z2 _ _ rfl
      show (if a ∈ ownedE env then none else F' a) = _
      rw [if_neg n]
      exact hs
    · refine .inl (.inr ⟨o, ?_⟩)
      have n : a ∉ ownedE env := fun m => by
        obtain ⟨z1, z2⟩ := out _ hs m
        first | exact z1 _ rfl | exact z2 _ _ rfl
      show (if a ∈ ownedE env then none else F' a) = _
      rw [if_neg n]
      exact hs
    · exact .inr hs
  have sD : ∀ a xs, TupD K F' a xs → TupD K (fun b => if b ∈ ownedE env then none else F' b) a xs := fun a xs hs => by
    rcases hs with ⟨o, hs, d⟩ | hs
    · refine .inl ⟨o, ?_, d⟩
      have n : a ∉ ownedE env := fun m => by
        obtain ⟨_, us, hu, lo⟩ := old a (List.mem_append_left _ m)
        have z := (l.out a _ hu (fun z => nomatch z)).1
        rw [l.fh _ _ hs] at z
        cases z
        obtain ⟨z1, z2⟩ := lo
        first | exact z1 _ rfl | exact z2 _ _ rfl
      show (if a ∈ ownedE env then none else F' a) = _
      rw [if_neg n]
      exact hs
    · exact .inr hs
  refine ⟨fun b => if b ∈ ownedE env then none else F' b, ⟨fun b o q => ?_, fun b o q => ?_, fun b o q n => ?_⟩, fun d v n r => Rep.ofT sT sD n r, fun ds vs n r => Reps.ofT sT sD n r, fun b q => ?_⟩
  · have n : b ∉ ownedE env := fun m => by
      rw [(old b (List.mem_append_left _ m)).1] at q
      cases q
    show (if b ∈ ownedE env then none else F' b) = _
    rw [if_neg n]
    exact l.ff _ _ (s2 _ _ q)
  · have q' : (if b ∈ ownedE env then none else F' b) = some o := q
    split at q'
    · cases q'
    · exact l.fh _ _ q'
  · obtain ⟨r1, r2⟩ := l.out b o q n
    refine ⟨r1, fun z => ?_⟩
    show (if b ∈ ownedE env then none else F' b) = none
    by_cases m : b ∈ ownedE env
    · rw [if_pos m]
    · rw [if_neg m]
      refine r2 ?_
      cases y : Fc b with
      | none => rfl
      | some o' =>
        rcases nw b (by rw [y]; simp) with t | t
        · exact absurd z t
        · exact absurd t m
  · show (if b ∈ ownedE env then none else F' b) = none
    split
    · rfl
    · exact q
theorem ownedE_ext (ds : List D) : ownedE (ds.map Sl.ext) = [] := by
  unfold ownedE
  rw [List.flatMap_eq_nil_iff]
  intro x hx
  obtain ⟨d, _, rfl⟩ := List.mem_map.mp hx
  rfl
theorem argsE {F : Hp} {ds : List D} {vs : List V} (fh : Same F H) (r : Reps K F ds vs) : Holds K (entOf F H (ds.map .ext)) (ds.map .ext) [] F (vs.map some) H := by
  have own := ownedE_ext ds
  refine ⟨fh, by rw [List.length_map, List.length_map, r.length], fun i sl q => ?_, (fun p hp => nomatch hp), by rw [own]; exact List.nodup_nil, Same.refl _, fun a o q _ => ⟨q, fun z => z⟩, fun a ha => ?_⟩
  · rw [List.getElem?_map] at q
    cases z : ds[i]? with
    | none =>
      rw [z] at q
      cases q
    | some d =>
      rw [z] at q
      have e := Option.some.inj q
      subst e
      obtain ⟨v, hv, rd⟩ := r.get z
      exact .inr ⟨v, by rw [List.getElem?_map, hv]; rfl, rd⟩
  · rw [own] at ha
    cases ha
end
def dCall (spec : DSpec) (ta : DTA) : DT := fun Ex env Q => ta Ex env fun xs env1 => wds env1 xs fun ds =>
  spec (ds.map .ext) (fun r _ => (anyAl xs = false ∨ r.imm = true) ∧ r.plain ∧ Q r env1) (fun c _ => Ex c env1)
theorem im_call {K : PySem.W.Frag} {W : WX} {spec : DSpec} {n : Nat} {ta : TA} {t : DTA} (h : ImA K W ta t) (hn : ∀ ds Q X, spec ds Q X → ds.length = n) : Im K W (tCallS (toSp K n spec) (WE W) ta) (dCall spec t) := fun e Ex hl env T F σ H Q R hh ht hR => by
  refine h e Ex hl env T F σ H _ _ hh ht fun vs H1 F1 env1 xs le hh1 q1 => ?_
  obtain ⟨ds, F2, Fc, q2, hh2, sm1, sm2, rr, fh, nw, na⟩ := hh1.lend le q1
  have back : ∀ (H' F' : Hp), Same Fc F' → Same F' H' → (∀ a o, H1 a = some o → a ∉ ownedE (ds.map Sl.ext) → H' a = some o ∧ (Fc a = none → F' a = none)) → Left [] Fc H1 F' H' := fun H' F' a b c => ⟨a, b, fun x o q _ => c x o q (by rw [ownedE_ext]; exact fun z => nomatch z)⟩
  refine ⟨Fc, ds.map .ext, _, _, ?_, argsE fh rr, q2, fun v H' F' r fin hf hq => ?_, fun c H' F' fin hf hq => ?_⟩
  · rw [← hn _ _ _ q2, List.length_map, rr.length]
  · obtain ⟨qi, qp, q3⟩ := hq
    have l := back H' F' hf.s1 hf.fh hf.s2
    have own : ∀ a ∈ r.owned, H1 a = none := fun a ha => by
      have m : a ∈ ownedE fin ++ ownedT [(v, r)] := List.mem_append_right _ (by
        show a ∈ r.owned ++ []
        rw [List.append_nil]
        exact ha)
      rcases hf.s3 a m with z | z
      · have z' : a ∈ ownedE (ds.map Sl.ext) := z
        rw [ownedE_ext] at z'
        cases z'
      · exact z
    have ok := hf.temps (v, r) List.mem_cons_self
    by_cases al : anyAl xs = false
    · have ec := na al
      subst ec
      exact hR v H' F' env1 r (hh2.left0 l ok own) q3
    · have im : r.imm = true := by
        rcases qi with z | z
        · exact absurd z al
        · exact z
      obtain ⟨F3, l3, t1, t2, t3⟩ := hh2.thaw sm2 nw l
      refine hR v H' F3 env1 r (hh2.left0 l3 ?_ own) q3
      cases r with
      | un => exact nomatch im
      | al i a => exact nomatch im
      | reg _ _ => exact nomatch im
      | ar _ _ => exact nomatch im
      | ext d => exact t1 d v im ok
      | lst a es =>
        obtain ⟨e1, e2, us, hu, hr⟩ := ok
        exact ⟨e1, t3 _ e2, us, hu, t2 es us im hr⟩
  · have l := back H' F' hf.s1 hf.fh hf.s2
    obtain ⟨F3, l3, _, _, _⟩ := hh2.thaw sm2 nw l
    have h4 := hh2.left0 (v := .non) (r := .ext .non) l3 rfl (fun a z => nomatch z)
    exact hl c env1 F3 σ H' h4.bare hq
def dCallJ (spec : DSpec) (i : Nat) (ta : DTA) : DT := fun Ex env Q => match env[i]? with
  | some (.lst a _) => ta Ex env fun xs env1 => match env1[i]? with
    | some (.lst b ds) => b = a ∧ frozs env1 xs fun es => spec (.lst a ds :: es.map .ext)
        (fun r fin => match fin with | s' :: _ => s'.plain ∧ r.plain ∧ Q r (env1.set i s') | [] => False) (fun c fin => match fin with | s' :: _ => s'.plain ∧ Ex c (env1.set i s') | [] => False)
    | _ => False
  | _ => False
theorem im_callJ {K : PySem.W.Frag} {W : WX} {spec : DSpec} {n i : Nat} {ta : TA} {t : DTA} (h : ImA K W ta t) (hn : ∀ ds Q X, spec ds Q X → ds.length = n) : Im K W (tCallS (toSp K n spec) (WE W) (tCons (tVar i) ta)) (dCallJ spec i t) := fun e Ex hl env T F σ H Q R hh ht hR => by
  unfold dCallJ at ht
  split at ht
  · rename_i a ds0 hi0
    rcases hh.slots i _ hi0 with z | ⟨v0, hv0, e0, _⟩
    · cases z
    · subst e0
      refine ⟨_, hv0, ?_⟩
      refine h e Ex hl env T F σ H _ _ hh ht fun vs H1 F1 env1 xs le hh1 q1 => ?_
      split at q1
      · rename_i b ds hi
        obtain ⟨rfl, q1⟩ := q1
        obtain ⟨es, F2, sm, hh2, rr, q2⟩ := hh1.frozs le q1
        have own0 : ownedE (Sl.lst b ds :: es.map Sl.ext) = [b] := by
          show [b] ++ ownedE (es.map Sl.ext) = [b]
          rw [ownedE_ext, List.append_nil]
        have hs := hh2.slots i _ hi
        have okJ : SlOk K F2 H1 (.ref b) (.lst b ds) := by
          rcases hs with z | ⟨w, _, e1, r⟩
          · cases z
          · exact ⟨rfl, r⟩
        have hE := argsE (K := K) hh2.fh rr
        have hA : Holds K (entOf F2 H1 (Sl.lst b ds :: es.map Sl.ext)) (Sl.lst b ds :: es.map Sl.ext) [] F2 ((V.ref b :: vs).map some) H1 := by
          refine ⟨hh2.fh, ?_, fun j sl q => ?_, (fun p hp => nomatch hp), ?_, Same.refl _, fun a o q _ => ⟨q, fun z => z⟩, fun a ha => ?_⟩
          · have z := hE.len
            show (es.map Sl.ext).length + 1 = (vs.map some).length + 1
            rw [z]
          · cases j with
            | zero =>
              have z := Option.some.inj q
              subst z
              exact .inr ⟨.ref b, rfl, okJ⟩
            | succ j => exact hE.slots j sl q
          · rw [own0]
            show ([b] ++ ([] : List Addr)).Nodup
            simp
          · rw [show ownedT ([] : Tmp) = [] from rfl, List.append_nil] at ha
            exact .inl ha
        have back : ∀ (H' F' : Hp) (fin : Env') (U : Tmp), Holds K (entOf F2 H1 (Sl.lst b ds :: es.map Sl.ext)) fin U F' ((V.ref b :: vs).map some) H' → Left [b] F2 H1 F' H' := fun H' F' fin U hf =>
          ⟨hf.s1, hf.fh, fun x o q nx => hf.s2 x o q (by
            show x ∉ ownedE (Sl.lst b ds :: es.map Sl.ext)
            rw [own0]
            exact nx)⟩
        have ownF : ∀ (H' F' : Hp) (fin : Env') (U : Tmp), Holds K (entOf F2 H1 (Sl.lst b ds :: es.map Sl.ext)) fin U F' ((V.ref b :: vs).map some) H' → ∀ x ∈ ownedE fin ++ ownedT U, x = b ∨ H1 x = none := fun H' F' fin U hf x hx => by
          rcases hf.s3 x hx with z | z
          · have z' : x ∈ ownedE (Sl.lst b ds :: es.map Sl.ext) := z
            rw [own0] at z'
            exact .inl (List.mem_singleton.mp z')
          · exact .inr z
        refine ⟨F2, Sl.lst b ds :: es.map Sl.ext, _, _, ?_, hA, q2, fun v H' F' r fin hf hq => ?_, fun c H' F' fin hf hq => ?_⟩
        · rw [← hn _ _ _ q2]
          show vs.length + 1 = (es.map Sl.ext).length + 1
          rw [List.length_map, rr.length]
        · cases fin with
          | nil => exact hq.elim
          | cons s' fr =>
            obtain ⟨qs, qr, q3⟩ := hq
            have ok' : SlOk K F' H' (.ref b) s' := by
              rcases hf.slots 0 s' rfl with z | ⟨w, hw, ok⟩
              · subst z
                trivial
              · have z := Option.some.inj (Option.some.inj hw)
                subst z
                exact ok
            have sub : (s'.owned ++ r.owned).Sublist (ownedE (s' :: fr) ++ ownedT [(v, r)]) := by
              show (s'.owned ++ r.owned).Sublist ((s'.owned ++ ownedE fr) ++ (r.owned ++ []))
              rw [List.append_nil]
              exact (List.sublist_append_left _ _).append (List.Sublist.refl _)
            exact hR v H' F' _ r (hh2.left1 hi (back H' F' _ _ hf) (hf.temps (v, r) List.mem_cons_self) ok' (fun x hx => ownF H' F' _ _ hf x (sub.subset hx)) (hf.nd.sublist sub) qs) q3
        · cases fin with
          | nil => exact hq.elim
          | cons s' fr =>
            obtain ⟨qs, q3⟩ := hq
            have ok' : SlOk K F' H' (.ref b) s' := by
              rcases hf.slots 0 s' rfl with z | ⟨w, hw, ok⟩
              · subst z
                trivial
              · have z := Option.some.inj (Option.some.inj hw)
                subst z
                exact ok
            have sub : (s'.owned ++ (Sl.ext .non).owned).Sublist (ownedE (s' :: fr) ++ ownedT []) := by
              show (s'.owned ++ []).Sublist ((s'.owned ++ ownedE fr) ++ [])
              rw [List.append_nil, List.append_nil]
              exact List.sublist_append_left _ _
            have h5 := hh2.left1 (v := .non) (r := .ext .non) hi (back H' F' _ _ hf) rfl ok' (fun x hx => ownF H' F' _ _ hf x (sub.subset hx)) (hf.nd.sublist sub) qs
            exact hl c _ F' σ H' h5.bare q3
      · exact q1.elim
  · exact ht.elim
structure Def (G : GG) (kf : Nat) (x : Str) (n : Nat) (spec : DSpec) : Prop where
  ex : ∃ f fd ps, FnG G.P G.w G.K G.mg G.base (L2.CX G.P G.w) kf f fd ps (toSp G.K n spec) ∧ G.mg x = some (.ref f) ∧ PySem.W.keepIn G.K (.ref f) = true ∧ Binds G.K fd ps []
  len : ∀ ds Q X, spec ds Q X → ds.length = n
section
variable {G : GG} {N : List Str} {sc : SC} {k kf n : Nat} {x : Str} {spec : DSpec} {e : Expr} {es : List Expr} {p pos : Pos}
theorem Def.pe {W : WX} {X : Cx} {ta : TA} (d : Def G kf x n spec) (S : Sit G N sc W k X) (hk : kf ≤ k) (hg : GlS sc x) (ha : PA X (e :: es) ta) (hdb : (x == ("__debug__" : Str)) = false) (he : NoStar e es) (hpl : ∀ env, (backTo pos (starEach es env)).any (·.1) = false) :
    PE X (.Call (.Name x p) (e :: es) [] pos) (tCallS (toSp G.K n spec) (WE W) ta) := by
  obtain ⟨f, fd, ps, h1, h2, h3, h4⟩ := d.ex
  have pass : ∀ σ, PassesAt (L2.CX X.prog X.w) X σ (WE W σ) := fun σ => passAt S.tk σ
  rw [← S.prog, ← S.w, ← S.K, ← S.mg, ← S.base] at h1
  rw [← S.K] at h3 h4 ⊢
  rw [← S.mg] at h2
  refine ⟨fun pins s σ H Q I h => ?_⟩
  refine wpAny_Call_Name_kw (ld_glob I (S.gl hg) h2 ?_ hdb)
  refine PySem.W.callWith_K (h₀ := X.base) I.ok.mod.kin h3 (thn (ha.run pos pins s σ H _ I h) fun us s1 ⟨vs, H1, I1, r, q⟩ => ⟨I1.kIn, ?_⟩) (he _) (hpl _)
  exact runG h1 S.gd (S.room.mono hk) h4 (pass σ) I1 r q
theorem de_call {ta : DTA} (d : Def G kf x n spec) (ha : DAs G N sc k (e :: es) ta) (hk : kf ≤ k := by decide) (hg : GlS sc x := by rfl) (hdb : (x == ("__debug__" : Str)) = false := by decide) (he : NoStar e es := by intro _; rfl) (hpl : ∀ env, (backTo pos (starEach es env)).any (·.1) = false := by intro _; rfl) :
    DE G N sc k (.Call (.Name x p) (e :: es) [] pos) (dCall spec ta) := ⟨fun W => by
  obtain ⟨te, p1, i1⟩ := ha.ex W
  exact ⟨tCallS (toSp G.K n spec) (WE W) te, fun X S => d.pe S hk hg (p1 X S) hdb he hpl, im_call i1 d.len⟩⟩
theorem de_callJ {ta : DTA} {y : Str} {py : Pos} (i : Nat) (d : Def G kf x n spec) (ha : DAs G N sc k es ta) (hk : kf ≤ k := by decide) (hg : GlS sc x := by rfl) (hN : N[i]? = some y := by rfl)
    (hv : Vis sc.sc y := by first | exact Or.inl rfl | exact Or.inr (Or.inl rfl) | exact Or.inr (Or.inr rfl)) (hdb : (x == ("__debug__" : Str)) = false := by decide) (hdy : (y == ("__debug__" : Str)) = false := by decide) (hcy : (y == ("__classdict__" : Str)) = false := by decide)
    (he : NoStar (.Name y py) es := by intro _; rfl) (hpl : ∀ env, (backTo pos (starEach es env)).any (·.1) = false := by intro _; rfl) :
    DE G N sc k (.Call (.Name x p) (.Name y py :: es) [] pos) (dCallJ spec i ta) := ⟨fun W => by
  obtain ⟨te, p1, i1⟩ := ha.ex W
  refine ⟨tCallS (toSp G.K n spec) (WE W) (tCons (tVar i) te), fun X S => d.pe S hk hg (pa_cons (pe_var (by rw [S.nms]; exact hN) (S.vis hv) hdy hcy) (p1 X S) (he _)) hdb he hpl, im_callJ i1 d.len⟩⟩
end
end HD
namespace HD
open PySem L2
structure DEnds where
  nx : Env' → Prop
  rt : Sl → Env' → Prop
  bk : Env' → Prop := fun _ => False
  ct : Env' → Prop := fun _ => False
abbrev DTS := DX → DEnds → Env' → Prop
structure EndsOk (K : PySem.W.Frag) (e : Ent) (E : DEnds) (Dn : Ends) : Prop where
  nx : ∀ env F σ H, Holds K e env [] F σ H → E.nx env → Dn.nx σ H
  rt : ∀ env F σ H v r, Holds K e env [(v, r)] F σ H → E.rt r env → Dn.rt v H
  bk : ∀ env F σ H, Holds K e env [] F σ H → E.bk env → Dn.bk σ H
  ct : ∀ env F σ H, Holds K e env [] F σ H → E.ct env → Dn.ct σ H
def ImS (K : PySem.W.Frag) (W : WX) (ts : TS) (t : DTS) : Prop :=
  ∀ (e : Ent) (Ex : DX), Link K e W Ex → ∀ (env : Env') (F : Hp) (σ : St) (H : Hp) (E : DEnds) (Dn : Ends), Holds K e env [] F σ H → t Ex E env → EndsOk K e E Dn → ts Dn σ H
structure DS (G : GG) (N : List Str) (sc : SC) (k : Nat) (st : Stmt) (t : DTS) : Prop where
  ex : ∀ W : WX, ∃ ts, (∀ X, Sit G N sc W k X → PS X st ts) ∧ ImS G.K W ts t
structure DSs (G : GG) (N : List Str) (sc : SC) (k : Nat) (st : List Stmt) (t : DTS) : Prop where
  ex : ∀ W : WX, ∃ ts, (∀ X, Sit G N sc W k X → PSs X st ts) ∧ ImS G.K W ts t
section
variable {G : GG} {N : List Str} {sc : SC} {k : Nat} {st : Stmt} {rest : List Stmt} {t u : DTS} {a : Expr} {ta : DT} {pos : Pos}
def sNext : DTS := fun _ E env => E.nx env
def sSeq (t u : DTS) : DTS := fun Ex E env => t Ex { E with nx := fun env1 => u Ex E env1 } env
theorem dss_nil : DSs G N sc k [] sNext := ⟨fun W => ⟨tNext, fun X S => pss_nil, fun e Ex hl env F σ H E Dn hh ht ok => ok.nx env F σ H hh ht⟩⟩
theorem dss_cons (h1 : DS G N sc k st t) (h2 : DSs G N sc k rest u) : DSs G N sc k (st :: rest) (sSeq t u) := ⟨fun W => by
  obtain ⟨ts, p1, i1⟩ := h1.ex W
  obtain ⟨us, p2, i2⟩ := h2.ex W
  refine ⟨tSeq ts us, fun X S => pss_cons (p1 X S) (p2 X S), fun e Ex hl env F σ H E Dn hh ht ok => ?_⟩
  exact i1 e Ex hl env F σ H _ _ hh ht ⟨fun env1 F1 σ1 H1 hh1 q1 => i2 e Ex hl env1 F1 σ1 H1 E Dn hh1 q1 ok, ok.rt, ok.bk, ok.ct⟩⟩
theorem dss_one (h1 : DS G N sc k st t) : DSs G N sc k [st] t := ⟨fun W => by
  obtain ⟨ts, p1, i1⟩ := h1.ex W
  exact ⟨ts, fun X S => pss_one (p1 X S), i1⟩⟩
def sBreak : DTS := fun _ E env => E.bk env
def sCont : DTS := fun _ E env => E.ct env
def sDrop (t : DT) : DTS := fun Ex E env => t Ex env fun _ env1 => E.nx env1
theorem ds_expr (h : DE G N sc k a ta) (hs : ∀ env, swapsWith a none pos.line env = pure false := by intro _; rfl) : DS G N sc k (.Expr a pos) (sDrop ta) := ⟨fun W => by
  obtain ⟨te, p1, i1⟩ := h.ex W
  refine ⟨tDrop te, fun X S => ps_expr (p1 X S) (hs _), fun e Ex hl env F σ H E Dn hh ht ok => ?_⟩
  exact i1 e Ex hl env [] F σ H _ _ hh ht fun v H1 F1 env1 x hh1 q1 => ok.nx env1 F1 σ H1 hh1.pop q1⟩
def retD (env : Env') (x : Sl) (q : Sl → Env' → Prop) : Prop := match x with
  | .al i a => match env[i]? with
    | some (.lst b ds) => b = a ∧ q (.lst a ds) (env.set i .un)
    | _ => False
  | .un => False
  | .ext d => q (.ext d) env
  | .lst a ds => q (.lst a ds) env
  | .reg a cs => q (.reg a cs) env
  | .ar _ _ => False
def sRet (t : DT) : DTS := fun Ex E env => t Ex env fun x env1 => retD env1 x E.rt
theorem Holds.ret {K : PySem.W.Frag} {e : Ent} {env : Env'} {T : Tmp} {F : Hp} {σ : St} {H : Hp} {v : V} {x : Sl} {q : Sl → Env' → Prop} (h : Holds K e env ((v, x) :: T) F σ H) (w : retD env x q) : ∃ r env', Holds K e env' ((v, r) :: T) F σ H ∧ r.plain ∧ q r env' := by
  cases x with
  | un => exact w.elim
  | ext d => exact ⟨_, _, h, trivial, w⟩
  | lst a ds => exact ⟨_, _, h, trivial, w⟩
  | reg a ds => exact ⟨_, _, h, trivial, w⟩
  | ar _ _ => exact w.elim
  | al i a =>
    have ev : v = .ref a := h.temps (v, .al i a) List.mem_cons_self
    have w' : (match env[i]? with | some (.lst b ds) => b = a ∧ q (.lst a ds) (env.set i .un) | _ => False) := w
    split at w'
    · rename_i b ds hb
      obtain ⟨rfl, w'⟩ := w'
      rcases h.slots i _ hb with z | ⟨u, hu, e1, _⟩
      · cases z
      · subst e1
        subst ev
        exact ⟨_, _, h.pop.take hb hu, trivial, w'⟩
    · exact w'.elim
theorem ds_ret (h : DE G N sc k a ta) : DS G N sc k (.Return (some a) pos) (sRet ta) := ⟨fun W => by
  obtain ⟨te, p1, i1⟩ := h.ex W
  refine ⟨tRet te, fun X S => ps_ret (p1 X S), fun e Ex hl env F σ H E Dn hh ht ok => ?_⟩
  refine i1 e Ex hl env [] F σ H _ _ hh ht fun v H1 F1 env1 x hh1 q1 => ?_
  obtain ⟨r, env2, hh2, _, q2⟩ := hh1.ret q1
  exact ok.rt env2 F1 σ H1 v r hh2 q2⟩
def sRetN : DTS := fun _ E env => E.rt (.ext .non) env
def sIf (c : DTT) (t u : DTS) : DTS := fun Ex E env => c Ex env fun b env1 => if b = true then t Ex E env1 else u Ex E env1
theorem ds_if {c : Expr} {x y : List Stmt} {tc : DTT} (hc : DTe G N sc k c tc) (h1 : DSs G N sc k x t) (h2 : DSs G N sc k y u) : DS G N sc k (.If c x y pos) (sIf tc t u) := ⟨fun W => by
  obtain ⟨tt, p0, i0⟩ := hc.ex W
  obtain ⟨ts, p1, i1⟩ := h1.ex W
  obtain ⟨us, p2, i2⟩ := h2.ex W
  refine ⟨tIfS tt ts us, fun X S => ps_if (p0 X S) (p1 X S) (p2 X S), fun e Ex hl env F σ H E Dn hh ht ok => ?_⟩
  refine i0 e Ex hl env [] F σ H _ _ hh ht fun b H1 F1 env1 hh1 q1 => ?_
  cases b with
  | true =>
    rw [if_pos rfl] at q1 ⊢
    exact i1 e Ex hl env1 F1 σ H1 E Dn hh1 q1 ok
  | false =>
    rw [if_neg Bool.false_ne_true] at q1 ⊢
    exact i2 e Ex hl env1 F1 σ H1 E Dn hh1 q1 ok⟩
def sFz (i : Nat) (t : DTS) : DTS := fun Ex E env => match env[i]? with
  | some (.lst _ ds) => t Ex E (env.set i (.ext (.lst ds)))
  | _ => t Ex E env
abbrev DTG := D → Env' → (Env' → Prop) → Prop
def Only (vs : List Nat) (σ σ' : St) : Prop := (∀ i, i ∉ vs → σ'[i]? = σ[i]?) ∧ σ'.length = σ.length
def ImG (K : PySem.W.Frag) (vs : List Nat) (g : TG) (t : DTG) : Prop := ∀ (e : Ent) (env : Env') (T : Tmp) (F : Hp) (σ : St) (H : Hp) (v : V) (d : D) (Q : Env' → Prop) (R : St → Hp → Prop),
  Holds K e env T F σ H → Rep K F d v → t d env Q → (∀ env' σ', Holds K e env' T F σ' H → Only vs σ σ' → Q env' → R σ' H) → g v σ H R
structure DG (G : GG) (N : List Str) (sc : SC) (tg : Expr) (vs : List Nat) (t : DTG) : Prop where
  ex : ∃ g, (∀ W k X, Sit G N sc W k X → PG X tg g) ∧ ImG G.K vs g t
def LocS (sc : SC) (x : Str) : Prop := sc.sc.names.lookup x = some .local ∨ (sc.sc.names.lookup x = some .cell ∧ sc.own x = true)
theorem Sit.loc {W : WX} {X : Cx} {x : Str} (S : Sit G N sc W k X) (h : LocS sc x) : Loc X.env.scope x ∧ (X.fn x = true ∨ X.env.scope.names.lookup x = some .local) := by
  rcases h with h | h
  · exact ⟨.inl (by rw [S.scp]; exact h), .inr (by rw [S.scp]; exact h)⟩
  · exact ⟨.inr (by rw [S.scp]; exact h.1), .inl (S.fn x h.2)⟩
def gSet (i : Nat) : DTG := fun d env Q => Q (env.set i (.ext d))
theorem dg_name {x : Str} (i : Nat) (hi : N[i]? = some x := by rfl) (hx : LocS sc x := by first | exact Or.inl rfl | exact Or.inr ⟨rfl, rfl⟩) : DG G N sc (.Name x pos) [i] (gSet i) :=
  ⟨gName i, fun W k X S => pg_name (by rw [S.nms]; exact S.nd) (by rw [S.nms]; exact hi) (S.loc hx).1 (S.loc hx).2,
    fun e env T F σ H v d Q R hh rd ht hR => hR _ _ ((hh.pushE rd).assign i trivial) ⟨fun j hj => List.getElem?_set_ne (fun z => hj (by rw [← z]; exact List.mem_singleton.mpr rfl)), List.length_set⟩ ht⟩
abbrev DTGs := List D → Env' → (Env' → Prop) → Prop
def ImGs (K : PySem.W.Frag) (us : List Nat) (g : TGs) (t : DTGs) : Prop := ∀ (e : Ent) (env : Env') (T : Tmp) (F : Hp) (σ : St) (H : Hp) (vs : List V) (ds : List D) (Q : Env' → Prop) (R : St → Hp → Prop),
  Holds K e env T F σ H → Reps K F ds vs → t ds env Q → (∀ env' σ', Holds K e env' T F σ' H → Only us σ σ' → Q env' → R σ' H) → g vs σ H R
structure DGs (G : GG) (N : List Str) (sc : SC) (tgs : List Expr) (vs : List Nat) (t : DTGs) : Prop where
  ex : ∃ g, (∀ W k X, Sit G N sc W k X → PGs X tgs g) ∧ ImGs G.K vs g t
def gsNil : DTGs := fun ds env Q => ds = [] ∧ Q env
def gsCons (t : DTG) (u : DTGs) : DTGs := fun ds env Q => match ds with
  | d :: r => t d env fun env1 => u r env1 Q
  | [] => False
theorem dgs_nil : DGs G N sc [] [] gsNil := ⟨gNil, fun W k X S => pgs_nil, fun e env T F σ H vs ds Q R hh rd ht hR => by
    obtain ⟨rfl, ht⟩ := ht
    exact ⟨rd, hR env σ hh ⟨fun _ _ => rfl, rfl⟩ ht⟩⟩
theorem dgs_cons {e : Expr} {es : List Expr} {vs us : List Nat} {t : DTG} {u : DTGs} (h1 : DG G N sc e vs t) (h2 : DGs G N sc es us u)
    (hs : ∀ env, (assignEach (e :: es) env).map (·.2) = assign e env :: (assignEach es env).map (·.2) := by intro _; rfl) : DGs G N sc (e :: es) (vs ++ us) (gsCons t u) := by
  obtain ⟨g, p1, i1⟩ := h1.ex
  obtain ⟨gs, p2, i2⟩ := h2.ex
  refine ⟨gCons g gs, fun W k X S => pgs_cons (p1 W k X S) (p2 W k X S) (hs _), fun en env T F σ H xs ds Q R hh rd ht hR => ?_⟩
  cases ds with
  | nil => exact ht.elim
  | cons d r =>
    obtain ⟨v, vr, rfl, r1, r2⟩ := rd
    refine ⟨v, vr, rfl, i1 en env T F σ H v d _ _ hh r1 ht fun env1 σ1 hh1 o1 q1 => ?_⟩
    exact i2 en env1 T F σ1 H vr r Q R hh1 r2 q1 fun env2 σ2 hh2 o2 q2 => hR env2 σ2 hh2 ⟨fun i hi => (o2.1 i fun z => hi (List.mem_append_right _ z)).trans (o1.1 i fun z => hi (List.mem_append_left _ z)), o2.2.trans o1.2⟩ q2
def gTupD (n : Nat) (t : DTGs) : DTG := fun d env Q => match d with
  | .tup ds => ds.length = n ∧ t ds env Q
  | .tk ds => ds.length = n ∧ t ds env Q
  | _ => False
theorem dg_tup {es : List Expr} {kk : Nat} {vs : List Nat} {t : DTGs} {n : Nat} (h : DGs G N sc es vs t) (hn : ∀ env, (assignEach es env).length = n := by intro _; rfl) (hst : ∀ env, (assignEach es env).findIdx? (·.1) = none := by intro _; rfl) : DG G N sc (.Tuple es kk pos) vs (gTupD n t) := by
  obtain ⟨g, p1, i1⟩ := h.ex
  refine ⟨gTup G.K n g, fun W k X S => ?_, fun en env T F σ H v d Q R hh rd ht hR => ?_⟩
  · rw [← S.K]
    exact pg_tup S.calm (p1 W k X S) (hn _) (hst _)
  · cases d with
    | tup ds =>
      obtain ⟨a, xs, rfl, hs, hr⟩ := rd
      obtain ⟨hl, ht⟩ := ht
      exact ⟨a, xs, rfl, SqT.same hh.fh hs.sq, by rw [← hr.length]; exact hl, i1 en env T F σ H xs ds Q R hh hr ht hR⟩
    | tk ds =>
      obtain ⟨a, xs, rfl, hs, hr⟩ := rd
      obtain ⟨hl, ht⟩ := ht
      exact ⟨a, xs, rfl, SqT.same hh.fh hs, by rw [← hr.length]; exact hl, i1 en env T F σ H xs ds Q R hh hr ht hR⟩
    | _ => exact ht.elim
def sSet (i : Nat) (t : DT) : DTS := fun Ex E env => t Ex env fun x env1 => retD env1 x fun r env2 => E.nx (env2.set i r)
theorem imS_set {K : PySem.W.Frag} {W : WX} {te : TE} {t : DT} (i : Nat) (h : Im K W te t) : ImS K W (tAsg te (gName i)) (sSet i t) := fun e Ex hl env F σ H E Dn hh ht ok => by
  refine h e Ex hl env [] F σ H _ _ hh ht fun v H1 F1 env1 x hh1 q1 => ?_
  obtain ⟨r, env2, hh2, hp, q2⟩ := hh1.ret q1
  exact ok.nx _ F1 _ H1 (hh2.assign i hp) q2
theorem ds_set {x : Str} {pos' : Pos} (i : Nat) (h : DE G N sc k a ta) (hi : N[i]? = some x := by rfl) (hx : LocS sc x := by first | exact Or.inl rfl | exact Or.inr ⟨rfl, rfl⟩) (hs : ∀ env, env.scope = sc.sc → swapsWith a (some (.Name x pos')) pos.line env = pure false := by intro _ _; rfl) : DS G N sc k (.Assign [.Name x pos'] a pos) (sSet i ta) := ⟨fun W => by
  obtain ⟨te, p1, i1⟩ := h.ex W
  exact ⟨tAsg te (gName i), fun X S => ps_set (by rw [S.nms]; exact S.nd) (by rw [S.nms]; exact hi) (S.loc hx).1 (p1 X S) (hs _ S.scp) (S.loc hx).2, imS_set i i1⟩⟩
def sSetE (i : Nat) (t : DT) : DTS := fun Ex E env => t Ex env fun x env1 => frzD env1 x fun d env2 => E.nx (env2.set i (.ext d))
theorem imS_setE {K : PySem.W.Frag} {W : WX} {te : TE} {t : DT} (i : Nat) (h : Im K W te t) : ImS K W (tAsg te (gName i)) (sSetE i t) := fun e Ex hl env F σ H E Dn hh ht ok => by
  refine h e Ex hl env [] F σ H _ _ hh ht fun v H1 F1 env1 x hh1 q1 => ?_
  obtain ⟨d, F2, env2, _, hh2, rd, q2⟩ := hh1.frz1 q1
  exact ok.nx _ F2 _ H1 ((hh2.pushE rd).assign i trivial) q2
theorem ds_setE {x : Str} {pos' : Pos} (i : Nat) (h : DE G N sc k a ta) (hi : N[i]? = some x := by rfl) (hx : LocS sc x := by first | exact Or.inl rfl | exact Or.inr ⟨rfl, rfl⟩) (hs : ∀ env, env.scope = sc.sc → swapsWith a (some (.Name x pos')) pos.line env = pure false := by intro _ _; rfl) : DS G N sc k (.Assign [.Name x pos'] a pos) (sSetE i ta) := ⟨fun W => by
  obtain ⟨te, p1, i1⟩ := h.ex W
  exact ⟨tAsg te (gName i), fun X S => ps_set (by rw [S.nms]; exact S.nd) (by rw [S.nms]; exact hi) (S.loc hx).1 (p1 X S) (hs _ S.scp) (S.loc hx).2, imS_setE i i1⟩⟩
def sAsg (t : DT) (g : DTG) : DTS := fun Ex E env => t Ex env fun x env1 => frzD env1 x fun d env2 => g d env2 E.nx
theorem ds_asg {tg : Expr} {vs : List Nat} {g : DTG} (h : DE G N sc k a ta) (hg : DG G N sc tg vs g) (hs : ∀ env, swapsWithSole [tg] a pos.line env = pure false := by intro _; rfl) (hw : ∀ env, swappedStores [tg] a env = pure none := by intro _; rfl)
    (h1 : ∀ env, (assignEach [tg] env).map (·.2) = [assign tg env] := by intro _; rfl) : DS G N sc k (.Assign [tg] a pos) (sAsg ta g) := ⟨fun W => by
  obtain ⟨te, p1, i1⟩ := h.ex W
  obtain ⟨gg, p2, i2⟩ := hg.ex
  refine ⟨tAsg te gg, fun X S => ps_asg (p1 X S) (p2 W k X S) (hs _) (hw _) (h1 _), fun e Ex hl env F σ H E Dn hh ht ok => ?_⟩
  refine i1 e Ex hl env [] F σ H _ _ hh ht fun v H1 F1 env1 x hh1 q1 => ?_
  obtain ⟨d, F2, env2, _, hh2, rd, q2⟩ := hh1.frz1 q1
  exact i2 e env2 [] F2 σ H1 v d E.nx Dn.nx hh2 rd q2 fun env3 σ3 hh3 _ q3 => ok.nx env3 F2 σ3 H1 hh3 q3⟩
def Src (K : PySem.W.Frag) (J : It) (items : List D) (keep : Env' → Prop) (F0 : Hp) : Prop :=
  ∀ (e : Ent) (env : Env') (T : Tmp) (F : Hp) (σ : St) (H : Hp) (i : Nat), Holds K e env T F σ H → Same F0 F → keep env →
    (items.length = i → J.stop i H) ∧ ∀ d, items[i]? = some d → J.go i H ∧ ∀ x H2, J.yld i H x H2 → ∃ F2, Grow F H F2 H2 ∧ Rep K F2 d x
abbrev DTI := DX → Env' → (List D → (Env' → Prop) → Env' → Prop) → Prop
def ImI (K : PySem.W.Frag) (W : WX) (wi : TI) (t : DTI) : Prop := ∀ (e : Ent) (Ex : DX), Link K e W Ex → ∀ (env : Env') (T : Tmp) (F : Hp) (σ : St) (H : Hp) (Q : List D → (Env' → Prop) → Env' → Prop) (R : It → Hp → Prop),
  Holds K e env T F σ H → t Ex env Q → (∀ J H' F' env' items keep, Holds K e env' T F' σ H' → Src K J items keep F' → Q items keep env' → R J H') → wi σ H R
structure DI (G : GG) (N : List Str) (sc : SC) (k : Nat) (tg iter : Expr) (t : DTI) : Prop where
  ex : ∀ W : WX, ∃ wi, (∀ X, Sit G N sc W k X → PI X tg iter wi) ∧ ImI G.K W wi t
def atC (i : Nat) (b : Addr) (ds : List D) (env : Env') : Prop := ∃ d cs, env[i]? = some (.reg d cs) ∧ cellOf cs b = some (.lst ds)
def iterD (env : Env') (x : Sl) (q : List D → (Env' → Prop) → Prop) : Prop := match x with
  | .ext (.lst ds) => q ds fun _ => True
  | .lst _ ds => q ds fun _ => True
  | .al i a => match env[i]? with
    | some (.lst b ds) => b = a ∧ q ds fun env' => env'[i]? = some (.lst a ds)
    | _ => False
  | .ar i b => match env[i]? with
    | some (.reg _ cs) => match cellOf cs b with
      | some (.lst ds) => q ds (atC i b ds)
      | _ => False
    | _ => False
  | _ => False
def dIterT (t : DT) : DTI := fun Ex env Q => t Ex env fun x env1 => match x with
  | .ext (.tup ds) => Q ds (fun _ => True) env1
  | _ => False
def rgD (lo hi : Int) : List D := (List.range (hi - lo).toNat).map fun i => D.int (lo + (i : Nat))
theorem src_range {K : PySem.W.Frag} {F0 : Hp} {lo hi : Int} : Src K (Itr lo (hi - lo).toNat) (rgD lo hi) (fun _ => True) F0 := fun e env T F σ H i hh sm _ => by
  have hl : (rgD lo hi).length = (hi - lo).toNat := by
    unfold rgD
    rw [List.length_map, List.length_range]
  refine ⟨fun h => by rw [hl] at h; exact Nat.le_of_eq h, fun d hd => ?_⟩
  have hi' : i < (hi - lo).toNat := by
    rw [← hl]
    exact (List.getElem?_eq_some_iff.mp hd).1
  unfold rgD at hd
  rw [List.getElem?_map, List.getElem?_range hi'] at hd
  have ed := Option.some.inj hd
  refine ⟨hi', fun x H2 hy => ?_⟩
  obtain ⟨rfl, ex⟩ := hy
  refine ⟨F, Grow.refl hh.fh, ?_⟩
  rw [ex, ← ed]
  exact rfl
def small62 (i : Int) : Prop := -(2 ^ 62) ≤ i ∧ i < 2 ^ 62
def dRange1 (t : DTA) : DTI := fun Ex env Q => t Ex env fun xs env1 => match xs with
  | [.ext (.int j)] => small62 j ∧ Q (rgD 0 j) (fun _ => True) env1
  | _ => False
def dRange2 (t : DTA) : DTI := fun Ex env Q => t Ex env fun xs env1 => match xs with
  | [.ext (.int i), .ext (.int j)] => small62 i ∧ small62 j ∧ Q (rgD i j) (fun _ => True) env1
  | _ => False
theorem di_range1 {tg : Expr} {t : DTA} {p : Pos} (h : DAs G N sc k [a] t) (hm : G.mg "range" = none) (hg : GlS sc "range" := by rfl) (hs : ∀ env, starEach [a] env = [(false, eval a env)] := by intro _; rfl) : DI G N sc k tg (.Call (.Name "range" p) [a] [] pos) (dRange1 t) := ⟨fun W => by
  obtain ⟨te, p1, i1⟩ := h.ex W
  refine ⟨iRng1 te, fun X S => pi_range1 (S.gl hg) (by rw [S.mg]; exact hm) (p1 X S) (hs _), fun e Ex hl env T F σ H Q R hh ht hR => ?_⟩
  refine i1 e Ex hl env T F σ H _ _ hh ht fun vs H1 F1 env1 xs le hh1 q1 => ?_
  split at q1
  · rename_i j
    match vs, le, hh1 with
    | [v], _, hh1 =>
      have ev : v = .int j := hh1.temps (v, .ext (.int j)) List.mem_cons_self
      have z := src_range (K := G.K) (F0 := F1) (lo := 0) (hi := j)
      rw [Int.sub_zero] at z
      exact ⟨j, by rw [ev], q1.1.1, q1.1.2, hR _ H1 F1 env1 _ _ hh1.pop z q1.2⟩
  · exact q1.elim⟩
theorem di_range2 {b : Expr} {tg : Expr} {t : DTA} {p : Pos} (h : DAs G N sc k [a, b] t) (hm : G.mg "range" = none) (hg : GlS sc "range" := by rfl) (hs : ∀ env, starEach [a, b] env = [(false, eval a env), (false, eval b env)] := by intro _; rfl) (hs2 : ∀ env, starEach [b] env = [(false, eval b env)] := by intro _; rfl) :
    DI G N sc k tg (.Call (.Name "range" p) [a, b] [] pos) (dRange2 t) := ⟨fun W => by
  obtain ⟨te, p1, i1⟩ := h.ex W
  refine ⟨iRng2 te, fun X S => pi_range2 (S.gl hg) (by rw [S.mg]; exact hm) (p1 X S) (hs _) (hs2 _), fun e Ex hl env T F σ H Q R hh ht hR => ?_⟩
  refine i1 e Ex hl env T F σ H _ _ hh ht fun vs H1 F1 env1 xs le hh1 q1 => ?_
  split at q1
  · rename_i i j
    match vs, le, hh1 with
    | [v, w], _, hh1 =>
      have ev : v = .int i := hh1.temps (v, .ext (.int i)) List.mem_cons_self
      have ew : w = .int j := hh1.temps (w, .ext (.int j)) (List.mem_cons_of_mem _ List.mem_cons_self)
      exact ⟨i, j, by rw [ev, ew], ⟨q1.1.1, q1.1.2, q1.2.1.1, q1.2.1.2⟩, hR _ H1 F1 env1 _ _ hh1.pop.pop src_range q1.2.2⟩
  · exact q1.elim⟩
abbrev Ent.at (e : Ent) (F1 : Hp) : Ent := ⟨F1, e.H0, e.A0⟩
section
variable {K : PySem.W.Frag} {e : Ent} {env env1 : Env'} {T T1 : Tmp} {F F1 : Hp} {σ σ1 : St} {H H1 : Hp}
theorem Holds.on (h1 : Holds K e env1 T1 F1 σ1 H1) (h : Holds K e env T F σ H) (sm : Same F1 F) : Holds K (e.at F1) env T F σ H :=
  ⟨h.fh, h.len, h.slots, h.temps, h.nd, sm, fun a o q n => ⟨(h.s2 a o q n).1, fun z => (h.s2 a o q n).2 (h1.s1.free z)⟩, h.s3⟩
theorem Holds.off (h1 : Holds K e env1 T1 F1 σ1 H1) (h : Holds K (e.at F1) env T F σ H) : Holds K e env T F σ H :=
  ⟨h.fh, h.len, h.slots, h.temps, h.nd, h1.s1.trans h.s1, fun a o q n => ⟨(h.s2 a o q n).1, fun z => (h.s2 a o q n).2 ((h1.s2 a o q n).2 z)⟩, h.s3⟩
theorem Link.on {W : WX} {Ex : DX} (h1 : Holds K e env1 T1 F1 σ1 H1) (hl : Link K e W Ex) : Link K (e.at F1) W Ex := fun c env F σ H h q => hl c env F σ H (h1.off h) q
theorem EndsOk.on {E : DEnds} {Dn : Ends} (h1 : Holds K e env1 T1 F1 σ1 H1) (ok : EndsOk K e E Dn) : EndsOk K (e.at F1) E Dn :=
  ⟨fun env F σ H h q => ok.nx env F σ H (h1.off h) q, fun env F σ H v r h q => ok.rt env F σ H v r (h1.off h) q, fun env F σ H h q => ok.bk env F σ H (h1.off h) q, fun env F σ H h q => ok.ct env F σ H (h1.off h) q⟩
end
def forD (g : DTG) (body : DTS) (keep : Env' → Prop) (Ex : DX) (E : DEnds) : List D → Env' → Prop
  | [], env => keep env ∧ E.nx env
  | d :: ds, env => keep env ∧ g d env fun env1 => body Ex { E with nx := forD g body keep Ex E ds, ct := forD g body keep Ex E ds, bk := E.nx } env1
def sFor (ti : DTI) (g : DTG) (body : DTS) : DTS := fun Ex E env => ti Ex env fun items keep env1 => forD g body keep Ex E items env1
theorem forD_keep {g : DTG} {body : DTS} {keep : Env' → Prop} {Ex : DX} {E : DEnds} : ∀ {ds : List D} {env : Env'}, forD g body keep Ex E ds env → keep env
  | [], _, h => h.1
  | _ :: _, _, h => h.1
theorem ds_for {tg iter : Expr} {body : List Stmt} {ti : DTI} {vs : List Nat} {g : DTG} {tb : DTS} (hi : DI G N sc k tg iter ti) (hg : DG G N sc tg vs g) (hb : DSs G N sc k body tb) (hs : ∀ env x, foldedSetIterable iter env x = pure x := by intro _ _; rfl) : DS G N sc k (.For tg iter body [] pos) (sFor ti g tb) := ⟨fun W => by
  obtain ⟨wi, p1, i1⟩ := hi.ex W
  obtain ⟨gg, p2, i2⟩ := hg.ex
  obtain ⟨ts, p3, i3⟩ := hb.ex W
  refine ⟨tFor wi gg ts, fun X S => ps_for S.own S.calm (p1 X S) (p2 W k X S) (p3 X S) (hs _), fun e Ex hl env F σ H E Dn hh ht ok => ?_⟩
  refine i1 e Ex hl env [] F σ H _ _ hh ht fun J H1 F1 env1 items keep hh1 src q1 => ?_
  have ok' := ok.on hh1
  refine ⟨fun i m σ' H' => ∃ env' F', Holds G.K (e.at F1) env' [] F' σ' H' ∧ i + m = items.length ∧ forD g tb keep Ex E (items.drop i) env', ⟨items.length, env1, F1, hh1.on hh1 (Same.refl _), by omega, q1⟩, ?_⟩
  rintro i m σ2 H2 ⟨env2, F2, hh2, em, q2⟩
  obtain ⟨s1, s2⟩ := src (e.at F1) env2 [] F2 σ2 H2 i hh2 hh2.s1 (forD_keep q2)
  cases hd : items[i]? with
  | none =>
    have hi : items.length ≤ i := List.getElem?_eq_none_iff.mp hd
    rw [List.drop_eq_nil_of_le hi] at q2
    exact .inl ⟨s1 (by omega), ok'.nx env2 F2 σ2 H2 hh2 q2.2⟩
  | some d =>
    obtain ⟨hi, ed⟩ := List.getElem?_eq_some_iff.mp hd
    rw [List.drop_eq_getElem_cons hi, ed] at q2
    obtain ⟨_, q2⟩ := q2
    obtain ⟨go, yl⟩ := s2 d hd
    refine .inr ⟨go, fun σ' H' => ∃ env' F', Holds G.K (e.at F1) env' [] F' σ' H' ∧ forD g tb keep Ex E (items.drop (i + 1)) env', fun σ' H' ⟨env', F', a1, a3⟩ => ⟨m - 1, by omega, env', F', a1, by omega, a3⟩, fun x H3 hy => ?_⟩
    obtain ⟨F3, gr, rd⟩ := yl x H3 hy
    refine i2 (e.at F1) env2 [] F3 σ2 H3 x d _ _ (hh2.grow gr) rd q2 fun env4 σ4 hh4 _ q4 => ?_
    exact i3 (e.at F1) Ex (hl.on hh1) env4 F3 σ4 H3 _ _ hh4 q4 ⟨fun env5 F5 σ5 H5 hh5 q5 => ⟨env5, F5, hh5, q5⟩, ok'.rt, fun env5 F5 σ5 H5 hh5 q5 => ok'.nx env5 F5 σ5 H5 hh5 q5, fun env5 F5 σ5 H5 hh5 q5 => ⟨env5, F5, hh5, q5⟩⟩⟩
def sWhile (c : DTT) (body : DTS) : DTS := fun Ex E env => ∃ I : Nat → Env' → Prop, (∃ m, I m env) ∧ ∀ m env, I m env → c Ex env fun b env1 =>
  if b = true then body Ex { E with nx := fun env' => ∃ m', m' < m ∧ I m' env', ct := fun env' => ∃ m', m' < m ∧ I m' env', bk := E.nx } env1 else E.nx env1
theorem ds_while {c : Expr} {body : List Stmt} {tc : DTT} {tb : DTS} (hc : DTe G N sc k c tc) (hb : DSs G N sc k body tb) : DS G N sc k (.While c body [] pos) (sWhile tc tb) := ⟨fun W => by
  obtain ⟨tt, p1, i1⟩ := hc.ex W
  obtain ⟨ts, p2, i2⟩ := hb.ex W
  refine ⟨tWhile tt ts, fun X S => ps_while S.own (p1 X S) (p2 X S), fun e Ex hl env F σ H E Dn hh ht ok => ?_⟩
  obtain ⟨I, ⟨m0, h0⟩, turn⟩ := ht
  refine ⟨fun m σ' H' => ∃ env' F', Holds G.K e env' [] F' σ' H' ∧ I m env', ⟨m0, env, F, hh, h0⟩, ?_⟩
  rintro m σ1 H1 ⟨env1, F1, hh1, q1⟩
  refine i1 e Ex hl env1 [] F1 σ1 H1 _ _ hh1 (turn m env1 q1) fun b H2 F2 env2 hh2 q2 => ?_
  cases b with
  | true =>
    rw [if_pos rfl] at q2 ⊢
    refine ⟨fun σ' H' => ∃ m', m' < m ∧ ∃ env' F', Holds G.K e env' [] F' σ' H' ∧ I m' env', fun σ' H' z => z, ?_⟩
    exact i2 e Ex hl env2 F2 σ1 H2 _ _ hh2 q2 ⟨fun env5 F5 σ5 H5 hh5 ⟨m', hm, q5⟩ => ⟨m', hm, env5, F5, hh5, q5⟩, ok.rt, fun env5 F5 σ5 H5 hh5 q5 => ok.nx env5 F5 σ5 H5 hh5 q5, fun env5 F5 σ5 H5 hh5 ⟨m', hm, q5⟩ => ⟨m', hm, env5, F5, hh5, q5⟩⟩
  | false =>
    rw [if_neg Bool.false_ne_true] at q2 ⊢
    exact ok.nx env2 F2 σ1 H2 hh2 q2⟩
end
end HD
namespace HD
open PySem L2
def wipeE (env : Env') : List Nat → Env'
  | [] => env
  | v :: vs => (wipeE env vs).set v .un
section
variable {K : PySem.W.Frag} {e : Ent} {env : Env'} {T : Tmp} {F : Hp} {σ : St} {H : Hp}
theorem Holds.wipe1 (h : Holds K e env T F σ H) (i : Nat) : Holds K e (env.set i .un) T F (σ.set i none) H := by
  have h1 := h.unset i
  refine ⟨h1.fh, by rw [List.length_set, List.length_set]; exact h.len, fun j sl q => ?_, h1.temps, h1.nd, h1.s1, h1.s2, h1.s3⟩
  by_cases ij : i = j
  · subst ij
    rw [List.getElem?_set] at q
    rw [if_pos rfl] at q
    split at q
    · cases q
      exact .inl rfl
    · cases q
  · rcases h1.slots j sl q with z | ⟨v, hv, ok⟩
    · exact .inl z
    · exact .inr ⟨v, by rw [List.getElem?_set_ne ij]; exact hv, ok⟩
theorem Holds.wipe (h : Holds K e env T F σ H) : ∀ vs : List Nat, Holds K e (wipeE env vs) T F (wipe σ vs) H
  | [] => h
  | v :: vs => (Holds.wipe h vs).wipe1 v
theorem Holds.unwipe {vs : List Nat} (h : Holds K e env T F (L2.wipe σ vs) H) : Holds K e env T F σ H :=
  ⟨h.fh, by rw [h.len, wipe_length], fun j sl q => by
    rcases h.slots j sl q with z | ⟨v, hv, ok⟩
    · exact .inl z
    · exact .inr ⟨v, (wipe_some hv).1, ok⟩, h.temps, h.nd, h.s1, h.s2, h.s3⟩
end
theorem wipe_in {σ : St} {i : Nat} : ∀ {vs : List Nat}, i ∈ vs → i < σ.length → (wipe σ vs)[i]? = some none
  | [], h, _ => nomatch h
  | v :: vs, h, hl => by
    unfold wipe
    rw [List.getElem?_set]
    by_cases e : v = i
    · rw [if_pos e, if_pos (by rw [wipe_length, e]; exact hl)]
    · rw [if_neg e]
      rcases List.mem_cons.mp h with z | z
      · exact absurd z.symm e
      · exact wipe_in z hl
theorem wipe_only {σ σ2 : St} {vs : List Nat} (h : Only vs (wipe σ vs) σ2) : wipe σ2 vs = wipe σ vs := by
  have hl : σ2.length = σ.length := by rw [h.2, wipe_length]
  refine List.ext_getElem? fun i => ?_
  by_cases m : i ∈ vs
  · by_cases il : i < σ.length
    · rw [wipe_in m il, wipe_in m (by rw [hl]; exact il)]
    · rw [List.getElem?_eq_none (by rw [wipe_length, hl]; omega), List.getElem?_eq_none (by rw [wipe_length]; omega)]
  · rw [wipe_out m, h.1 i m]
section
variable {G : GG} {N : List Str} {sc : SC} {k : Nat}
theorem Sit.blk {W : WX} {X : Cx} (S : Sit G N sc W k X) (s : Shared) (H : Hp) (scope : Scope) (C : Addr) (cl : List (Str × Addr)) (fp : List Addr) : Sit G N (lcS scope sc) (fun _ _ _ _ => False) k (X.blk s H scope (compEnvC scope cl C X.env) fp) where
  prog := S.prog
  w := S.w
  K := S.K
  mg := S.mg
  base := S.base
  nms := S.nms
  nd := S.nd
  scp := by
    show relabel scope X.env = relab scope sc.sc
    unfold relabel relab
    rw [← S.scp]
    rfl
  calm := S.calm
  room := S.room
  tk := L2.takes0
  fn := fun x h => h
  own := PassesOwn.never
  stk := fun z => by cases z
  gd := S.gd
def dYes : DTT := fun _ env Q => Q true env
structure DTl (G : GG) (N : List Str) (sc : SC) (k : Nat) (ifs : List Expr) (t : DTT) : Prop where
  ex : ∀ W : WX, ∃ te, (∀ X, Sit G N sc W k X → PTs X ifs te) ∧ ImT G.K W te t
theorem dtl_nil : DTl G N sc k [] dYes := ⟨fun W => ⟨tYes, fun X S => pts_nil, fun e Ex hl env T F σ H Q R hh ht hR => hR true H F env hh ht⟩⟩
theorem dtl_one {c : Expr} {t : DTT} (h : DTe G N sc k c t) : DTl G N sc k [c] t := ⟨fun W => by
  obtain ⟨te, p1, i1⟩ := h.ex W
  exact ⟨te, fun X S => pts_one (p1 X S), i1⟩⟩
abbrev noX : DX := fun _ _ => False
def lcD (g : DTG) (tt : DTT) (te : DT) (vs : List Nat) (keep : Env' → Prop) (Q : Sl → Env' → Prop) : List D → List D → Env' → Prop
  | [], acc, env => keep env ∧ ∀ a, Q (.lst a acc) env
  | d :: ds, acc, env => keep env ∧ acc.length < sizeLine ∧ g d env fun env1 => tt noX env1 fun b env2 =>
      if b = true then te noX env2 fun x env3 => frzD env3 x fun d' env4 => lcD g tt te vs keep Q ds (acc ++ [d']) (wipeE env4 vs) else lcD g tt te vs keep Q ds acc (wipeE env2 vs)
def dLc (ti : DTI) (g : DTG) (tt : DTT) (te : DT) (vs : List Nat) : DT := fun Ex env Q => ti Ex env fun items keep env1 => lcD g tt te vs keep Q items [] (wipeE env1 vs)
theorem lcD_keep {g : DTG} {tt : DTT} {te : DT} {vs : List Nat} {keep : Env' → Prop} {Q : Sl → Env' → Prop} : ∀ {ds acc : List D} {env : Env'}, lcD g tt te vs keep Q ds acc env → keep env
  | [], _, _, h => h.1
  | _ :: _, _, _, h => h.1
theorem im_lc {K : PySem.W.Frag} {W : WX} {wi : TI} {gg : TG} {tt' : TT} {te' : TE} {ti : DTI} {g : DTG} {tt : DTT} {te : DT} {vs : List Nat} (i1 : ImI K W wi ti) (i2 : ImG K vs gg g) (i3 : ImT K (fun _ _ _ _ => False) tt' tt) (i4 : Im K (fun _ _ _ _ => False) te' te) : Im K W (tLc wi gg tt' te' vs) (dLc ti g tt te vs) := fun e Ex hl env T F σ H Q R hh ht hR => by
  refine i1 e Ex hl env T F σ H _ _ hh ht fun J H1 F1 env1 items keep hh1 src q1 => fun D hD => ?_
  have nl : Link K (e.at F1) (fun _ _ _ _ => False) noX := fun _ _ _ _ _ _ z => z
  have h0 : Holds K e env1 ((V.ref D, Sl.lst D []) :: T) F1 σ (upd H1 D (.lst [])) := hh1.push (Grow.loose hh1.fh hD) ⟨rfl, hh1.fh.free hD, [], upd_same, rfl⟩ fun a ha => by
    rw [List.mem_singleton.mp ha]
    exact hD
  refine ⟨fun i m H' => ∃ env' F' acc, Holds K (e.at F1) env' ((V.ref D, Sl.lst D acc) :: T) F' (wipe σ vs) H' ∧ i + m = items.length ∧ lcD g tt te vs keep Q (items.drop i) acc env',
    ⟨items.length, wipeE env1 vs, F1, [], (hh1.on h0 (Same.refl _)).wipe vs, by omega, q1⟩, ?_⟩
  rintro i m H2 ⟨env2, F2, acc, hh2, em, q2⟩
  obtain ⟨s1, s2⟩ := src (e.at F1) env2 _ F2 _ H2 i hh2 hh2.s1 (lcD_keep q2)
  cases hd : items[i]? with
  | none =>
    have hi : items.length ≤ i := List.getElem?_eq_none_iff.mp hd
    rw [List.drop_eq_nil_of_le hi] at q2
    exact .inl ⟨s1 (by omega), hR _ H2 F2 env2 _ (hh1.off hh2.unwipe) (q2.2 D)⟩
  | some d =>
    obtain ⟨hi, ed⟩ := List.getElem?_eq_some_iff.mp hd
    rw [List.drop_eq_getElem_cons hi, ed] at q2
    obtain ⟨_, hz, q2⟩ := q2
    obtain ⟨go, yl⟩ := s2 d hd
    refine .inr ⟨go, fun H' => ∃ env' F' acc, Holds K (e.at F1) env' ((V.ref D, Sl.lst D acc) :: T) F' (wipe σ vs) H' ∧ lcD g tt te vs keep Q (items.drop (i + 1)) acc env', fun H' ⟨env', F', acc', a1, a3⟩ => ⟨m - 1, by omega, env', F', acc', a1, by omega, a3⟩, fun x H3 hy => ?_⟩
    obtain ⟨F3, gr, rd⟩ := yl x H3 hy
    refine i2 (e.at F1) env2 _ F3 _ H3 x d _ _ (hh2.grow gr) rd q2 fun env4 σ4 hh4 on4 q4 => ⟨wipe_only on4, ?_⟩
    refine i3 (e.at F1) noX nl env4 _ F3 σ4 H3 _ _ hh4 q4 fun b H5 F5 env5 hh5 q5 => ?_
    cases b with
    | false =>
      rw [if_neg Bool.false_ne_true] at q5 ⊢
      have z := hh5.wipe vs
      rw [wipe_only on4] at z
      exact ⟨_, F5, acc, z, q5⟩
    | true =>
      rw [if_pos rfl] at q5 ⊢
      refine i4 (e.at F1) noX nl env5 _ F5 σ4 H5 _ _ hh5 q5 fun y H6 F6 env6 sl hh6 q6 => ?_
      obtain ⟨d', F7, env7, _, hh7, rd', q7⟩ := hh6.frz1 q6
      obtain ⟨_, _, us, hu, hr⟩ := hh7.temps (V.ref D, Sl.lst D acc) List.mem_cons_self
      refine ⟨us, hu, by rw [← hr.length]; exact hz, ?_⟩
      have z := (hh7.writeT (hr.append (.one rd'))).wipe vs
      rw [wipe_only on4] at z
      exact ⟨_, F7, _, z, q7⟩
variable {elt tg iter : Expr} {ifs : List Expr} {scope : Scope} {own : List (Str × Nat)} {pos : Pos} {ti : DTI} {g : DTG} {tt : DTT} {te : DT}
theorem de_lc (own : List (Str × Nat)) (hi : DI G N sc k tg iter ti) (ok : blkC N sc.sc scope own = true) (hg : DG G N (lcS scope sc) tg (own.map (·.2)) g) (ht : DTl G N (lcS scope sc) k ifs tt) (he : DE G N (lcS scope sc) k elt te) (hs : ∀ env x, foldedSetIterable iter env x = pure x := by intro _ _; rfl) :
    DE G N sc k (.ListComp elt [⟨tg, iter, ifs, 0⟩] scope pos) (dLc ti g tt te (own.map (·.2))) := ⟨fun W => by
  obtain ⟨wi, p1, i1⟩ := hi.ex W
  obtain ⟨gg, p2, i2⟩ := hg.ex
  obtain ⟨tt', p3, i3⟩ := ht.ex fun _ _ _ _ => False
  obtain ⟨te', p4, i4⟩ := he.ex fun _ _ _ _ => False
  refine ⟨tLc wi gg tt' te' (own.map (·.2)), fun X S => ?_, im_lc i1 i2 i3 i4⟩
  exact pe_lc S.calm (by rw [S.nms]; exact S.nd) (p1 X S) (by rw [S.nms, S.scp]; exact blkOk_by ok) (fun s H C cl fp => p2 _ _ _ (S.blk s H scope C cl fp)) (fun s H C cl fp => p3 _ (S.blk s H scope C cl fp)) (fun s H C cl fp => p4 _ (S.blk s H scope C cl fp)) (hs _)⟩
theorem ds_setLc (own : List (Str × Nat)) {y : Str} {py spos : Pos} (i : Nat) (hi : DI G N sc k tg iter ti) (ok : blkC N sc.sc scope own = true) (hg : DG G N (lcS scope sc) tg (own.map (·.2)) g) (ht : DTl G N (lcS scope sc) k ifs tt) (he : DE G N (lcS scope sc) k elt te) (hy : N[i]? = some y := by rfl) (hyl : sc.sc.names.lookup y = some .local := by rfl)
    (hk : sc.sc.kind = .function := by rfl) (hl : (py.line == pos.line) = true := by rfl) (ha : (scope.names.any fun (n, k) => n == y && (k == .local || k == .cell)) = false := by decide +kernel) (hs : ∀ env x, foldedSetIterable iter env x = pure x := by intro _ _; rfl) :
    DS G N sc k (.Assign [.Name y py] (.ListComp elt [⟨tg, iter, ifs, 0⟩] scope pos) spos) (sSet i (dLc ti g tt te (own.map (·.2)))) := ⟨fun W => by
  obtain ⟨wi, p1, i1⟩ := hi.ex W
  obtain ⟨gg, p2, i2⟩ := hg.ex
  obtain ⟨tt', p3, i3⟩ := ht.ex fun _ _ _ _ => False
  obtain ⟨te', p4, i4⟩ := he.ex fun _ _ _ _ => False
  refine ⟨tAsg (tLc wi gg tt' te' (own.map (·.2))) (gName i), fun X S => ?_, imS_set i (im_lc i1 i2 i3 i4)⟩
  have hyX : X.env.scope.names.lookup y = some .local := by
    rw [S.scp]
    exact hyl
  exact ps_setLc S.calm (by rw [S.nms]; exact S.nd) (by rw [S.nms]; exact hy) hyX (sw_true (by rw [S.scp]; exact hk) hyX hl ha) (p1 X S) (by rw [S.nms, S.scp]; exact blkOk_by ok) (fun s H C cl fp => p2 _ _ _ (S.blk s H scope C cl fp)) (fun s H C cl fp => p3 _ (S.blk s H scope C cl fp)) (fun s H C cl fp => p4 _ (S.blk s H scope C cl fp)) (hs _)⟩
theorem ds_setLcE (own : List (Str × Nat)) {y : Str} {py spos : Pos} (i : Nat) (hi : DI G N sc k tg iter ti) (ok : blkC N sc.sc scope own = true) (hg : DG G N (lcS scope sc) tg (own.map (·.2)) g) (ht : DTl G N (lcS scope sc) k ifs tt) (he : DE G N (lcS scope sc) k elt te) (hy : N[i]? = some y := by rfl) (hyl : sc.sc.names.lookup y = some .local := by rfl)
    (hk : sc.sc.kind = .function := by rfl) (hl : (py.line == pos.line) = true := by rfl) (ha : (scope.names.any fun (n, k) => n == y && (k == .local || k == .cell)) = false := by decide +kernel) (hs : ∀ env x, foldedSetIterable iter env x = pure x := by intro _ _; rfl) :
    DS G N sc k (.Assign [.Name y py] (.ListComp elt [⟨tg, iter, ifs, 0⟩] scope pos) spos) (sSetE i (dLc ti g tt te (own.map (·.2)))) := ⟨fun W => by
  obtain ⟨wi, p1, i1⟩ := hi.ex W
  obtain ⟨gg, p2, i2⟩ := hg.ex
  obtain ⟨tt', p3, i3⟩ := ht.ex fun _ _ _ _ => False
  obtain ⟨te', p4, i4⟩ := he.ex fun _ _ _ _ => False
  refine ⟨tAsg (tLc wi gg tt' te' (own.map (·.2))) (gName i), fun X S => ?_, imS_setE i (im_lc i1 i2 i3 i4)⟩
  have hyX : X.env.scope.names.lookup y = some .local := by
    rw [S.scp]
    exact hyl
  exact ps_setLc S.calm (by rw [S.nms]; exact S.nd) (by rw [S.nms]; exact hy) hyX (sw_true (by rw [S.scp]; exact hk) hyX hl ha) (p1 X S) (by rw [S.nms, S.scp]; exact blkOk_by ok) (fun s H C cl fp => p2 _ _ _ (S.blk s H scope C cl fp)) (fun s H C cl fp => p3 _ (S.blk s H scope C cl fp)) (fun s H C cl fp => p4 _ (S.blk s H scope C cl fp)) (hs _)⟩
theorem start_holds {K : PySem.W.Frag} {e : Ent} {args : Env'} {F H : Hp} {vs : List V} (N : List Str) (h : Holds K e args [] F (vs.map some) H) : Holds K e (args ++ List.replicate (N.length - vs.length) .un) [] F (L2.start N vs) H := by
  have own : ownedE (args ++ List.replicate (N.length - vs.length) Sl.un) = ownedE args := by
    unfold ownedE
    rw [List.flatMap_append]
    have z : (List.replicate (N.length - vs.length) Sl.un).flatMap Sl.owned = [] := by
      rw [List.flatMap_eq_nil_iff]
      intro x hx
      rw [List.eq_of_mem_replicate hx]
      rfl
    rw [z, List.append_nil]
  have hl : args.length = vs.length := by
    have z := h.len
    rw [List.length_map] at z
    exact z
  refine ⟨h.fh, ?_, fun i sl q => ?_, h.temps, by rw [own]; exact h.nd, h.s1, h.s2, by rw [own]; exact h.s3⟩
  · unfold L2.start
    rw [List.length_append, List.length_append, List.length_replicate, List.length_replicate, h.len]
  · by_cases hi : i < args.length
    · rw [List.getElem?_append_left hi] at q
      rcases h.slots i sl q with z | ⟨v, hv, ok⟩
      · exact .inl z
      · refine .inr ⟨v, ?_, ok⟩
        unfold L2.start
        rw [List.getElem?_append_left (by rw [List.length_map, ← hl]; exact hi)]
        exact hv
    · rw [List.getElem?_append_right (by omega)] at q
      rw [List.getElem?_replicate] at q
      split at q
      · cases q
        exact .inl rfl
      · cases q
abbrev endsOf (args : Env') (Qd : Sl → List Sl → Prop) : DEnds := { nx := fun env => Qd (.ext .non) (finals args env), rt := fun r env => Qd r (finals args env) }
abbrev exOf (args : Env') (Xd : Str → List Sl → Prop) : DX := fun c env => Xd c (finals args env)
theorem fn_ok {st : Stmt} {x qual : Str} {f : Addr} {fd : FuncData} {ps : List Str} {tb : DTS} {spec : DSpec} (F : Fun G.K x qual st f fd) (S : FnScope N ps (defScope st)) (hb : DSs G N (fnS (defScope st)) k (defBody st) tb)
    (h : ∀ args Qd Xd, spec args Qd Xd → args.length = ps.length → tb (exOf args Xd) (endsOf args Qd) (args ++ List.replicate (N.length - args.length) .un)) : FnG G.P G.w G.K G.mg G.base (L2.CX G.P G.w) (k + 1) f fd ps (toSp G.K ps.length spec) := by
  refine fnG_of F S (fun vs H Q E h => ?_) (fun cdv A outer s H vs Q E gd hr hsp => ?_)
  · obtain ⟨_, _, _, _, hl, _⟩ := h
    exact hl
  · obtain ⟨F0, args, Qd, Xd, hl, hA, hs, hQ, hX⟩ := hsp
    obtain ⟨ts, p1, i1⟩ := hb.ex fun cls d _ H => E cls d H
    have al : args.length = vs.length := by
      have z := hA.len
      rw [List.length_map] at z
      exact z
    refine ⟨ts, p1 _ ?_, ?_⟩
    · exact ⟨rfl, rfl, rfl, rfl, rfl, rfl, S.nd, rfl, rfl, hr, takes_of rfl rfl rfl rfl, fun _ _ => rfl, passes_of rfl, fun _ => ⟨rfl, rfl⟩, gd⟩
    · have hh := start_holds N hA
      rw [← al] at hh
      refine i1 (entOf F0 H args) (exOf args Xd) (fun c env F' σ' H' hh' q => hX c H' F' _ (hA.finals hh') q) _ F0 _ H (endsOf args Qd) _ hh (h args Qd Xd hs (al.trans hl)) ⟨fun env F' σ' H' hh' q => ?_, fun env F' σ' H' v r hh' q => hQ v H' F' r _ (hA.finals hh') q, fun _ _ _ _ _ z => z, fun _ _ _ _ _ z => z⟩
      exact hQ .non H' F' (.ext .non) _ (hA.finals (hh'.pushE rfl)) q
end
end HD
namespace HD
open PySem L2
def SqX (b : Bool) (K : PySem.W.Frag) (H : Hp) (a : Addr) (xs : List V) : Prop := if b = true then SqT K H a xs else SqL K H a xs
def seqD (env : Env') (x : Sl) (q : List D → (Env' → Prop) → Prop) : Prop := match x with
  | .ext (.tup ds) => q ds fun _ => True
  | x => iterD env x q
def dZip (ta tb : DT) : DTI := fun Ex env Q => ta Ex env fun x env1 => tb Ex env1 fun y env2 => seqD env2 x fun xs k1 => seqD env2 y fun ys k2 => Q ((xs.zip ys).map fun p => D.tk [p.1, p.2]) (fun env' => k1 env' ∧ k2 env') env2
def Stands (K : PySem.W.Frag) (b : Bool) (a : Addr) (ds : List D) (k : Env' → Prop) (F0 : Hp) : Prop :=
  ∀ (e : Ent) (env : Env') (T : Tmp) (F : Hp) (σ : L2.St) (H : Hp), Holds K e env T F σ H → Same F0 F → k env → ∃ vs, SqX b K H a vs ∧ Reps K F ds vs
theorem Holds.seqD {K : PySem.W.Frag} {e : Ent} {env : Env'} {T : Tmp} {F : Hp} {σ : L2.St} {H : Hp} {v : V} {x : Sl} {q : List D → (Env' → Prop) → Prop} (h : Holds K e env ((v, x) :: T) F σ H) (w : HD.seqD env x q) :
    ∃ b a ds k F1, v = .ref a ∧ q ds k ∧ Same F F1 ∧ Holds K e env T F1 σ H ∧ Stands K b a ds k F1 ∧ k env := by
  have fz : ∀ (ds : List D) (F1 : Hp), Same F F1 → Holds K e env ((v, .ext (.lst ds)) :: T) F1 σ H → q ds (fun _ => True) → ∃ b a ds k F1, v = .ref a ∧ q ds k ∧ Same F F1 ∧ Holds K e env T F1 σ H ∧ Stands K b a ds k F1 ∧ k env := fun ds F1 sm h1 w => by
    obtain ⟨a, vs, rfl, hb, hr⟩ := h1.temps (v, .ext (.lst ds)) List.mem_cons_self
    exact ⟨false, a, ds, _, F1, rfl, w, sm, h1.pop, fun e' env' T' F' σ' H' hh s _ => ⟨vs, SqL.of (hh.fh _ _ (s _ _ hb)), hr.same s⟩, trivial⟩
  cases x with
  | un => exact w.elim
  | reg _ _ => exact w.elim
  | ar i b =>
    have ev : v = .ref b := h.temps (v, .ar i b) List.mem_cons_self
    have w' : (match env[i]? with | some (.reg _ cs) => (match cellOf cs b with | some (.lst ds) => q ds (atC i b ds) | _ => False) | _ => False) := w
    split at w'
    · rename_i d cs hc
      split at w'
      · rename_i ds hd
        refine ⟨false, b, ds, _, F, ev, w', Same.refl _, h.pop, fun e' env' T' F' σ' H' hh s kk => ?_, ⟨d, cs, hc, hd⟩⟩
        obtain ⟨d0, cs0, k1, k2⟩ := kk
        obtain ⟨_, o, hv, vs, rfl, hr⟩ := hh.cell k1 k2
        exact ⟨vs, SqL.of hv, hr⟩
      · exact w'.elim
    · exact w'.elim
  | ext d =>
    cases d with
    | tup ds =>
      obtain ⟨a, vs, rfl, hb, hr⟩ := h.temps (v, .ext (.tup ds)) List.mem_cons_self
      exact ⟨true, a, ds, _, F, rfl, w, Same.refl _, h.pop, fun e' env' T' F' σ' H' hh s _ => ⟨vs, SqT.same hh.fh (SqT.same s hb.sq), hr.same s⟩, trivial⟩
    | lst ds => exact fz ds F (Same.refl _) h w
    | _ => exact w.elim
  | lst b ds =>
    obtain ⟨F1, sm, h1⟩ := h.freezeT
    exact fz ds F1 sm h1 w
  | al i b =>
    have ev : v = .ref b := h.temps (v, .al i b) List.mem_cons_self
    have w' : (match env[i]? with | some (.lst c ds) => c = b ∧ q ds (fun env' => env'[i]? = some (.lst b ds)) | _ => False) := w
    split at w'
    · rename_i c ds hc
      obtain ⟨rfl, w'⟩ := w'
      refine ⟨false, c, ds, _, F, ev, w', Same.refl _, h.pop, fun e' env' T' F' σ' H' hh s kk => ?_, hc⟩
      rcases hh.slots i _ kk with z | ⟨u, hu, e1, e2, vs, hv, hr⟩
      · cases z
      · exact ⟨vs, SqL.of hv, hr⟩
    · exact w'.elim
end HD
namespace HD
open PySem L2
def dCB (f : List D → (Sl → Prop) → Prop) (t : DTA) : DT := fun Ex env Q => t Ex env fun xs env1 => wds env1 xs fun ds => f ds fun sl => Q sl env1
theorem im_cb {K : PySem.W.Frag} {W : WX} {r : List V → Hp → VK → Prop} {f : List D → (Sl → Prop) → Prop} {ta : TA} {t : DTA} (hr : Pr K r f) (h : ImA K W ta t) : Im K W (tCB r ta) (dCB f t) := fun e Ex hl env T F σ H Q R hh ht hR => by
  refine h e Ex hl env T F σ H _ _ hh ht fun vs H1 F1 env1 xs le hh1 q1 => ?_
  obtain ⟨ds, rr, q2⟩ := hh1.wds le (fun p hp => List.mem_append_left _ hp) q1
  exact hr F1 H1 vs ds _ R hh1.fh rr q2 ((hh1.sub (List.sublist_append_right _ _)).done hR)
abbrev RR := Program → World → PySem.W.Frag → List V → Hp → VK → Prop
def BR (id : String) (f : List D → (Sl → Prop) → Prop) : Prop := ∃ r : RR, (∀ P w K, Pr K (r P w K) f) ∧ ∀ X : Cx, X.calm = true → X.A.units + 64 < cLine → CallR X (.builtin id) (r X.prog X.w X.K)
def TR (T : String) (f : List D → (Sl → Prop) → Prop) : Prop := ∃ r : RR, (∀ P w K, Pr K (r P w K) f) ∧ ∀ X : Cx, X.calm = true → X.A.units + 64 < cLine → CallR X (.type T) (r X.prog X.w X.K)
section
variable {G : GG} {N : List Str} {sc : SC} {k : Nat} {e : Expr} {es : List Expr} {x : Str} {id T : String} {f : List D → (Sl → Prop) → Prop} {t : DTA} {p pos : Pos}
theorem de_cb (hr : BR id f) (hm : G.mg x = none) (ha : DAs G N sc k (e :: es) t) (hv : bootBuiltins x = some (.builtin id) := by decide +kernel) (hg : GlS sc x := by rfl) (hn : x ≠ "__name__" := by decide) (hdb : (x == ("__debug__" : Str)) = false := by decide)
    (he : NoStar e es := by intro _; rfl) (hpl : ∀ env, (backTo pos (starEach es env)).any (·.1) = false := by intro _; rfl) : DE G N sc k (.Call (.Name x p) (e :: es) [] pos) (dCB f t) := ⟨fun W => by
  obtain ⟨r, h1, h2⟩ := hr
  obtain ⟨ta, p1, i1⟩ := ha.ex W
  refine ⟨tCB (r G.P G.w G.K) ta, fun X S => ?_, im_cb (h1 _ _ _) i1⟩
  have c := h2 X S.calm S.units
  rw [S.prog, S.w, S.K] at c
  exact pe_callB c (S.gl hg) (by rw [S.mg]; exact hm) hv (p1 X S) hn hdb (he _) (hpl _)⟩
theorem de_ct (hr : TR T f) (hm : G.mg x = none) (ha : DAs G N sc k (e :: es) t) (hv : bootBuiltins x = some (.type T) := by decide +kernel) (hg : GlS sc x := by rfl) (hn : x ≠ "__name__" := by decide) (hdb : (x == ("__debug__" : Str)) = false := by decide)
    (he : NoStar e es := by intro _; rfl) (hpl : ∀ env, (backTo pos (starEach es env)).any (·.1) = false := by intro _; rfl) : DE G N sc k (.Call (.Name x p) (e :: es) [] pos) (dCB f t) := ⟨fun W => by
  obtain ⟨r, h1, h2⟩ := hr
  obtain ⟨ta, p1, i1⟩ := ha.ex W
  refine ⟨tCB (r G.P G.w G.K) ta, fun X S => ?_, im_cb (h1 _ _ _) i1⟩
  have c := h2 X S.calm S.units
  rw [S.prog, S.w, S.K] at c
  exact pe_callTy c (S.gl hg) (by rw [S.mg]; exact hm) hv (p1 X S) hn hdb (he _) (hpl _)⟩
end
def fLen : List D → (Sl → Prop) → Prop
  | [.lst ds], Q => Q (.ext (.int ds.length))
  | [.tup ds], Q => Q (.ext (.int ds.length))
  | [.fz ds], Q => Q (.ext (.int ds.length))
  | [.tk ds], Q => Q (.ext (.int ds.length))
  | [.str z], Q => z.length ≤ sizeLine ∧ Q (.ext (.int z.length))
  | _, _ => False
theorem b_len : BR "len" fLen := ⟨fun _ _ K xs H Q => (∃ p ys, xs = [.ref p] ∧ (SqL K H p ys ∨ SqT K H p ys) ∧ Q (.int ys.length) H) ∨ (∃ z, xs = [.str z] ∧ z.length ≤ sizeLine ∧ Q (.int z.length) H), fun _ _ K F H vs ds Q R fh hr hf ha => by
    unfold fLen at hf
    split at hf
    · obtain ⟨v, rfl, r⟩ := hr.one
      obtain ⟨a, vs, rfl, e1, r1⟩ := r.lst fh
      refine .inl ⟨a, vs, rfl, .inl (SqL.of e1), ?_⟩
      rw [← r1.length]
      exact ha.int fh hf
    · obtain ⟨v, rfl, r⟩ := hr.one
      obtain ⟨a, vs, rfl, e1, _, r1⟩ := r.tup fh
      refine .inl ⟨a, vs, rfl, .inr e1, ?_⟩
      rw [← r1.length]
      exact ha.int fh hf
    · obtain ⟨v, rfl, r⟩ := hr.one
      obtain ⟨a, vs, rfl, e1, r1⟩ := r.fz fh
      refine .inl ⟨a, vs, rfl, .inl e1, ?_⟩
      rw [← r1.length]
      exact ha.int fh hf
    · obtain ⟨v, rfl, r⟩ := hr.one
      obtain ⟨a, vs, rfl, e1, _, r1⟩ := r.tk fh
      refine .inl ⟨a, vs, rfl, .inr e1, ?_⟩
      rw [← r1.length]
      exact ha.int fh hf
    · obtain ⟨v, rfl, r⟩ := hr.one
      exact .inr ⟨_, by rw [r.str], hf.1, ha.int fh hf.2⟩
    · exact hf.elim, fun X _ _ => call_len_seq.or call_len_str⟩
def fMin : List D → (Sl → Prop) → Prop
  | [.int i, .int j], Q => Q (.ext (.int (if j < i then j else i)))
  | [.lst ds], Q => ∃ ns : List Int, ds = ns.map D.int ∧ ns ≠ [] ∧ ∀ m, m ∈ ns → (∀ y, y ∈ ns → m ≤ y) → Q (.ext (.int m))
  | _, _ => False
def fMax : List D → (Sl → Prop) → Prop
  | [.int i, .int j], Q => Q (.ext (.int (if j > i then j else i)))
  | [.lst ds], Q => ∃ ns : List Int, ds = ns.map D.int ∧ ns ≠ [] ∧ ∀ m, m ∈ ns → (∀ y, y ∈ ns → y ≤ m) → Q (.ext (.int m))
  | _, _ => False
theorem b_min : BR "min" fMin := ⟨fun _ _ K xs H Q => (∃ i j, xs = [.int i, .int j] ∧ Q (.int (if j < i then j else i)) H) ∨ rMin K xs H Q, fun _ _ K F H vs ds Q R fh hr hf ha => by
    unfold fMin at hf
    split at hf
    · obtain ⟨v, u, rfl, r1, r2⟩ := hr.two
      exact .inl ⟨_, _, by rw [r1.int, r2.int], ha.int fh hf⟩
    · obtain ⟨v, rfl, r⟩ := hr.one
      obtain ⟨ns, rfl, ne, q⟩ := hf
      obtain ⟨a, vs, rfl, e1, r1⟩ := r.lst fh
      have z := r1.ints
      subst z
      exact .inr ⟨a, ns, rfl, SqL.of e1, List.length_pos_iff.mpr ne, fun m h1 h2 => ha.int fh (q m h1 h2)⟩
    · exact hf.elim, fun X hc _ => (call_min2 hc).or (cr_min hc)⟩
theorem b_max : BR "max" fMax := ⟨fun _ _ K xs H Q => (∃ i j, xs = [.int i, .int j] ∧ Q (.int (if j > i then j else i)) H) ∨ rMax K xs H Q, fun _ _ K F H vs ds Q R fh hr hf ha => by
    unfold fMax at hf
    split at hf
    · obtain ⟨v, u, rfl, r1, r2⟩ := hr.two
      exact .inl ⟨_, _, by rw [r1.int, r2.int], ha.int fh hf⟩
    · obtain ⟨v, rfl, r⟩ := hr.one
      obtain ⟨ns, rfl, ne, q⟩ := hf
      obtain ⟨a, vs, rfl, e1, r1⟩ := r.lst fh
      have z := r1.ints
      subst z
      exact .inr ⟨a, ns, rfl, SqL.of e1, List.length_pos_iff.mpr ne, fun m h1 h2 => ha.int fh (q m h1 h2)⟩
    · exact hf.elim, fun X hc _ => (call_max2 hc).or (cr_max hc)⟩
def fSum : List D → (Sl → Prop) → Prop
  | [.lst ds], Q => ∃ ns : List Int, ds = ns.map D.int ∧ Q (.ext (.int ns.sum))
  | _, _ => False
theorem b_sum : BR "sum" fSum := ⟨fun _ _ K => rSum K, fun _ _ K F H vs ds Q R fh hr hf ha => by
    unfold fSum at hf
    split at hf
    · obtain ⟨v, rfl, r⟩ := hr.one
      obtain ⟨ns, rfl, q⟩ := hf
      obtain ⟨a, vs, rfl, e1, r1⟩ := r.lst fh
      have z := r1.ints
      subst z
      exact ⟨a, ns, rfl, SqL.of e1, ha.int fh q⟩
    · exact hf.elim, fun X hc _ => cr_sum hc⟩
def fAll : List D → (Sl → Prop) → Prop
  | [.lst ds], Q => ∃ bs : List Bool, ds = bs.map D.bl ∧ Q (.ext (.bl (bs.all id)))
  | _, _ => False
def fAny : List D → (Sl → Prop) → Prop
  | [.lst ds], Q => ∃ bs : List Bool, ds = bs.map D.bl ∧ Q (.ext (.bl (bs.any id)))
  | _, _ => False
theorem b_all : BR "all" fAll := ⟨fun _ _ K => rAll K, fun _ _ K F H vs ds Q R fh hr hf ha => by
    unfold fAll at hf
    split at hf
    · obtain ⟨v, rfl, r⟩ := hr.one
      obtain ⟨ns, rfl, q⟩ := hf
      obtain ⟨a, vs, rfl, e1, r1⟩ := r.lst fh
      have z := r1.bls
      subst z
      exact ⟨a, ns, rfl, SqL.of e1, ha.bl fh q⟩
    · exact hf.elim, fun X hc _ => cr_all hc⟩
def fSorted : List D → (Sl → Prop) → Prop
  | [.lst ds], Q => ∃ ns : List Int, ds = ns.map D.int ∧ ∀ (ns' : List Int) (a : Addr), ns'.Perm ns → ns'.Pairwise (· ≤ ·) → Q (.lst a (ns'.map D.int))
  | _, _ => False
theorem b_sorted : BR "sorted" fSorted := ⟨fun _ _ K => rSortedI K, fun _ _ K F H vs ds Q R fh hr hf ha => by
    unfold fSorted at hf
    split at hf
    · obtain ⟨v, rfl, r⟩ := hr.one
      obtain ⟨ns, rfl, q⟩ := hf
      obtain ⟨a, vs, rfl, e1, r1⟩ := r.lst fh
      have z := r1.ints
      subst z
      exact ⟨a, ns, rfl, SqL.of e1, fun ns' p h1 h2 n => ha.lst fh n (Reps.of_ints ns') (q ns' p h1 h2)⟩
    · exact hf.elim, fun X _ _ => cr_sortedI⟩
def fTuple : List D → (Sl → Prop) → Prop
  | [.lst ds], Q => Q (.ext (.tup ds))
  | [.tup ds], Q => Q (.ext (.tup ds))
  | _, _ => False
theorem t_tuple : TR "tuple" fTuple := ⟨fun _ _ K xs H Q => ∃ p ys, xs = [.ref p] ∧ ((SqL K H p ys ∧ newT H ys Q) ∨ (SqT K H p ys ∧ Q (.ref p) H)), fun _ _ K F H vs ds Q R fh hr hf ha => by
    unfold fTuple at hf
    split at hf
    · obtain ⟨v, rfl, r⟩ := hr.one
      obtain ⟨a, vs, rfl, e1, r1⟩ := r.lst fh
      exact ⟨a, vs, rfl, .inl ⟨SqL.of e1, ha.tup fh r1 hf⟩⟩
    · obtain ⟨v, rfl, r⟩ := hr.one
      obtain ⟨a, vs, rfl, e1, e2, r1⟩ := r.tup fh
      exact ⟨a, vs, rfl, .inr ⟨e1, ha.ext (d := .tup _) fh ⟨a, vs, rfl, e2, r1⟩ hf⟩⟩
    · exact hf.elim, fun X _ _ => call_tupleF⟩
def fList : List D → (Sl → Prop) → Prop
  | [.lst ds], Q => ∀ a, Q (.lst a ds)
  | [.tup ds], Q => ∀ a, Q (.lst a ds)
  | [.fz ds], Q => ∀ a, Q (.lst a ds)
  | _, _ => False
theorem t_list : TR "list" fList := ⟨fun _ _ K xs H Q => ∃ p ys, xs = [.ref p] ∧ (SqL K H p ys ∨ SqT K H p ys) ∧ ∀ l, H l = none → Q (.ref l) (upd H l (.lst ys)), fun _ _ K F H vs ds Q R fh hr hf ha => by
    unfold fList at hf
    split at hf
    · obtain ⟨v, rfl, r⟩ := hr.one
      obtain ⟨a, vs, rfl, e1, r1⟩ := r.lst fh
      exact ⟨a, vs, rfl, .inl (SqL.of e1), fun l n => ha.lst fh n r1 (hf l)⟩
    · obtain ⟨v, rfl, r⟩ := hr.one
      obtain ⟨a, vs, rfl, e1, e2, r1⟩ := r.tup fh
      exact ⟨a, vs, rfl, .inr e1, fun l n => ha.lst fh n r1 (hf l)⟩
    · obtain ⟨v, rfl, r⟩ := hr.one
      obtain ⟨a, vs, rfl, e1, r1⟩ := r.fz fh
      exact ⟨a, vs, rfl, .inl e1, fun l n => ha.lst fh n r1 (hf l)⟩
    · exact hf.elim, fun X _ _ => call_list_of⟩
def D.ty : D → String
  | .non => "NoneType"
  | .bl _ => "bool"
  | .int _ => "int"
  | .str _ => "str"
  | .lst _ => "list"
  | .fz _ => "list"
  | .tup _ => "tuple"
  | .tk _ => "tuple"
  | .val _ => "?"
  | .exc _ => "?"
  | .glo _ => "?"
  | .dk _ _ => "?"
  | .dt _ _ => "?"
theorem tyX_of {K : PySem.W.Frag} {H : Hp} {d : D} {v : V} (n : d.noVal = true) (h : Rep K H d v) : TyX K H v (.type d.ty) ∨ ∃ ds, d = .fz ds := by
  cases d with
  | non =>
    have e : v = .non := h
    rw [e]
    exact .inl (.base .non)
  | bl b =>
    have e : v = .bl b := h
    rw [e]
    exact .inl (.base (.bl b))
  | int b =>
    have e : v = .int b := h
    rw [e]
    exact .inl (.base (.int b))
  | str b =>
    have e : v = .str b := h
    rw [e]
    exact .inl (.base (.str b))
  | val u => cases n
  | exc c => cases n
  | glo c => cases n
  | dk _ _ => cases n
  | dt _ _ => cases n
  | fz ds => exact .inr ⟨ds, rfl⟩
  | lst ds =>
    obtain ⟨a, xs, rfl, hs, _⟩ := h
    exact .inl (.base (.lst hs))
  | tup ds =>
    obtain ⟨a, xs, rfl, hs, _⟩ := h
    left
    rcases hs.sq with (hs | ⟨o, hs⟩) | ⟨o, its, m, hs, hc, _⟩
    · exact .base (.tup hs)
    · exact .fTuple hs
    · exact .kTuple hs hc
  | tk ds =>
    obtain ⟨a, xs, rfl, hs, _⟩ := h
    left
    rcases hs with (hs | ⟨o, hs⟩) | ⟨o, its, m, hs, hc, _⟩
    · exact .base (.tup hs)
    · exact .fTuple hs
    · exact .kTuple hs hc
theorem tyX_T {K : PySem.W.Frag} {F H : Hp} {d : D} {v : V} (fh : Same F H) (n : d.noVal = true) (h : RepT K F H d v) (nf : ∀ ds, d ≠ .fz ds) : TyX K H v (.type d.ty) := by
  rcases tyX_of n (h.rep fh) with z | ⟨ds, z⟩
  · exact z
  · exact absurd z (nf ds)
def rIsiS (K : PySem.W.Frag) : List V → Hp → VK → Prop := fun xs H Q => ∃ (x : V) (tp : Addr) (cs : List V) (t : Value) (us : List Value) (b : Bool), xs = [x, .ref tp] ∧ SqT K H tp cs ∧ Paired ClsV cs us ∧ TyX K H x t ∧ PySem.W.kitAny K t us = some b ∧ Q (.bl b) H
theorem call_isiS {X : Cx} : CallR X (.builtin "isinstance") (rIsiS X.K) := by
  intro pins s σ H xs us Q I r h
  obtain ⟨x, tp, cs, t, ws, b, rfl, hT, k, ty, e, q⟩ := h
  obtain ⟨u1, u2, rfl, r1, r2⟩ := vals2 r
  cases (show u2 = Value.ref tp from r2)
  obtain ⟨P, Z, p, hx⟩ := kit_of I r1 ty
  obtain ⟨its, rv, ⟨o, h1, h2, n, h3⟩, _⟩ := I.tuple hT
  have e3 := ClsV.all k rv
  subst e3
  obtain ⟨oc, od, dt, sl⟩ := o
  simp only at h2 h3
  subst h2 h3
  exact PySem.W.kia_tup Z I.kIn p h1 e hx fun tk => ⟨.bl b, H, I.tok tk, rfl, q⟩
def D.isFz : D → Bool
  | .fz _ => true
  | _ => false
def fIsi : List D → (Sl → Prop) → Prop
  | [d, .val (.ty T)], Q => d.noVal = true ∧ d.isFz = false ∧ ∃ b, kitB d.ty T = some b ∧ Q (.ext (.bl b))
  | [d, .tup [.val (.ty T), .val (.ty U)]], Q => d.noVal = true ∧ d.isFz = false ∧ ∃ b c, kitB d.ty T = some b ∧ kitB d.ty U = some c ∧ Q (.ext (.bl (b || c)))
  | _, _ => False
theorem b_isi : BR "isinstance" fIsi := ⟨fun _ _ K xs H Q => rIsi K xs H Q ∨ rIsiS K xs H Q, fun _ _ K F H vs ds Q R fh hr hf ha => by
    unfold fIsi at hf
    split at hf
    · rename_i d T
      obtain ⟨v, u, rfl, r1, r2⟩ := hr.two
      obtain ⟨n, nf, b, hb, q⟩ := hf
      rw [r2.val]
      exact .inl ⟨v, _, _, _, b, rfl, .ty T, tyX_T fh n r1 (fun ds z => by subst z; cases nf), kit_ty hb, ha.bl fh q⟩
    · rename_i d T U
      obtain ⟨v, u, rfl, r1, r2⟩ := hr.two
      obtain ⟨n, nf, b, c, hb, hc, q⟩ := hf
      obtain ⟨a, vs, rfl, e1, _, rr⟩ := r2.tup fh
      obtain ⟨v1, w1, rfl, h1, h2⟩ := rr
      obtain ⟨v2, w2, rfl, h3, h4⟩ := h2
      have z1 : v1 = .ty T := h1
      have z2 : v2 = .ty U := h3
      have z3 : w2 = [] := h4
      subst z1 z2 z3
      refine .inr ⟨v, a, _, _, [.type T, .type U], (b || c), rfl, e1, .cons (.ty T) (.cons (.ty U) .nil), tyX_T fh n r1 (fun ds z => by subst z; cases nf), ?_, ha.bl fh q⟩
      cases b with
      | true => exact kitAny_cons (kit_ty hb) (fun z => nomatch z) (fun _ => rfl)
      | false => exact kitAny_cons (kit_ty hb) (fun _ => kitAny_cons (kit_ty hc) (fun z => by subst z; exact kitAny_nil) (fun z => by subst z; rfl)) (fun z => nomatch z)
    · exact hf.elim, fun X _ _ => call_isi.or call_isiS⟩
def fStr : List D → (Sl → Prop) → Prop
  | [.int i], Q => i.natAbs.log2 < 1920 ∧ Q (.ext (.str (toString i)))
  | _, _ => False
section
variable {G : GG} {N : List Str} {sc : SC} {k : Nat} {a b : Expr} {ta tb : DT} {p p2 pos pos2 : Pos}
structure DRg (G : GG) (N : List Str) (sc : SC) (k : Nat) (e : Expr) (t : DX → Env' → (Int → Int → Env' → Prop) → Prop) : Prop where
  ex : ∀ W : WX, ∃ te, (∀ X, Sit G N sc W k X → PRg X e te) ∧ ∀ (e : Ent) (Ex : DX), Link G.K e W Ex → ∀ (env : Env') (T : Tmp) (F : Hp) (σ : L2.St) (H : Hp) (Q : Int → Int → Env' → Prop) (R : Int → Int → Hp → Prop),
    Holds G.K e env T F σ H → t Ex env Q → (∀ i j H' F' env', Holds G.K e env' T F' σ H' → Q i j env' → R i j H') → te σ H R
def dRg1 (t : DT) : DX → Env' → (Int → Int → Env' → Prop) → Prop := fun Ex env Q => t Ex env fun x env1 => match x with
  | .ext (.int n) => Q 0 n env1
  | _ => False
def dRg2 (t u : DT) : DX → Env' → (Int → Int → Env' → Prop) → Prop := fun Ex env Q => t Ex env fun x env1 => u Ex env1 fun y env2 => match x, y with
  | .ext (.int n), .ext (.int m) => Q n m env2
  | _, _ => False
theorem drg_1 (h : DE G N sc k a ta) (hm : G.mg "range" = none) (hg : GlS sc "range" := by rfl) (na : NoStar a [] := by intro _; rfl) : DRg G N sc k (.Call (.Name "range" p) [a] [] pos) (dRg1 ta) := ⟨fun W => by
  obtain ⟨te, p1, i1⟩ := h.ex W
  refine ⟨tRg1 te, fun X S => prg_1 (S.gl hg) (by rw [S.mg]; exact hm) (p1 X S) (na _), fun e Ex hl env T F σ H Q R hh ht hR => ?_⟩
  refine i1 e Ex hl env T F σ H _ _ hh ht fun v H1 F1 env1 x hh1 q1 => ?_
  cases x with
  | ext d =>
    cases d with
    | int n => exact ⟨n, hh1.temps (v, .ext (.int n)) List.mem_cons_self, hR 0 n H1 F1 env1 hh1.pop q1⟩
    | _ => exact q1.elim
  | _ => exact q1.elim⟩
theorem Reps.rg {K : PySem.W.Frag} {F : Hp} (lo hi : Int) : Reps K F (rgD lo hi) (rgV lo hi) := by
  unfold rgD rgV
  refine Reps.of_get (by rw [List.length_map, List.length_map]) fun i d v h1 h2 => ?_
  rw [List.getElem?_map] at h1 h2
  cases e : (List.range (hi - lo).toNat)[i]? with
  | none =>
    rw [e] at h1
    cases h1
  | some j =>
    rw [e] at h1 h2
    cases h1
    cases h2
    exact rfl
def dLstRg (t : DX → Env' → (Int → Int → Env' → Prop) → Prop) : DT := fun Ex env Q => t Ex env fun lo hi env1 => RgOk lo hi ∧ ∀ a, Q (.lst a (rgD lo hi)) env1
def dTupRg (t : DX → Env' → (Int → Int → Env' → Prop) → Prop) : DT := fun Ex env Q => t Ex env fun lo hi env1 => RgOk lo hi ∧ Q (.ext (.tup (rgD lo hi))) env1
theorem de_listRg {e : Expr} {t : DX → Env' → (Int → Int → Env' → Prop) → Prop} (h : DRg G N sc k e t) (hm : G.mg "list" = none) (hg : GlS sc "list" := by rfl) (na : NoStar e [] := by intro _; rfl) : DE G N sc k (.Call (.Name "list" p) [e] [] pos) (dLstRg t) := ⟨fun W => by
  obtain ⟨te, p1, i1⟩ := h.ex W
  refine ⟨tLstRg te, fun X S => pe_listRg S.calm (S.gl hg) (by rw [S.mg]; exact hm) (p1 X S) (na _), fun e Ex hl env T F σ H Q R hh ht hR => ?_⟩
  refine i1 e Ex hl env T F σ H _ _ hh ht fun lo hi H1 F1 env1 hh1 q1 => ⟨q1.1, fun q n => ?_⟩
  exact (hh1.done hR).lst hh1.fh n (Reps.rg lo hi) (q1.2 q)⟩
theorem de_tupRg {e : Expr} {t : DX → Env' → (Int → Int → Env' → Prop) → Prop} (h : DRg G N sc k e t) (hm : G.mg "tuple" = none) (hg : GlS sc "tuple" := by rfl) (na : NoStar e [] := by intro _; rfl) : DE G N sc k (.Call (.Name "tuple" p) [e] [] pos) (dTupRg t) := ⟨fun W => by
  obtain ⟨te, p1, i1⟩ := h.ex W
  refine ⟨tTupRgF te, fun X S => pe_tupRgF S.calm (S.gl hg) (by rw [S.mg]; exact hm) (p1 X S) (na _), fun e Ex hl env T F σ H Q R hh ht hR => ?_⟩
  refine i1 e Ex hl env T F σ H _ _ hh ht fun lo hi H1 F1 env1 hh1 q1 => ⟨q1.1, ?_⟩
  exact (hh1.done hR).tup hh1.fh (Reps.rg lo hi) q1.2⟩
end
end HD
namespace HD
open PySem PyProof.Rows L2
section
variable {X : Cx} {o e : Expr} {es : List Expr} {to : TE} {t : TA} {name : Str} {apos cpos : Pos}
abbrev FewArgs (o : Expr) (name : Str) (e : Expr) (es : List Expr) (cpos : Pos) : Prop := ∀ env, attributeBase o name env (eval o env) = eval o env ∧
  ((backTo cpos (starEach (e :: es) env)).all (fun x => !x.1) && (backToKw cpos (keywordEach [] env)).all (fun x => x.1.isSome) && decide ((e :: es).length + ([] : List Keyword).length + (if ([] : List Keyword).isEmpty then 0 else 1) < 30)) = true ∧
  starEach (e :: es) env = (false, eval e env) :: starEach es env ∧ (backTo cpos (starEach es env)).any (·.1) = false
def tIndex (K : PySem.W.Frag) (rT rL : V → List V → Hp → VK → Prop) (to : TE) (t : TA) : TE := fun σ H Q => to σ H fun x H1 => ((∃ p xs, x = .ref p ∧ TupD K H1 p xs) ∧ t σ H1 fun xs H2 => rT x xs H2 Q) ∨ ((∃ p xs, x = .ref p ∧ SqL K H1 p xs) ∧ t σ H1 fun xs H2 => rL x xs H2 Q)
theorem pe_bmX {idT idL : String} {rT rL : V → List V → Hp → VK → Prop} (sT : Slot "tuple" name idT) (sL : Slot "list" name idL) (tyT : typeOf (.builtin idT) = pure (.type "method_descriptor")) (tyL : typeOf (.builtin idL) = pure (.type "method_descriptor")) (mT : MtR X idT rT) (mL : MtR X idL rL)
    (ho : PE X o to) (ha : PA X (e :: es) t) (hw : FewArgs o name e es cpos) (hline : (apos.endLine == cpos.line) = true) : PE X (.Call (.Attribute o name apos) (e :: es) [] cpos) (tIndex X.K rT rL to t) := by
  obtain ⟨hbase, hfew, hs, hplain⟩ := hw X.env
  refine ⟨fun pins s σ H Q I h => ?_⟩
  refine wpAny_Call_method_late hbase hfew hline rfl (thn (ho.run pins s σ H _ I h) fun v s1 ⟨x, H1, I1, r1, q1⟩ => ?_)
  rcases q1 with ⟨⟨p, xs, rfl, hT⟩, q1⟩ | ⟨⟨p, xs, rfl, hL⟩, q1⟩
  · obtain ⟨its, _, pt, _⟩ := I1.tuple hT.sq
    cases r1
    refine ⟨"tuple", idT, PySem.F.plainAttrs_tuple, sT, tyT, pt.typeIs, fun a ea => ?_, ?_⟩
    · cases ea
      exact hT.noDict I1
    · have hA := ha.run cpos pins s1 σ H1 _ I1 q1
      rw [hs] at hA ⊢
      refine Calls.callWith_builtin (by show (false || (backTo cpos (starEach es X.env)).any (·.1)) = false; rw [hplain] <;> rfl) (Calls.evalArgs_plain ?_)
      exact thn hA fun us s2 ⟨vs, H2, I2, r2, q2⟩ => mT pins s2 σ H2 (.ref p) vs _ us Q I2 rfl r2 q2
  · have ty : tyV X.K "list" (.ref p) H1 := .inl ⟨rfl, xs, hL⟩
    obtain ⟨h1, h2⟩ := tyV_is I1 r1 ty
    refine ⟨"list", idL, PySem.F.plainAttrs_list, sL, tyL, h1, h2, ?_⟩
    have hA := ha.run cpos pins s1 σ H1 _ I1 q1
    rw [hs] at hA ⊢
    refine Calls.callWith_builtin (by show (false || (backTo cpos (starEach es X.env)).any (·.1)) = false; rw [hplain] <;> rfl) (Calls.evalArgs_plain ?_)
    exact thn hA fun us s2 ⟨vs, H2, I2, r2, q2⟩ => mL pins s2 σ H2 _ vs _ us Q I2 r1 r2 q2
def rIndexT (K : PySem.W.Frag) : V → List V → Hp → VK → Prop := fun x xs H Q => ∃ (a : Addr) (ys : List V) (y : V) (j : Nat) (z : V), x = V.ref a ∧ xs = [y] ∧ SqT K H a ys ∧ flatV y = true ∧ ys.all flatV = true ∧ ys[j]? = some z ∧ eqV z y = true ∧
  (∀ m z', m < j → ys[m]? = some z' → eqV z' y = false) ∧ Q (.int (j : Nat)) H
theorem mt_indexT : MtR X "tuple.index" (rIndexT X.K) := by
  intro pins s σ H x xs v us Q I rx rs h
  obtain ⟨p, ys, y, j, z, rfl, rfl, hq, fy, fys, hz, hit, hno, q⟩ := h
  cases rx
  obtain ⟨u, rfl, ru⟩ := vals1 rs
  obtain ⟨its, r, pl, _⟩ := I.tuple hq
  obtain ⟨⟨cls, dd, dt, sl⟩, ho, hc, n, hd⟩ := pl
  simp only at hc hd
  subst hc
  subst hd
  have hl : its.toArray.size = ys.length := by rw [List.size_toArray, ← r.length]
  have hj : j < its.toArray.size := by rw [hl]; exact (List.getElem?_eq_some_iff.mp hz).1
  have key : ∀ (m : Nat) (hm : m < its.toArray.size) (w : V), ys[m]? = some w → eqU y its.toArray[m] = eqV w y := fun m hm w hw => by
    obtain ⟨iv, hiv, riv⟩ := r.get hw
    have e : its.toArray[m] = iv := by
      have e2 := (List.getElem?_eq_some_iff.mp hiv).2
      rw [← e2]
      simp
    rw [e]
    exact eqU_of riv (List.all_eq_true.mp fys w (List.mem_of_getElem? hw))
  refine call_meets PySem.F.slot_tuple_index ⟨_, ho, rfl⟩ PySem.F.entry_tuple_index (PySem.F.args_tuple_index_2 _ _) (TI.tuple_indexAt p its.toArray n dd sl u (eqU y) j hj ?_ ?_)
    ⟨ho, fun w hw => mem_eqAt ru fy r fys w (by simpa using hw), ⟨.int (j : Nat), H, I.tok _, ⟨_, rfl⟩, q⟩⟩
  · rw [key j hj z hz]
    exact hit
  · intro m hm hmj
    have hm' : m < ys.length := by rw [← hl]; exact hm
    rw [key m hm ys[m] (List.getElem?_eq_getElem hm')]
    exact hno m _ hmj (List.getElem?_eq_getElem hm')
end
def D.at? (d : D) (ds : List D) : Option Nat := ds.findIdx? fun z => eqV z.toV d.toV
def D.isSq : D → Bool
  | .tup _ => true
  | .lst _ => true
  | _ => false
def fIdx (d d' : D) (q : Sl → Prop) : Prop := match d with
  | .tup ds => d'.flat = true ∧ ds.all D.flat = true ∧ ∃ j, d'.at? ds = some j ∧ q (.ext (.int (j : Nat)))
  | .lst ds => d'.flat = true ∧ ds.all D.flat = true ∧ ∃ j, d'.at? ds = some j ∧ q (.ext (.int (j : Nat)))
  | _ => False
def dIndex (to ta : DT) : DT := fun Ex env Q => to Ex env fun x env1 => wd env1 x (fun d => d.isSq = true) ∧ ta Ex env1 fun y env2 => wd env2 x fun d => wd env2 y fun d' => fIdx d d' fun sl => Q sl env2
theorem at?_spec {K : PySem.W.Frag} {F : Hp} {d : D} {ds : List D} {vs : List V} {j : Nat} (r : Reps K F ds vs) (fd : d.flat = true) (fs : ds.all D.flat = true) (h : d.at? ds = some j) :
    flatV d.toV = true ∧ vs.all flatV = true ∧ ∃ z, vs[j]? = some z ∧ eqV z d.toV = true ∧ ∀ m z', m < j → vs[m]? = some z' → eqV z' d.toV = false := by
  obtain ⟨e1, e2⟩ := flat_reps r fs
  unfold D.at? at h
  obtain ⟨hj, h1, h2⟩ := List.findIdx?_eq_some_iff_getElem.mp h
  have fv : flatV d.toV = true := by
    cases d <;> first
      | rfl
      | exact nomatch fd
  refine ⟨fv, e2, ds[j].toV, ?_, h1, fun m z' hm hz => ?_⟩
  · rw [e1, List.getElem?_map, List.getElem?_eq_getElem hj]
    rfl
  · rw [e1, List.getElem?_map] at hz
    have hm' : m < ds.length := Nat.lt_trans hm hj
    rw [List.getElem?_eq_getElem hm'] at hz
    cases hz
    have z := h2 m hm
    simpa using z
section
variable {G : GG} {N : List Str} {sc : SC} {k : Nat} {a b : Expr} {ta tb : DT} {apos cpos p p2 pos pos2 : Pos}
theorem de_index (ha : DE G N sc k a ta) (hb : DE G N sc k b tb) (hw : FewArgs a "index" b [] cpos := by intro _; exact ⟨rfl, rfl, rfl, rfl⟩) (hline : (apos.endLine == cpos.line) = true := by rfl) : DE G N sc k (.Call (.Attribute a "index" apos) [b] [] cpos) (dIndex ta tb) := ⟨fun W => by
  obtain ⟨te, p1, i1⟩ := ha.ex W
  obtain ⟨tf, p2, i2⟩ := hb.ex W
  refine ⟨tIndex G.K (rIndexT G.K) (rIndex G.K) te (tCons tf tNil), fun X S => ?_, fun e Ex hl env T F σ H Q R hh ht hR => ?_⟩
  · rw [← S.K]
    exact pe_bmX PySem.F.slot_tuple_index PySem.F.slot_list_index PySem.F.type_tuple_index PySem.F.type_list_index mt_indexT mt_index (p1 X S) (pa_cons (p2 X S) pa_nil (hw X.env).2.2.1) hw hline
  · refine i1 e Ex hl env T F σ H _ _ hh ht fun v H1 F1 env1 x hh1 q1 => ?_
    obtain ⟨q0, q1⟩ := q1
    obtain ⟨d0, rd0, _⟩ := hh1.wd (v := v) (sl := x) List.mem_cons_self q0
    have finT : ∀ (u : V) (H2 F2 : Hp) (env2 : Env') (y : Sl) (ds : List D), Holds G.K e env2 ((u, y) :: (v, x) :: T) F2 σ H2 → RepT G.K F2 H2 (.tup ds) v → (HD.wd env2 y fun d' => fIdx (.tup ds) d' fun sl => Q sl env2) → rIndexT G.K v [u] H2 R := fun u H2 F2 env2 y ds hh2 rd q3 => by
      obtain ⟨d', rd', f1, f2, j, hj, q5⟩ := hh2.wd (v := u) (sl := y) List.mem_cons_self q3
      obtain ⟨c, vs, rfl, e1, _, r1⟩ := rd.tup hh2.fh
      obtain ⟨x1, _⟩ := flat_rep (rd'.rep hh2.fh) f1
      obtain ⟨g1, g2, z, g3, g4, g5⟩ := at?_spec r1 f1 f2 hj
      rw [x1]
      exact ⟨c, vs, _, j, z, rfl, rfl, e1, g1, g2, g3, g4, g5, (hh2.pop.pop.done hR).int hh2.fh q5⟩
    have finL : ∀ (u : V) (H2 F2 : Hp) (env2 : Env') (y : Sl) (ds : List D), Holds G.K e env2 ((u, y) :: (v, x) :: T) F2 σ H2 → RepT G.K F2 H2 (.lst ds) v → (HD.wd env2 y fun d' => fIdx (.lst ds) d' fun sl => Q sl env2) → rIndex G.K v [u] H2 R := fun u H2 F2 env2 y ds hh2 rd q3 => by
      obtain ⟨d', rd', f1, f2, j, hj, q5⟩ := hh2.wd (v := u) (sl := y) List.mem_cons_self q3
      obtain ⟨c, vs, rfl, e1, r1⟩ := rd.lst hh2.fh
      obtain ⟨x1, _⟩ := flat_rep (rd'.rep hh2.fh) f1
      obtain ⟨g1, g2, z, g3, g4, g5⟩ := at?_spec r1 f1 f2 hj
      rw [x1]
      exact ⟨c, vs, _, j, z, rfl, rfl, SqL.of e1, g1, g2, g3, g4, g5, (hh2.pop.pop.done hR).int hh2.fh q5⟩
    have never : ∀ (d : D), (∀ ds, d ≠ .tup ds) → (∀ ds, d ≠ .lst ds) → ∀ d' (q : Sl → Prop), ¬ fIdx d d' q := fun d h1 h2 d' q z => by
      cases d <;> first
        | exact h1 _ rfl
        | exact h2 _ rfl
        | exact z
    cases x with
    | un => exact q0.elim
    | ext d =>
      have rd : Rep G.K F1 d v := hh1.temps (v, .ext d) List.mem_cons_self
      by_cases ht : ∃ ds, d = .tup ds
      · obtain ⟨ds, rfl⟩ := ht
        obtain ⟨c, vs, rfl, e2, _⟩ := rd
        refine .inl ⟨⟨c, vs, rfl, TupD.same hh1.fh e2⟩, ?_⟩
        exact i2 e Ex hl env1 _ F1 σ H1 _ _ hh1 q1 fun u H2 F2 env2 y hh2 q2 => finT u H2 F2 env2 y ds hh2 (.inl (hh2.temps (_, .ext (.tup ds)) (List.mem_cons_of_mem _ List.mem_cons_self))) q2
      · by_cases hl' : ∃ ds, d = .lst ds
        · obtain ⟨ds, rfl⟩ := hl'
          obtain ⟨c, vs, rfl, e2, _⟩ := rd
          refine .inr ⟨⟨c, vs, rfl, SqL.of (hh1.fh _ _ e2)⟩, ?_⟩
          exact i2 e Ex hl env1 _ F1 σ H1 _ _ hh1 q1 fun u H2 F2 env2 y hh2 q2 => finL u H2 F2 env2 y ds hh2 (.inl (hh2.temps (_, .ext (.lst ds)) (List.mem_cons_of_mem _ List.mem_cons_self))) q2
        · have q0' : d.isSq = true := q0
          cases d <;> first
            | exact absurd ⟨_, rfl⟩ ht
            | exact absurd ⟨_, rfl⟩ hl'
            | exact nomatch q0'
    | lst b ds =>
      obtain ⟨rfl, _, vs, hv, _⟩ := hh1.temps (v, .lst b ds) List.mem_cons_self
      refine .inr ⟨⟨b, vs, rfl, SqL.of hv⟩, ?_⟩
      refine i2 e Ex hl env1 _ F1 σ H1 _ _ hh1 q1 fun u H2 F2 env2 y hh2 q2 => ?_
      obtain ⟨_, _, us, hu, hr⟩ := hh2.temps (V.ref b, .lst b ds) (List.mem_cons_of_mem _ List.mem_cons_self)
      exact finL u H2 F2 env2 y ds hh2 (.inr ⟨b, ds, us, rfl, rfl, hu, hr⟩) q2
    | reg _ _ => exact q0.elim
    | ar i b =>
      obtain rfl : v = .ref b := hh1.temps (v, .ar i b) List.mem_cons_self
      have q0' : (match env1[i]? with | some (.reg _ cs) => (match cellOf cs b with | some (.lst ds) => (D.lst ds).isSq = true | _ => False) | _ => False) := q0
      split at q0'
      · rename_i d0 cs hc
        split at q0'
        · rename_i ds0 hd0
          obtain ⟨_, o, hv, vs, rfl, _⟩ := hh1.cell hc hd0
          refine .inr ⟨⟨b, vs, rfl, SqL.of hv⟩, ?_⟩
          refine i2 e Ex hl env1 _ F1 σ H1 _ _ hh1 q1 fun u H2 F2 env2 y hh2 q2 => ?_
          have w' : (match env2[i]? with | some (.reg _ cs) => (match cellOf cs b with | some (.lst ds) => HD.wd env2 y (fun d' => fIdx (.lst ds) d' fun sl => Q sl env2) | _ => False) | _ => False) := q2
          split at w'
          · rename_i d1 cs1 hc1
            split at w'
            · rename_i ds hd1
              obtain ⟨_, o1, hv1, us, rfl, hr⟩ := hh2.cell hc1 hd1
              exact finL u H2 F2 env2 y ds hh2 (.inr ⟨b, ds, us, rfl, rfl, hv1, hr⟩) w'
            · exact w'.elim
          · exact w'.elim
        · exact q0'.elim
      · exact q0'.elim
    | al i b =>
      obtain rfl : v = .ref b := hh1.temps (v, .al i b) List.mem_cons_self
      have q0' : (match env1[i]? with | some (.lst c ds) => c = b ∧ (D.lst ds).isSq = true | _ => False) := q0
      split at q0'
      · rename_i c ds0 hc
        obtain ⟨rfl, _⟩ := q0'
        rcases hh1.slots i _ hc with z | ⟨_, _, _, _, vs, hv, _⟩
        · cases z
        · refine .inr ⟨⟨c, vs, rfl, SqL.of hv⟩, ?_⟩
          refine i2 e Ex hl env1 _ F1 σ H1 _ _ hh1 q1 fun u H2 F2 env2 y hh2 q2 => ?_
          have w' : (match env2[i]? with | some (.lst c' ds) => c' = c ∧ HD.wd env2 y (fun d' => fIdx (.lst ds) d' fun sl => Q sl env2) | _ => False) := q2
          split at w'
          · rename_i c' ds hc'
            obtain ⟨rfl, w'⟩ := w'
            rcases hh2.slots i _ hc' with z | ⟨_, _, _, _, us, hu, hr⟩
            · cases z
            · exact finL u H2 F2 env2 y ds hh2 (.inr ⟨c', ds, us, rfl, rfl, hu, hr⟩) w'
          · exact w'.elim
      · exact q0'.elim⟩
end
end HD
namespace HD
open PySem PyProof.Rows L2
abbrev DMut := List D → (D → List D → Prop) → Prop
def mutD (env : Env') (i : Nat) (a : Addr) (f : DMut) (Q : Sl → Env' → Prop) : Prop := match env[i]? with
  | some (.lst b ds) => b = a ∧ f ds fun d ds' => Q (.ext d) (env.set i (.lst a ds'))
  | _ => False
def PrM (K : PySem.W.Frag) (r : V → List V → Hp → VK → Prop) (vs : List V) (a : Addr) (F H : Hp) (ds : List D) (f : DMut) : Prop :=
  ∀ (q : D → List D → Prop) (R : VK), f ds q → (∀ v d us ds', Rep K F d v → Reps K F ds' us → q d ds' → R v (upd H a (.lst us))) → r (.ref a) vs H R
theorem Holds.mut {K : PySem.W.Frag} {e : Ent} {env : Env'} {T : Tmp} {F : Hp} {σ : L2.St} {H : Hp} {i : Nat} {a : Addr} {f : DMut} {Q : Sl → Env' → Prop} {R : VK} {r : V → List V → Hp → VK → Prop} {vs : List V} (h : Holds K e env T F σ H) (w : mutD env i a f Q)
    (hr : ∀ ds us, H a = some (.lst us) → Reps K F ds us → PrM K r vs a F H ds f) (hR : ∀ v H' F' env' sl, Holds K e env' ((v, sl) :: T) F' σ H' → Q sl env' → R v H') : r (.ref a) vs H R := by
  unfold mutD at w
  split at w
  · rename_i b ds hb
    obtain ⟨rfl, w⟩ := w
    rcases h.slots i _ hb with z | ⟨u, hu, e1, e2, us, hv, rr⟩
    · cases z
    · refine hr ds us hv rr _ R w fun v d us' ds' rd rs q => ?_
      exact hR v _ F _ (.ext d) ((h.write hb rs).pushE rd) q
  · exact w.elim
section
variable {G : GG} {N : List Str} {sc : SC} {k : Nat} {a b : Expr} {ta tb : DT} {apos cpos p p2 pos pos2 py : Pos} {x : Str}
abbrev VisV (N : List Str) (sc : SC) (i : Nat) (x : Str) : Prop := N[i]? = some x ∧ Vis sc.sc x ∧ (x == ("__debug__" : Str)) = false ∧ (x == ("__classdict__" : Str)) = false
def dAppend (i : Nat) (t : DT) : DT := fun Ex env Q => match env[i]? with
  | some (.lst a _) => t Ex env fun x env1 => frzD env1 x fun d env2 => mutD env2 i a (fun ds q => ds.length < sizeLine ∧ q .non (ds ++ [d])) Q
  | _ => False
theorem de_append (i : Nat) (hb : DE G N sc k b tb) (hw : FewArgs (.Name x py) "append" b [] cpos := by intro _; exact ⟨rfl, rfl, rfl, rfl⟩) (hv : VisV N sc i x := by exact ⟨rfl, by first | exact Or.inl rfl | exact Or.inr (Or.inl rfl) | exact Or.inr (Or.inr rfl), by decide, by decide⟩) (hline : (apos.endLine == cpos.line) = true := by rfl) :
    DE G N sc k (.Call (.Attribute (.Name x py) "append" apos) [b] [] cpos) (dAppend i tb) := ⟨fun W => by
  obtain ⟨tf, p2, i2⟩ := hb.ex W
  refine ⟨tBM G.K "list" rAppend (tVar i) (tCons tf tNil), fun X S => ?_, fun e Ex hl env T F σ H Q R hh ht hR => ?_⟩
  · obtain ⟨hbase, hfew, hs, hplain⟩ := hw X.env
    rw [← S.K]
    exact pe_bm PySem.F.plainAttrs_list PySem.F.slot_list_append PySem.F.type_list_append mt_append (pe_var (by rw [S.nms]; exact hv.1) (S.vis hv.2.1) hv.2.2.1 hv.2.2.2) (pa_cons (p2 X S) pa_nil hs) hbase hfew hline hs hplain
  · unfold dAppend at ht
    split at ht
    · rename_i c ds0 hc
      rcases hh.slots i _ hc with z | ⟨v0, hv0, e0, _, us0, hu0, _⟩
      · cases z
      · subst e0
        refine ⟨_, hv0, .inl ⟨rfl, us0, SqL.of hu0⟩, ?_⟩
        refine i2 e Ex hl env T F σ H _ _ hh ht fun u H2 F2 env2 y hh2 q2 => ?_
        obtain ⟨d, F3, env3, _, hh3, rd, q3⟩ := hh2.frz1 q2
        show rAppend (.ref c) [u] H2 R
        refine hh3.mut q3 (fun ds us hu rr q R' hf hk => ?_) hR
        obtain ⟨hz, hf⟩ := hf
        exact ⟨c, us, u, rfl, rfl, hu, by rw [← rr.length]; exact hz, hk .non .non _ _ rfl (rr.append (.one rd)) hf⟩
    · exact ht.elim⟩
def dExtend (i : Nat) (t : DT) : DT := fun Ex env Q => match env[i]? with
  | some (.lst a _) => t Ex env fun x env1 => wd env1 x fun d => match d with
    | .lst es => mutD env1 i a (fun ds q => ds.length + es.length ≤ sizeLine ∧ q .non (ds ++ es)) Q
    | _ => False
  | _ => False
def dPopAt (i : Nat) (t : DT) : DT := fun Ex env Q => match env[i]? with
  | some (.lst a _) => t Ex env fun x env1 => match x with
    | .ext (.int n) => mutD env1 i a (fun ds q => 0 ≤ n ∧ n < 2 ^ 63 ∧ ∃ d, ds[n.toNat]? = some d ∧ q d (ds.eraseIdx n.toNat)) Q
    | _ => False
  | _ => False
theorem de_popAt (i : Nat) (hb : DE G N sc k b tb) (hw : FewArgs (.Name x py) "pop" b [] cpos := by intro _; exact ⟨rfl, rfl, rfl, rfl⟩) (hv : VisV N sc i x := by exact ⟨rfl, by first | exact Or.inl rfl | exact Or.inr (Or.inl rfl) | exact Or.inr (Or.inr rfl), by decide, by decide⟩) (hline : (apos.endLine == cpos.line) = true := by rfl) :
    DE G N sc k (.Call (.Attribute (.Name x py) "pop" apos) [b] [] cpos) (dPopAt i tb) := ⟨fun W => by
  obtain ⟨tf, p2, i2⟩ := hb.ex W
  refine ⟨tBM G.K "list" rPopAt (tVar i) (tCons tf tNil), fun X S => ?_, fun e Ex hl env T F σ H Q R hh ht hR => ?_⟩
  · obtain ⟨hbase, hfew, hs, hplain⟩ := hw X.env
    rw [← S.K]
    exact pe_bm PySem.F.plainAttrs_list PySem.F.slot_list_pop PySem.F.type_list_pop mt_popAt (pe_var (by rw [S.nms]; exact hv.1) (S.vis hv.2.1) hv.2.2.1 hv.2.2.2) (pa_cons (p2 X S) pa_nil hs) hbase hfew hline hs hplain
  · unfold dPopAt at ht
    split at ht
    · rename_i c ds0 hc
      rcases hh.slots i _ hc with z | ⟨v0, hv0, e0, _, us0, hu0, _⟩
      · cases z
      · subst e0
        refine ⟨_, hv0, .inl ⟨rfl, us0, SqL.of hu0⟩, ?_⟩
        refine i2 e Ex hl env T F σ H _ _ hh ht fun u H2 F2 env2 y hh2 q2 => ?_
        cases y with
        | ext d =>
          cases d with
          | int n =>
            have eu : u = .int n := hh2.temps (u, .ext (.int n)) List.mem_cons_self
            show rPopAt (.ref c) [u] H2 R
            refine hh2.pop.mut q2 (fun ds us hu rr q R' hf hk => ?_) hR
            obtain ⟨h0, h1, d, hd, hf⟩ := hf
            obtain ⟨v, hv', rd⟩ := rr.get hd
            have hlt : n.toNat < us.length := (List.getElem?_eq_some_iff.mp hv').1
            refine ⟨c, us, n, n.toNat, v, rfl, by rw [eu], hu, Int.le_trans (by decide) h0, h1, ?_, hv', hk v d _ _ rd (rr.eraseIdx _) hf⟩
            obtain ⟨m, rfl⟩ := Int.eq_ofNat_of_zero_le h0
            exact (ixN_seq (n := us.length) (i := (m : Int)) (j := m) (by
              unfold ixN
              rw [if_pos h0, if_pos (by rw [Int.toNat_natCast] at hlt; omega)]
              rfl)).1
          | _ => exact q2.elim
        | _ => exact q2.elim
    · exact ht.elim⟩
def dPop (i : Nat) : DT := fun Ex env Q => match env[i]? with
  | some (.lst a _) => mutD env i a (fun ds q => ∃ d, ds[ds.length - 1]? = some d ∧ q d ds.dropLast) Q
  | _ => False
theorem de_pop (i : Nat) (hbase : ∀ env, attributeBase (.Name x py) "pop" env (eval (.Name x py) env) = eval (.Name x py) env := by intro _; rfl) (hv : VisV N sc i x := by exact ⟨rfl, by first | exact Or.inl rfl | exact Or.inr (Or.inl rfl) | exact Or.inr (Or.inr rfl), by decide, by decide⟩) (hline : (apos.endLine == cpos.line) = true := by rfl) :
    DE G N sc k (.Call (.Attribute (.Name x py) "pop" apos) [] [] cpos) (dPop i) := ⟨fun W => by
  refine ⟨tBM0 G.K "list" rPop (tVar i), fun X S => ?_, fun e Ex hl env T F σ H Q R hh ht hR => ?_⟩
  · rw [← S.K]
    exact pe_bm0 PySem.F.plainAttrs_list PySem.F.slot_list_pop PySem.F.type_list_pop mt_pop (pe_var (by rw [S.nms]; exact hv.1) (S.vis hv.2.1) hv.2.2.1 hv.2.2.2) (hbase _) hline
  · unfold dPop at ht
    split at ht
    · rename_i c ds0 hc
      rcases hh.slots i _ hc with z | ⟨v0, hv0, e0, _, us0, hu0, _⟩
      · cases z
      · subst e0
        refine ⟨_, hv0, .inl ⟨rfl, us0, SqL.of hu0⟩, ?_⟩
        refine hh.mut ht (fun ds us hu rr q R' hf hk => ?_) hR
        obtain ⟨d, hd, hf⟩ := hf
        obtain ⟨v, hv', rd⟩ := rr.get hd
        exact ⟨c, us, v, rfl, rfl, hu, by rw [← rr.length]; exact hv', hk v d _ _ rd rr.dropLast hf⟩
    · exact ht.elim⟩
def sSetItem (i : Nat) (tI te : DT) : DTS := fun Ex E env => te Ex env fun y env0 => frzD env0 y fun d env1 => match env1[i]? with
  | some (.lst a _) => tI Ex env1 fun z env2 => match z with
    | .ext (.int n) => match env2[i]? with
      | some (.lst b ds) => b = a ∧ ∃ j, ixN ds.length n = some j ∧ E.nx (env2.set i (.lst a (ds.set j d)))
      | _ => False
    | _ => False
  | _ => False
theorem ds_setitem {spos : Pos} (i : Nat) (hb : DE G N sc k b tb) (ha : DE G N sc k a ta) (hv : VisV N sc i x := by exact ⟨rfl, by first | exact Or.inl rfl | exact Or.inr (Or.inl rfl) | exact Or.inr (Or.inr rfl), by decide, by decide⟩)
    (hs : ∀ env, swapsWithSole [.Subscript (.Name x py) b spos] a pos.line env = pure false := by intro _; rfl) (hw : ∀ env, swappedStores [.Subscript (.Name x py) b spos] a env = pure none := by intro _; rfl)
    (h1 : ∀ env, (assignEach [.Subscript (.Name x py) b spos] env).map (·.2) = [assign (.Subscript (.Name x py) b spos) env] := by intro _; rfl)
    (h2 : ∀ env v, assign (.Subscript (.Name x py) b spos) env v = (do
      let ov ← holding [v] (eval (.Name x py) env)
      let iv ← holding [v, ov] (eval b env)
      standAt spos
      holding [v, ov, iv] (setItem ov iv v)
      release [v, ov, iv] []) := by intro _ _; rfl) :
    DS G N sc k (.Assign [.Subscript (.Name x py) b spos] a pos) (sSetItem i tb ta) := ⟨fun W => by
  obtain ⟨te, p1, i1⟩ := ha.ex W
  obtain ⟨tf, p2, i2⟩ := hb.ex W
  refine ⟨tAsg te (gSub (tVar i) tf rSetL), fun X S => ?_, fun e Ex hl env F σ H E Dn hh ht ok => ?_⟩
  · exact ps_asg (p1 X S) (pg_sub (pe_var (by rw [S.nms]; exact hv.1) (S.vis hv.2.1) hv.2.2.1 hv.2.2.2) (p2 X S) set_list (h2 _)) (hs _) (hw _) (h1 _)
  · refine i1 e Ex hl env [] F σ H _ _ hh ht fun v H1 F1 env0 y hh1 q1 => ?_
    obtain ⟨d, F2, env1, _, hh2, rd, q2⟩ := hh1.frz1 q1
    split at q2
    · rename_i c ds0 hc
      rcases hh2.slots i _ hc with z | ⟨v0, hv0, e0, _⟩
      · cases z
      · subst e0
        refine ⟨_, hv0, ?_⟩
        refine i2 e Ex hl env1 [(v, .ext d)] F2 σ H1 _ _ (hh2.pushE rd) q2 fun u H3 F3 env3 z hh3 q3 => ?_
        have rd3 : Rep G.K F3 d v := hh3.temps (v, .ext d) (List.mem_cons_of_mem _ List.mem_cons_self)
        cases z with
        | ext dz =>
          cases dz with
          | int n =>
            have eu : u = .int n := hh3.temps (u, .ext (.int n)) List.mem_cons_self
            have q3' : (match env3[i]? with | some (.lst b ds) => b = c ∧ ∃ j, ixN ds.length n = some j ∧ E.nx (env3.set i (.lst c (ds.set j d))) | _ => False) := q3
            split at q3'
            · rename_i c' ds hc'
              obtain ⟨rfl, j, hj, q4⟩ := q3'
              rcases hh3.slots i _ hc' with z | ⟨_, _, _, _, us, hu, rr⟩
              · cases z
              · exact ⟨c', us, n, j, rfl, eu, hu, by rw [← rr.length]; exact hj, ok.nx _ F3 σ _ (hh3.bare.write hc' (rr.set j rd3)) q4⟩
            · exact q3'.elim
          | _ => exact q3.elim
        | _ => exact q3.elim
    · exact q2.elim⟩
end
def rSetT (K : PySem.W.Frag) (w : World) : List V → Hp → VK → Prop := fun xs H Q => ∃ (a : Addr) (ns : List Int), xs = [.ref a] ∧ SqT K H a (ns.map V.int) ∧ ns.length + 1 < scanBound ∧ ∀ (p : Addr) (c : Nat), H p = none → c ≤ ns.length → Q (.ref p) (upd H p (SetO w p (fun j => decide (j ∈ ns)) c))
theorem cr_setT {X : Cx} (hc : X.calm = true) : CallR X (.type "set") (rSetT X.K X.w) := by
  intro pins s σ H xs us Q I r h
  obtain ⟨a, ns, rfl, hq, hb, q⟩ := h
  rw [Vals.ref1 r]
  obtain ⟨its, r', pl, _⟩ := I.tuple hq
  refine call_set_tupI ns (I.ok.hd hc) (show s.heap.IsTuple a its.toArray from pl) (by rw [List.toList_toArray]; exact intsAre_of r') hb fun h' tk c R hc' hk => ?_
  have hn : H s.heap.objs.size = none := I.hok.fresh (Nat.le_refl _)
  exact ⟨.ref s.heap.objs.size, _, I.laid (t' := tk) hk (Nat.le_refl _) (setO_new R), rfl, q _ c hn hc'⟩
section
variable {G : GG} {N : List Str} {sc : SC} {k : Nat} {a : Expr} {ta : DT} {p p2 pos pos2 : Pos}
def dSortSet (t : DT) : DT := fun Ex env Q => t Ex env fun x env1 => wd env1 x fun d => match d with
  | .tup ds => ∃ ns : List Int, ds = ns.map D.int ∧ ns.length < 64 ∧ ∀ (ns' : List Int) (b : Addr), ns'.Pairwise (· < ·) → (∀ n : Int, n ∈ ns' ↔ n ∈ ns) → Q (.lst b (ns'.map D.int)) env1
  | _ => False
end
end HD
namespace HD
open PySem PyProof.Rows L2
abbrev Tab := List (Str × Int)
def dTable (tab : Tab) (i : Nat) : DT := fun _ env Q => match env[i]? with
  | some (.ext (.str w)) => ∃ n, tab.lookup w = some n ∧ Q (.ext (.int n)) env
  | _ => False
structure Blt (G : GG) : Prop where
  len : G.mg "len" = none
  range : G.mg "range" = none
  sorted : G.mg "sorted" = none
  set : G.mg "set" = none
  tuple : G.mg "tuple" = none
  list : G.mg "list" = none
  dict : G.mg "dict" = none
  zip : G.mg "zip" = none
  enumerate : G.mg "enumerate" = none
  all : G.mg "all" = none
  any : G.mg "any" = none
  sum : G.mg "sum" = none
  min : G.mg "min" = none
  max : G.mg "max" = none
  isinstance : G.mg "isinstance" = none
  str : G.mg "str" = none
  int : G.mg "int" = none
  repr : G.mg "repr" = none
  bool : G.mg "bool" = none
def lawSpec (n : Nat) : DSpec := fun args Q _ => ∃ ns : List Int, args = [.ext (.fz (ns.map D.int))] ∧ ns.length ≤ n ∧ ∀ fin, Q (.ext (.bl true)) fin
theorem law_sp {K : PySem.W.Frag} {n : Nat} {H : Hp} {a : Addr} {ns : List Int} (hl : ns.length ≤ n) (hS : SqL K H a (ns.map V.int)) : toSp K 1 (lawSpec n) [.ref a] H (fun v _ => v = .bl true) fun _ _ _ => False := by
  have r : Reps K H [.fz (ns.map D.int)] [.ref a] := ⟨_, _, rfl, ⟨a, _, rfl, hS, Reps.of_ints ns⟩, rfl⟩
  refine ⟨H, [.ext (.fz (ns.map D.int))], fun r _ => r = .ext (.bl true), fun _ _ => False, rfl, argsE (Same.refl _) r, ⟨ns, rfl, hl, fun _ => rfl⟩, fun v H' F' r fin hf hq => ?_, fun _ _ _ _ _ z => z⟩
  subst hq
  exact hf.temps (v, .ext (.bl true)) List.mem_cons_self
theorem cx_no {P : Program} {w : World} (H : Hp) (s : Shared) (e : Value) (s' : Shared) (h : L2.CX P w [] H s (fun _ _ _ => False) e s') : False := by
  obtain ⟨_, _, _, _, _, _, _, _, _, _, _, _, z⟩ := h
  exact z
end HD
namespace HD
open PySem PyProof.Rows L2
def iSeq (K : PySem.W.Frag) (tl : TE) : TI := fun σ H R => tl σ H fun x H1 => ∃ a, x = .ref a ∧ (((∃ xs, SqL K H1 a xs) ∧ R (Itl K a) H1) ∨ ((∃ xs, SqT K H1 a xs) ∧ R (Itt K a) H1))
theorem pi_seq {X : Cx} {tg l : Expr} {tl : TE} (hl : PE X l tl) : PI X tg l (iSeq X.K tl) := by
  refine ⟨fun pins s σ H R I h => ?_⟩
  refine thn (hl.run pins s σ H _ I h) fun v s1 ⟨x, H1, I1, r1, q1⟩ => ?_
  obtain ⟨a, ex, q1⟩ := q1
  subst ex
  cases r1
  have fp : ∀ b ∈ [s1.heap.objs.size], FpOk X pins H1 b := fun b hb => by
    have eb : b = s1.heap.objs.size := by simpa using hb
    subst eb
    exact I1.fpOk (Nat.le_refl _) (I1.hok.fresh (Nat.le_refl _))
  rcases q1 with ⟨⟨xs, hq⟩, q⟩ | ⟨⟨xs, hq⟩, q⟩
  · obtain ⟨its, rv, p, hz⟩ := I1.list hq
    refine wpAny_pyIter_list p.isList ?_
    exact ⟨s1.heap.objs.size, [s1.heap.objs.size], _, _, H1, rfl, I1.kept (t' := s1.toks) fun b o e => Heap.get?_push_of_some _ e, turn_list a _, ⟨_, Heap.get?_push_size _ rfl, rfl, rfl⟩, fp, q⟩
  · obtain ⟨its, rv, p, hz⟩ := I1.tuple hq
    refine wpAny_pyIter_tuple (show s1.heap.IsTuple a its.toArray from p) ?_
    exact ⟨s1.heap.objs.size, [s1.heap.objs.size], _, _, H1, rfl, I1.kept (t' := s1.toks) fun b o e => Heap.get?_push_of_some _ e, turn_tuple a _, ⟨_, Heap.get?_push_size _ rfl, rfl, rfl⟩, fp, q⟩
def dSeq (t : DT) : DTI := fun Ex env Q => t Ex env fun x env1 => seqD env1 x fun ds keep => Q ds keep env1
theorem src_stands {K : PySem.W.Frag} {b : Bool} {a : Addr} {ds : List D} {k : Env' → Prop} {F0 : Hp} (h : Stands K b a ds k F0) : Src K (if b = true then Itt K a else Itl K a) ds k F0 := fun e env T F σ H i hh sm kk => by
  obtain ⟨vs, s1, r⟩ := h e env T F σ H hh sm kk
  cases b with
  | true =>
    refine ⟨fun hi => ⟨vs, s1, by rw [← r.length]; exact Nat.le_of_eq hi⟩, fun d hd => ?_⟩
    obtain ⟨v, hv, rd⟩ := r.get hd
    refine ⟨⟨vs, v, s1, hv⟩, fun x H2 hy => ?_⟩
    obtain ⟨rfl, hx⟩ := hy
    have e1 := hx _ s1
    rw [hv] at e1
    cases e1
    exact ⟨F, Grow.refl hh.fh, rd⟩
  | false =>
    refine ⟨fun hi => ⟨vs, s1, by rw [← r.length]; exact Nat.le_of_eq hi⟩, fun d hd => ?_⟩
    obtain ⟨v, hv, rd⟩ := r.get hd
    refine ⟨⟨vs, v, s1, hv⟩, fun x H2 hy => ?_⟩
    obtain ⟨rfl, hx⟩ := hy
    have e1 := hx _ s1
    rw [hv] at e1
    cases e1
    exact ⟨F, Grow.refl hh.fh, rd⟩
section
variable {G : GG} {N : List Str} {sc : SC} {k : Nat} {a : Expr} {ta : DT}
theorem di_seq {tg : Expr} (h : DE G N sc k a ta) : DI G N sc k tg a (dSeq ta) := ⟨fun W => by
  obtain ⟨te, p1, i1⟩ := h.ex W
  refine ⟨iSeq G.K te, fun X S => by rw [← S.K]; exact pi_seq (p1 X S), fun e Ex hl env T F σ H Q R hh ht hR => ?_⟩
  refine i1 e Ex hl env T F σ H _ _ hh ht fun v H1 F1 env1 x hh1 q1 => ?_
  obtain ⟨b, c, ds, kp, F2, rfl, q2, _, hh2, st, kk⟩ := hh1.seqD q1
  have src := src_stands st
  obtain ⟨vs, s1, _⟩ := st e env1 T F2 σ H1 hh2 (Same.refl _) kk
  cases b with
  | true => exact ⟨c, rfl, .inr ⟨⟨vs, s1⟩, hR _ H1 F2 env1 ds kp hh2 src q2⟩⟩
  | false => exact ⟨c, rfl, .inl ⟨⟨vs, s1⟩, hR _ H1 F2 env1 ds kp hh2 src q2⟩⟩⟩
end
end HD
namespace HD
open PySem L2
theorem eqv_refl {d : D} (h : d.cmp) : d.eqv d = true := PySem.SeqAt.eqv_refl d.py (PySem.SeqAt.canLay_of_shaped h.2)
def Meets (t : DTS) (n m : Nat) (sp : DSpec) : Prop := ∀ args Qd Xd, sp args Qd Xd → t (exOf args Xd) (endsOf args Qd) (args ++ List.replicate m .un)
theorem finals1 (x : Sl) (env : Env') : finals [x] env = [fin1 x env[0]?] := rfl
theorem finals2 (x y : Sl) (env : Env') : finals [x, y] env = [fin1 x env[0]?, fin1 y env[1]?] := rfl
theorem finals3 (x y z : Sl) (env : Env') : finals [x, y, z] env = [fin1 x env[0]?, fin1 y env[1]?, fin1 z env[2]?] := rfl
theorem finals4 (x y z u : Sl) (env : Env') : finals [x, y, z, u] env = [fin1 x env[0]?, fin1 y env[1]?, fin1 z env[2]?, fin1 u env[3]?] := rfl
theorem finals5 (x y z u v : Sl) (env : Env') : finals [x, y, z, u, v] env = [fin1 x env[0]?, fin1 y env[1]?, fin1 z env[2]?, fin1 u env[3]?, fin1 v env[4]?] := rfl
theorem finals6 (x y z u v w : Sl) (env : Env') : finals [x, y, z, u, v, w] env = [fin1 x env[0]?, fin1 y env[1]?, fin1 z env[2]?, fin1 u env[3]?, fin1 v env[4]?, fin1 w env[5]?] := rfl
theorem fin1_ext (d : D) (o : Option Sl) : fin1 (.ext d) o = .ext d := rfl
theorem fin1_lst (a : Addr) (ds es : List D) : fin1 (.lst a ds) (some (.lst a es)) = .lst a es := if_pos rfl
theorem fEq_ii (i j : Int) (Q : Sl → Prop) : fEq (.int i) (.int j) Q = Q (.ext (.bl (i == j))) := rfl
theorem fEq_ss (i j : Str) (Q : Sl → Prop) : fEq (.str i) (.str j) Q = Q (.ext (.bl (i == j))) := rfl
theorem fEq_bb (i j : Bool) (Q : Sl → Prop) : fEq (.bl i) (.bl j) Q = Q (.ext (.bl (i == j))) := rfl
theorem fEq_tt (i j : List D) (Q : Sl → Prop) : fEq (.tup i) (.tup j) Q = (D.cmp (.tup i) ∧ D.cmp (.tup j) ∧ Q (.ext (.bl (D.eqv (.tup i) (.tup j))))) := rfl
theorem fEq_ll (i j : List D) (Q : Sl → Prop) : fEq (.lst i) (.lst j) Q = (D.cmp (.lst i) ∧ D.cmp (.lst j) ∧ Q (.ext (.bl (D.eqv (.lst i) (.lst j))))) := rfl
theorem fNe_ii (i j : Int) (Q : Sl → Prop) : fNe (.int i) (.int j) Q = Q (.ext (.bl (!(i == j)))) := rfl
theorem fNe_ss (i j : Str) (Q : Sl → Prop) : fNe (.str i) (.str j) Q = Q (.ext (.bl (!(i == j)))) := rfl
theorem fNe_bb (i j : Bool) (Q : Sl → Prop) : fNe (.bl i) (.bl j) Q = Q (.ext (.bl (!(i == j)))) := rfl
theorem fNe_tt (i j : List D) (Q : Sl → Prop) : fNe (.tup i) (.tup j) Q = (D.cmp (.tup i) ∧ D.cmp (.tup j) ∧ Q (.ext (.bl (!D.eqv (.tup i) (.tup j))))) := rfl
theorem fNe_ll (i j : List D) (Q : Sl → Prop) : fNe (.lst i) (.lst j) Q = (D.cmp (.lst i) ∧ D.cmp (.lst j) ∧ Q (.ext (.bl (!D.eqv (.lst i) (.lst j))))) := rfl
inductive Tok {α : Type _} (Q : α) : Type where
  | mk
def CallS (spec : DSpec) (args : List Sl) (Q : Sl → List Sl → Prop) (X : Str → List Sl → Prop) (_ : Tok Q) (_ : Tok X) : Prop := spec args Q X
def GetS (o : Option D) (k : D → Prop) (_ : Tok k) : Prop := ∃ d, o = some d ∧ k d
def AtS (o : Option Sl) (k1 : D → Prop) (k2 : Addr → List D → Prop) (_ : Tok k1) (_ : Tok k2) : Prop := match o with
  | some (.ext d) => k1 d
  | some (.lst a ds) => k2 a ds
  | _ => False
theorem GetS_some (d : D) (k : D → Prop) (t : Tok k) : GetS (some d) k t = k d := propext ⟨fun ⟨_, e, h⟩ => by cases e; exact h, fun h => ⟨d, rfl, h⟩⟩
theorem AtS_ext (d : D) (k1 : D → Prop) (k2 : Addr → List D → Prop) (t : Tok k1) (u : Tok k2) : AtS (some (.ext d)) k1 k2 t u = k1 d := rfl
theorem AtS_lst (a : Addr) (ds : List D) (k1 : D → Prop) (k2 : Addr → List D → Prop) (t : Tok k1) (u : Tok k2) : AtS (some (.lst a ds)) k1 k2 t u = k2 a ds := rfl
abbrev AtL (o : Option Sl) (k2 : Addr → List D → Prop) : Prop := AtS o (fun _ => False) k2 .mk .mk
theorem AtL_eq (o : Option Sl) (k2 : Addr → List D → Prop) : (match o with | some (.lst a ds) => k2 a ds | _ => False) = AtS o (fun _ => False) k2 .mk .mk := by
  unfold AtS
  rcases o with _ | (_ | _ | _ | _ | _) <;> rfl
theorem dCall_w (spec : DSpec) (ta : DTA) (Ex : DX) (env : Env') (Q : Sl → Env' → Prop) : dCall spec ta Ex env Q = ta Ex env fun xs env1 => wds env1 xs fun ds =>
  CallS spec (ds.map .ext) (fun r _ => (anyAl xs = false ∨ r.imm = true) ∧ r.plain ∧ Q r env1) (fun c _ => Ex c env1) .mk .mk := rfl
theorem dCallJ_w (spec : DSpec) (i : Nat) (ta : DTA) (Ex : DX) (env : Env') (Q : Sl → Env' → Prop) : dCallJ spec i ta Ex env Q = AtL env[i]? fun a _ => ta Ex env fun xs env1 => AtL env1[i]? fun b ds => b = a ∧ frozs env1 xs fun es => CallS spec (.lst a ds :: es.map .ext)
        (fun r fin => match fin with | s' :: _ => s'.plain ∧ r.plain ∧ Q r (env1.set i s') | [] => False) (fun c fin => match fin with | s' :: _ => s'.plain ∧ Ex c (env1.set i s') | [] => False) .mk .mk := by
  simp only [AtL, ← AtL_eq] <;> rfl
theorem dVar_w (i : Nat) (Ex : DX) (env : Env') (Q : Sl → Env' → Prop) : dVar i Ex env Q = AtS env[i]? (fun d => Q (.ext d) env) (fun a _ => Q (.al i a) env) .mk .mk := by
  unfold dVar AtS
  rcases env[i]? with _ | (_ | _ | _ | _ | _) <;> rfl
theorem wd_ext (env : Env') (d : D) (k : D → Prop) : wd env (.ext d) k = k d := rfl
theorem wd_lst (env : Env') (a : Addr) (ds : List D) (k : D → Prop) : wd env (.lst a ds) k = k (.lst ds) := rfl
theorem wd_al (env : Env') (i : Nat) (a : Addr) (k : D → Prop) : wd env (.al i a) k = AtL env[i]? fun b ds => b = a ∧ k (.lst ds) := by
  simp only [AtL, ← AtL_eq] <;> rfl
theorem frzD_ext (env : Env') (d : D) (q : D → Env' → Prop) : frzD env (.ext d) q = q d env := rfl
theorem frzD_lst (env : Env') (a : Addr) (ds : List D) (q : D → Env' → Prop) : frzD env (.lst a ds) q = q (.lst ds) env := rfl
theorem frzD_al (env : Env') (i : Nat) (a : Addr) (q : D → Env' → Prop) : frzD env (.al i a) q = AtL env[i]? fun b ds => b = a ∧ q (.lst ds) (env.set i (.ext (.lst ds))) := by
  simp only [AtL, ← AtL_eq, frzD]
  rcases env[i]? with _ | (_ | d | _ | _ | _) <;> try rfl
  cases d <;> rfl
theorem retD_ext (env : Env') (d : D) (q : Sl → Env' → Prop) : retD env (.ext d) q = q (.ext d) env := rfl
theorem retD_lst (env : Env') (a : Addr) (ds : List D) (q : Sl → Env' → Prop) : retD env (.lst a ds) q = q (.lst a ds) env := rfl
theorem retD_al (env : Env') (i : Nat) (a : Addr) (q : Sl → Env' → Prop) : retD env (.al i a) q = AtL env[i]? fun b ds => b = a ∧ q (.lst a ds) (env.set i .un) := by
  simp only [AtL, ← AtL_eq] <;> rfl
theorem seqD_tup (env : Env') (ds : List D) (q : List D → (Env' → Prop) → Prop) : seqD env (.ext (.tup ds)) q = q ds fun _ => True := rfl
theorem seqD_elst (env : Env') (ds : List D) (q : List D → (Env' → Prop) → Prop) : seqD env (.ext (.lst ds)) q = q ds fun _ => True := rfl
theorem seqD_lst (env : Env') (a : Addr) (ds : List D) (q : List D → (Env' → Prop) → Prop) : seqD env (.lst a ds) q = q ds fun _ => True := rfl
theorem seqD_al (env : Env') (i : Nat) (a : Addr) (q : List D → (Env' → Prop) → Prop) : seqD env (.al i a) q = AtL env[i]? fun b ds => b = a ∧ q ds fun env' => env'[i]? = some (.lst a ds) := by
  simp only [AtL, ← AtL_eq] <;> rfl
theorem mutD_w (env : Env') (i : Nat) (a : Addr) (f : DMut) (Q : Sl → Env' → Prop) : mutD env i a f Q = AtL env[i]? fun b ds => b = a ∧ f ds fun d ds' => Q (.ext d) (env.set i (.lst a ds')) := by
  simp only [AtL, ← AtL_eq] <;> rfl
theorem dAppend_w (i : Nat) (t : DT) (Ex : DX) (env : Env') (Q : Sl → Env' → Prop) : dAppend i t Ex env Q = AtL env[i]? fun a _ => t Ex env fun x env1 => frzD env1 x fun d env2 => mutD env2 i a (fun ds q => ds.length < sizeLine ∧ q .non (ds ++ [d])) Q := by
  simp only [AtL, ← AtL_eq] <;> rfl
def extD (env : Env') (i : Nat) (a : Addr) (d : D) (Q : Sl → Env' → Prop) : Prop := match d with
    | .lst es => mutD env i a (fun ds q => ds.length + es.length ≤ sizeLine ∧ q .non (ds ++ es)) Q
    | _ => False
theorem extD_lst (env : Env') (i : Nat) (a : Addr) (es : List D) (Q : Sl → Env' → Prop) : extD env i a (.lst es) Q = mutD env i a (fun ds q => ds.length + es.length ≤ sizeLine ∧ q .non (ds ++ es)) Q := rfl
theorem dExtend_w (i : Nat) (t : DT) (Ex : DX) (env : Env') (Q : Sl → Env' → Prop) : dExtend i t Ex env Q = AtL env[i]? fun a _ => t Ex env fun x env1 => wd env1 x fun d => extD env1 i a d Q := by
  simp only [AtL, ← AtL_eq] <;> rfl
def popD (env : Env') (i : Nat) (a : Addr) (x : Sl) (Q : Sl → Env' → Prop) : Prop := match x with
    | .ext (.int n) => mutD env i a (fun ds q => 0 ≤ n ∧ n < 2 ^ 63 ∧ ∃ d, ds[n.toNat]? = some d ∧ q d (ds.eraseIdx n.toNat)) Q
    | _ => False
theorem popD_int (env : Env') (i : Nat) (a : Addr) (n : Int) (Q : Sl → Env' → Prop) : popD env i a (.ext (.int n)) Q = mutD env i a (fun ds q => 0 ≤ n ∧ n < 2 ^ 63 ∧ GetS ds[n.toNat]? (fun d => q d (ds.eraseIdx n.toNat)) .mk) Q := rfl
theorem dPopAt_w (i : Nat) (t : DT) (Ex : DX) (env : Env') (Q : Sl → Env' → Prop) : dPopAt i t Ex env Q = AtL env[i]? fun a _ => t Ex env fun x env1 => popD env1 i a x Q := by
  simp only [AtL, ← AtL_eq] <;> rfl
theorem dPop_w (i : Nat) (Ex : DX) (env : Env') (Q : Sl → Env' → Prop) : dPop i Ex env Q = AtL env[i]? fun a _ => mutD env i a (fun ds q => GetS ds[ds.length - 1]? (fun d => q d ds.dropLast) .mk) Q := by
  simp only [AtL, ← AtL_eq] <;> rfl
def setD (env2 : Env') (i : Nat) (a : Addr) (d : D) (z : Sl) (q : Env' → Prop) : Prop := match z with
    | .ext (.int n) => AtL env2[i]? fun b ds => b = a ∧ ∃ j, ixN ds.length n = some j ∧ q (env2.set i (.lst a (ds.set j d)))
    | _ => False
def NatS (o : Option Nat) (k : Nat → Prop) (_ : Tok k) : Prop := ∃ j, o = some j ∧ k j
theorem NatS_some (j : Nat) (k : Nat → Prop) (t : Tok k) : NatS (some j) k t = k j := propext ⟨fun ⟨_, e, h⟩ => by cases e; exact h, fun h => ⟨j, rfl, h⟩⟩
theorem setD_int (env2 : Env') (i : Nat) (a : Addr) (d : D) (n : Int) (q : Env' → Prop) : setD env2 i a d (.ext (.int n)) q = AtL env2[i]? fun b ds => b = a ∧ NatS (ixN ds.length n) (fun j => q (env2.set i (.lst a (ds.set j d)))) .mk := rfl
theorem sSetItem_w (i : Nat) (tI te : DT) (Ex : DX) (E : DEnds) (env : Env') : sSetItem i tI te Ex E env = te Ex env fun y env0 => frzD env0 y fun d env1 => AtL env1[i]? fun a _ => tI Ex env1 fun z env2 => setD env2 i a d z E.nx := by
  simp only [AtL, ← AtL_eq, setD, sSetItem] <;> rfl
theorem dTable_w (tab : Tab) (i : Nat) (Ex : DX) (env : Env') (Q : Sl → Env' → Prop) : dTable tab i Ex env Q = AtS env[i]? (fun d => match d with | .str w => ∃ n, tab.lookup w = some n ∧ Q (.ext (.int n)) env | _ => False) (fun _ _ => False) .mk .mk := by
  unfold dTable AtS
  rcases env[i]? with _ | (_ | d | _ | _ | _) <;> try rfl
  cases d <;> rfl
theorem fIx_l (ds : List D) (i : Int) (Q : Sl → Prop) : fIx (.lst ds) (.int i) Q = GetS (atI ds i) (fun d => Q (.ext d)) .mk := rfl
theorem fIx_t (ds : List D) (i : Int) (Q : Sl → Prop) : fIx (.tup ds) (.int i) Q = GetS (atI ds i) (fun d => Q (.ext d)) .mk := rfl
theorem fIx_k (ds : List D) (i : Int) (Q : Sl → Prop) : fIx (.tk ds) (.int i) Q = GetS (atI ds i) (fun d => Q (.ext d)) .mk := rfl
theorem fIx_f (ds : List D) (i : Int) (Q : Sl → Prop) : fIx (.fz ds) (.int i) Q = GetS (atI ds i) (fun d => Q (.ext d)) .mk := rfl
def BoolS (o : Option Bool) (k : Bool → Prop) (_ : Tok k) : Prop := ∃ b, o = some b ∧ k b
theorem BoolS_some (b : Bool) (k : Bool → Prop) (t : Tok k) : BoolS (some b) k t = k b := propext ⟨fun ⟨_, e, h⟩ => by cases e; exact h, fun h => ⟨b, rfl, h⟩⟩
theorem fIsi1 (d : D) (T : String) (Q : Sl → Prop) : fIsi [d, .val (.ty T)] Q = (d.noVal = true ∧ d.isFz = false ∧ BoolS (kitB d.ty T) (fun b => Q (.ext (.bl b))) .mk) := rfl
theorem fIsi2 (d : D) (T U : String) (Q : Sl → Prop) : fIsi [d, .tup [.val (.ty T), .val (.ty U)]] Q = (d.noVal = true ∧ d.isFz = false ∧ BoolS (kitB d.ty T) (fun b => BoolS (kitB d.ty U) (fun c => Q (.ext (.bl (b || c)))) .mk) .mk) := by
  simp only [fIsi, BoolS]
  refine propext ⟨fun ⟨h1, h2, b, c, h3, h4, q⟩ => ⟨h1, h2, b, h3, c, h4, q⟩, fun ⟨h1, h2, b, h3, c, h4, q⟩ => ⟨h1, h2, b, c, h3, h4, q⟩⟩
theorem kb_non_tuple : kitB (D.ty .non) "tuple" = some false := by decide +kernel
theorem kb_non_list : kitB (D.ty .non) "list" = some false := by decide +kernel
theorem kb_non_bool : kitB (D.ty .non) "bool" = some false := by decide +kernel
theorem kb_non_int : kitB (D.ty .non) "int" = some false := by decide +kernel
theorem kb_non_str : kitB (D.ty .non) "str" = some false := by decide +kernel
theorem kb_bl_tuple (b : Bool) : kitB (D.ty (.bl b)) "tuple" = some false := show kitB "bool" "tuple" = some false by decide +kernel
theorem kb_bl_list (b : Bool) : kitB (D.ty (.bl b)) "list" = some false := show kitB "bool" "list" = some false by decide +kernel
theorem kb_bl_bool (b : Bool) : kitB (D.ty (.bl b)) "bool" = some true := show kitB "bool" "bool" = some true by decide +kernel
theorem kb_bl_int (b : Bool) : kitB (D.ty (.bl b)) "int" = some true := show kitB "bool" "int" = some true by decide +kernel
theorem kb_bl_str (b : Bool) : kitB (D.ty (.bl b)) "str" = some false := show kitB "bool" "str" = some false by decide +kernel
theorem kb_int_tuple (i : Int) : kitB (D.ty (.int i)) "tuple" = some false := show kitB "int" "tuple" = some false by decide +kernel
theorem kb_int_list (i : Int) : kitB (D.ty (.int i)) "list" = some false := show kitB "int" "list" = some false by decide +kernel
theorem kb_int_bool (i : Int) : kitB (D.ty (.int i)) "bool" = some false := show kitB "int" "bool" = some false by decide +kernel
theorem kb_int_int (i : Int) : kitB (D.ty (.int i)) "int" = some true := show kitB "int" "int" = some true by decide +kernel
theorem kb_int_str (i : Int) : kitB (D.ty (.int i)) "str" = some false := show kitB "int" "str" = some false by decide +kernel
theorem kb_str_tuple (x : Str) : kitB (D.ty (.str x)) "tuple" = some false := show kitB "str" "tuple" = some false by decide +kernel
theorem kb_str_list (x : Str) : kitB (D.ty (.str x)) "list" = some false := show kitB "str" "list" = some false by decide +kernel
theorem kb_str_bool (x : Str) : kitB (D.ty (.str x)) "bool" = some false := show kitB "str" "bool" = some false by decide +kernel
theorem kb_str_int (x : Str) : kitB (D.ty (.str x)) "int" = some false := show kitB "str" "int" = some false by decide +kernel
theorem kb_str_str (x : Str) : kitB (D.ty (.str x)) "str" = some true := show kitB "str" "str" = some true by decide +kernel
theorem kb_lst_tuple (ds : List D) : kitB (D.ty (.lst ds)) "tuple" = some false := show kitB "list" "tuple" = some false by decide +kernel
theorem kb_lst_list (ds : List D) : kitB (D.ty (.lst ds)) "list" = some true := show kitB "list" "list" = some true by decide +kernel
theorem kb_lst_bool (ds : List D) : kitB (D.ty (.lst ds)) "bool" = some false := show kitB "list" "bool" = some false by decide +kernel
theorem kb_lst_int (ds : List D) : kitB (D.ty (.lst ds)) "int" = some false := show kitB "list" "int" = some false by decide +kernel
theorem kb_lst_str (ds : List D) : kitB (D.ty (.lst ds)) "str" = some false := show kitB "list" "str" = some false by decide +kernel
theorem kb_tup_tuple (ds : List D) : kitB (D.ty (.tup ds)) "tuple" = some true := show kitB "tuple" "tuple" = some true by decide +kernel
theorem kb_tup_list (ds : List D) : kitB (D.ty (.tup ds)) "list" = some false := show kitB "tuple" "list" = some false by decide +kernel
theorem kb_tup_bool (ds : List D) : kitB (D.ty (.tup ds)) "bool" = some false := show kitB "tuple" "bool" = some false by decide +kernel
theorem kb_tup_int (ds : List D) : kitB (D.ty (.tup ds)) "int" = some false := show kitB "tuple" "int" = some false by decide +kernel
theorem kb_tup_str (ds : List D) : kitB (D.ty (.tup ds)) "str" = some false := show kitB "tuple" "str" = some false by decide +kernel
def BlS (z : Sl) (k : Bool → Prop) (_ : Tok k) : Prop := match z with
  | .ext (.bl b) => k b
  | _ => False
theorem BlS_bl (b : Bool) (k : Bool → Prop) (t : Tok k) : BlS (.ext (.bl b)) k t = k b := rfl
theorem bl_match (z : Sl) (p q : Prop) : (match z with
  | .ext (.bl true) => p
  | .ext (.bl false) => q
  | _ => False) = BlS z (fun b => if b = true then p else q) .mk := by
  unfold BlS
  rcases z with _ | (_ | b | _ | _ | _ | _ | _ | _ | _ | _ | _) | _ | _ <;> try rfl
  cases b <;> simp
theorem dChain_w (f f' : D → D → (Sl → Prop) → Prop) (ta tb tc : DT) (Ex : DX) (env : Env') (Q : Sl → Env' → Prop) : dChain f f' ta tb tc Ex env Q = ta Ex env fun x env1 => tb Ex env1 fun y env2 => wd env2 x fun d => wd env2 y fun d' => f d d' fun z =>
  BlS z (fun b => if b = true then (tc Ex env2 fun w env3 => wd env3 y fun d1 => wd env3 w fun d2 => f' d1 d2 fun sl => Q sl env3) else Q (.ext (.bl false)) env2) .mk := by
  simp only [← bl_match] <;> rfl
theorem dAndV_w (ta tb : DT) (Ex : DX) (env : Env') (Q : Sl → Env' → Prop) : dAndV ta tb Ex env Q = ta Ex env fun x env1 => BlS x (fun b => if b = true then tb Ex env1 Q else Q (.ext (.bl false)) env1) .mk := by
  simp only [← bl_match] <;> rfl
theorem dOrV_w (ta tb : DT) (Ex : DX) (env : Env') (Q : Sl → Env' → Prop) : dOrV ta tb Ex env Q = ta Ex env fun x env1 => BlS x (fun b => if b = true then Q (.ext (.bl true)) env1 else tb Ex env1 Q) .mk := by
  have e : ∀ (z : Sl) (p q : Prop), (match z with
    | .ext (.bl false) => q
    | .ext (.bl true) => p
    | _ => False) = BlS z (fun b => if b = true then p else q) .mk := by
    intro z p q
    unfold BlS
    rcases z with _ | (_ | b | _ | _ | _ | _ | _ | _ | _ | _ | _) | _ | _ <;> try rfl
    cases b <;> simp
  simp only [← e] <;> rfl
abbrev iD (l : List Int) : List D := l.map D.int
abbrev nD (l : List Nat) : List D := l.map fun n : Nat => D.int (n : Int)
theorem nD_cons (x : Nat) (l : List Nat) : nD (x :: l) = D.int (x : Int) :: nD l := rfl
theorem nD_app (a b : List Nat) : nD (a ++ b) = nD a ++ nD b := List.map_append
theorem nD_len (a : List Nat) : (nD a).length = a.length := List.length_map _
theorem iD_len (a : List Int) : (iD a).length = a.length := List.length_map _
theorem cmulN {i j : Int} {a b : Nat} (hi : i.natAbs < 2 ^ a) (hj : j.natAbs < 2 ^ b) (h : a + b < 1000000) : CMulW i j := by
  unfold CMulW
  have h1 : i.natAbs.log2 ≤ a := by
    rcases Nat.eq_zero_or_pos i.natAbs with z | z
    · rw [z]; exact Nat.zero_le _
    · exact Nat.le_of_lt ((Nat.log2_lt (by omega)).2 hi)
  have h2 : j.natAbs.log2 ≤ b := by
    rcases Nat.eq_zero_or_pos j.natAbs with z | z
    · rw [z]; exact Nat.zero_le _
    · exact Nat.le_of_lt ((Nat.log2_lt (by omega)).2 hj)
  omega
theorem cmul64 {i j : Int} (h1 : -18446744073709551616 < i) (h2 : i < 18446744073709551616) (h3 : -18446744073709551616 < j) (h4 : j < 18446744073709551616) : CMulW i j :=
  cmulN (a := 64) (b := 64) (by omega) (by omega) (by decide)
theorem atN {α : Type} {xs : List α} {n : Nat} {x : α} (h : xs[n]? = some x) : atI xs (n : Int) = some x := by
  have hl : n < xs.length := (List.getElem?_eq_some_iff.1 h).1
  have e : ixN xs.length (n : Int) = some n := by
    unfold ixN
    rw [if_pos (by omega), if_pos (by omega)]
    simp
  unfold atI
  rw [e]
  exact h
theorem ixN_nat {n i : Nat} (h : i < n) : ixN n (i : Int) = some i := by
  unfold ixN
  rw [if_pos (by omega), if_pos (by omega)]
  simp
theorem atI_int {α : Type} {xs : List α} {i : Int} {x : α} (h0 : 0 ≤ i) (h : xs[i.toNat]? = some x) : atI xs i = some x := by
  have := atN h
  rwa [Int.toNat_of_nonneg h0] at this
theorem atI_0 {α : Type} (x : α) (xs : List α) : atI (x :: xs) 0 = some x := atN (n := 0) rfl
theorem atI_1 {α : Type} (x y : α) (xs : List α) : atI (x :: y :: xs) 1 = some y := atN (n := 1) rfl
theorem atI_2 {α : Type} (x y z : α) (xs : List α) : atI (x :: y :: z :: xs) 2 = some z := atN (n := 2) rfl
theorem atI_3 {α : Type} (x y z u : α) (xs : List α) : atI (x :: y :: z :: u :: xs) 3 = some u := atN (n := 3) rfl
theorem ixN_0 (n : Nat) : ixN (n + 1) 0 = some 0 := ixN_nat (i := 0) (by omega)
theorem ixN_1 (n : Nat) : ixN (n + 1 + 1) 1 = some 1 := ixN_nat (i := 1) (by omega)
theorem ixN_2 (n : Nat) : ixN (n + 1 + 1 + 1) 2 = some 2 := ixN_nat (i := 2) (by omega)
end HD
namespace HD
open PySem PySem.Spec PyProof.Rows L2
section
variable {X : Cx} {pins : List (Addr × Obj)} {σ : L2.St} {H : Hp} {s : Shared}
theorem un_adopt {fs ex : List Addr} {H0 H1 : Hp} {h h1 : Heap} {a : Addr} {o : HO} (u : Un fs ex H0 H1 h h1) (n0 : a ∉ ex → h.get? a = none) (n1 : H1 a = none) : Un fs ex H0 (upd H1 a o) h h1 where
  keep := u.keep
  slot := u.slot
  there := u.there
  free := fun b x q n z => by
    have nb : b ≠ a := fun e => by
      subst e
      rw [n0 z] at q; cases q
    rw [upd_ne nb]; exact u.free b x q n z
  tups := fun b xs q => by
    have q1 := u.tups b xs q
    rw [upd_ne (ne_of_none q1 n1)]; exact q1
  frzs := fun b x y q => by
    have q1 := u.frzs b x y q
    rw [upd_ne (ne_of_none q1 n1)]; exact q1
  tbls := fun b ps q => by
    obtain ⟨m, q1⟩ := u.tbls b ps q
    exact ⟨m, by rw [upd_ne (ne_of_none q1 n1)]; exact q1⟩
theorem inv_adopt {a : Addr} {oe : Obj} (I : Inv X pins σ H s) (ha : s.heap.get? a = some oe) (na : H a = none) (nL : a ≠ X.env.locals) (nc : ∀ v, oe.data ≠ .cell v) (n0 : a ∉ X.ex → X.s_0.heap.get? a = none) (np : ∀ p ∈ X.pn ++ pins, p.1 ≠ a) :
    Inv X pins σ (upd H a (.frz oe (.own a))) s where
  ok := I.ok
  os := I.os
  bare := I.bare
  base := un_adopt I.base n0 na
  loc := I.loc
  cell := I.cell
  free := by rw [upd_ne (Ne.symm nL)]; exact I.free
  freeC := fun x c q => by
    obtain ⟨v, hv⟩ := I.cell x c q
    have : c ≠ a := fun e => by
      rw [e] at hv
      obtain ⟨o, q1, q2⟩ := hv
      rw [ha] at q1
      cases q1
      exact nc _ q2
    rw [upd_ne this]; exact I.freeC x c q
  pin := fun p hp => by
    obtain ⟨h1, h2, h3⟩ := I.pin p hp
    exact ⟨h1, by rw [upd_ne (np p hp)]; exact h2, h3⟩
  hok := I.hok.laidN (fun _ _ q => q) na ⟨ha, oe, ha⟩
  len := I.len
end
def wKeep (K : PySem.W.Frag) (c : Value) (i : Nat) (ts : Addr → Value → Option Addr → TS) (Wout : WX) (D : Ends) : WX := fun cls d σ H =>
  ∃ b, PySem.W.exmOne K cls c = some b ∧
    (b = true → ∀ (a : Addr) (oe : Obj), H a = none → Zc cls d oe → (∃ vs, oe.data = .fields vs) →
      ts a cls d { nx := fun σ' H' => D.nx (σ'.set i none) (upd H' a (.frz oe (.own a))), rt := fun _ _ => False } (σ.set i (some (.ref a))) H) ∧
    (b = false → Wout cls d σ H)
section
variable {X : Cx} {x n : Str} {c : Value} {i : Nat} {body suite : List Stmt} {b0 : Stmt} {np pos pos' : Pos} {tb : WX → TS} {ts : Addr → Value → Option Addr → TS} {Wout : WX}
theorem ps_try_keep (hs : X.stack = X.env :: X.outer) (hf : X.env.frame = some X.env.locals) (hN : X.N.Nodup) (hi : X.N[i]? = some n) (hl : X.env.kindOf n = some .local) (hc : Names X x c) (tk : Takes X Wout)
    (hb : ∀ (W : WX) (pn : List (Addr × Obj)) (xe : Value → Shared → Prop), Takes (X.tr pn xe) W → PassesOwn (model X.prog X.w) X.A X.env xe → PSs (X.tr pn xe) body (tb W))
    (hsu : ∀ (a : Addr) (oe : Obj) (cls : Value) (d : Option Addr) (pn : List (Addr × Obj)), Zc cls d oe → (∃ vs, oe.data = .fields vs) → PSs (X.suite a ((a, oe) :: pn)) (b0 :: suite) (ts a cls d)) :
    PS X (.Try body [.ExceptHandler (some (.Name x np)) (some n) (b0 :: suite) pos'] [] [] pos) (fun D σ H => tb (wKeep X.K c i ts Wout D) D σ H) := by
  refine ⟨fun pins s σ H D I h => wpAny_Try_except ?_⟩
  have ok := I.ok
  have fr : X.A.frames = some (X.env :: X.outer) := ok.frames.trans (by rw [hs])
  refine wpAny_mono ((hb (wKeep X.K c i ts Wout D) (X.pn ++ pins)
    (fun e t1 => wpAny (model X.prog X.w) X.A (noteFrame e X.env) (fun _ t2 => wpAny (model X.prog X.w) X.A (setFlight e none) (fun _ t3 =>
      wpAny (model X.prog X.w) X.A (handleBy e X.env [.ExceptHandler (some (.Name x np)) (some n) (b0 :: suite) pos']) (SP X pins D) X.xe t3) X.xe t2) X.xe t1)
    (fun u t xx => ?_) PassesOwn.looking).run [] s σ H D (I.toTry _) h) (fun f t1 q => ?_) (fun _ _ z => z)
  · obtain ⟨a, B, sI, pins', σ1, H1, cls, d, rfl, J0, nb, up, sky, na, os, ag, b, hb1, yes, no⟩ := xx
    have J : Inv X pins σ1 H1 sI := J0.ofTry ok
    have sky1 : Sky B (X.env :: X.outer) a (Zc cls d) X.env.locals t.heap := hs ▸ sky
    show wpAny (model X.prog X.w) X.A (noteFrame (.ref a) X.env) _ _ _
    refine Sky.land Zc.steady fr hf sky1 fun g fl ug => ?_
    have J3 : Inv X pins σ1 H1 { t with heap := g } := J.landed nb fl.1 (up.trans ug) os ag
    obtain ⟨o3, vs3, e3, z3, d3⟩ := fl.there
    have away : ∀ {k : Heap} {o : Obj} {vs : Array Value}, k.FunFrames B (X.env :: X.outer) → k.get? a = some o → o.data = .fields vs → a ∉ frs (X.env :: X.outer) := fun ff e dd hm => by
      obtain ⟨_, o', e', hnf⟩ := ff.mem hm
      rw [e] at e'
      cases e'
      exact hnf _ dd
    have nfr := away fl.2.2.1 e3 d3
    have Bn : B.get? a = none := fl.2.1
    have nL : a ≠ X.env.locals := fun z => nfr (List.mem_filterMap.mpr ⟨X.env, List.mem_cons_self, by rw [hf, z]⟩)
    have nF : a ∉ X.fs := fun hm => by
      obtain ⟨e, he, q⟩ := List.mem_filterMap.mp hm
      exact nfr (List.mem_filterMap.mpr ⟨e, List.mem_cons_of_mem _ he, q⟩)
    -- nothing stood at a ahead of the raise
    have sIn : sI.heap.get? a = none := by
      cases q : sI.heap.get? a with
      | none => rfl
      | some o =>
        have := nb a o q (by rw [hs]; exact nfr)
        rw [Bn] at this
        cases this
    have S3 := J3.suite e3 d3 na nL nF
    refine wpAny_handleBy_cons (codeAny_handlers_test ?_) (by intro q; cases q)
    have LT : PySem.W.Looks (model X.prog X.w) g (typeOf (.ref a)) cls := fun A Q E s k q => wpAny_typeOf_ref (k _ _ e3) (by rw [z3.1]; exact q)
    have LM := PySem.W.exm_one (M := model X.prog X.w) (J3.kIn) LT hb1
    have test : ∀ {Q : Value → Shared → Prop} {E : Value → Shared → Prop}, Q c { t with heap := g } → wpAny (model X.prog X.w) (X.A.mark (some (.ref a))) (eval (.Name x np) X.env) Q E { t with heap := g } := fun {Q E} q => by
      obtain ⟨hg, hd, hm | ⟨hm, hv, hnn⟩⟩ := hc
      · exact ld_glob (X := X.suite a ((a, o3) :: (X.pn ++ pins))) S3 hg hm q hd
      · exact ld_blt (X := X.suite a ((a, o3) :: (X.pn ++ pins))) S3 hg hm hv q hnn hd
    refine test (LM.here ?_)
    cases b with
    | true =>
      refine codeAny_handlers_suite_as (HandSPX.lands_againZ fl fun g4 fl4 ug4 => ?_)
      have J4 : Inv X pins σ1 H1 { t with heap := g4 } := J.landed nb fl4.1 ((up.trans ug).trans ug4) os ag
      obtain ⟨o4, vs4, e4, z4, d4⟩ := fl4.there
      have S4 := J4.suite e4 d4 na nL nF
      refine store_ok (X := X.suite a ((a, o4) :: (X.pn ++ pins))) (v := .ref a) S4 hN hi (.inl hl) rfl (fun s5 S5 => ?_) (.inr hl)
      refine wpAny_mono ((hsu a o4 cls d (X.pn ++ pins) z4 ⟨_, d4⟩).run [] s5 _ H1 _ S5 (yes rfl a o4 na z4 ⟨_, d4⟩)) (fun f s6 q => ?_) (fun _ _ z => z.elim)
      cases f with
      | next =>
        obtain ⟨σ6, H6, S6, q6⟩ := q
        obtain ⟨p1, p2, p3, p4, p5⟩ := S6.pin (a, o4) (List.mem_append_left _ List.mem_cons_self)
        have J6 : Inv X pins σ6 H6 s6 := S6.unsuite ok
        have n0 : a ∉ X.ex → X.s_0.heap.get? a = none := fun hx => by
          cases q : X.s_0.heap.get? a with
          | none => rfl
          | some o =>
            obtain ⟨o', q'⟩ := J.base.there a o q hx
            rw [sIn] at q'
            cases q'
        have npin : ∀ p ∈ X.pn ++ pins, p.1 ≠ a := fun p hp e => by
          have := (J.pin p hp).1
          rw [e, sIn] at this
          cases this
        exact gone_ok (inv_adopt J6 p1 p2 p3 p5 n0 npin) hN hi hl fun s7 J7 => ⟨_, _, J7, q6⟩
      | brk =>
        obtain ⟨σ6, H6, S6, q6⟩ := q
        exact q6.elim
      | cont =>
        obtain ⟨σ6, H6, S6, q6⟩ := q
        exact q6.elim
      | ret u =>
        obtain ⟨v6, σ6, H6, S6, r6, q6⟩ := q
        exact q6.elim
    | false =>
      show wpAny _ X.A (handleBy (.ref a) X.env []) _ _ _
      refine wpAny_handleBy_nil ?_
      obtain ⟨k1, k2, k3, oe, vs, T, oT, ts', he, hz, hd, h1, hr⟩ := id fl
      unfold PySem.passOn
      refine wpAny_bind (wpAny_field he hd h1 ?_)
      rw [if_neg (show ¬ ((Value.ref T == Value.none) = true) from by simp)]
      have last : wpAny (model X.prog X.w) X.A (setFlight (.ref a) X.env.frame) (fun _ t4 => wpAny (model X.prog X.w) X.A (throw (.ref a) : Sem Flow) (SP X pins D) X.xe t4) X.xe { t with heap := g } := by
        rw [hf]
        refine HandSPX.setFlight_upZ fl fun g4 hh ug4 => wpAny_throw (tk _ _ ?_)
        exact ⟨a, B, sI, pins, σ1, H1, cls, d, rfl, J, nb, (up.trans ug).trans ug4, .inr (.inr (by rw [hs]; exact hh)), na, os, ag, no rfl⟩
      first
        | exact wpAny_bind (wpAny_pure (wpAny_bind last))
        | exact wpAny_bind last
  · cases f with
    | next =>
      obtain ⟨σ1, H1, J1, q1⟩ := q
      exact wpAny_execs_nil ⟨σ1, H1, J1.ofTry ok, q1⟩
    | brk =>
      obtain ⟨σ1, H1, J1, q1⟩ := q
      exact ⟨σ1, H1, J1.ofTry ok, q1⟩
    | cont =>
      obtain ⟨σ1, H1, J1, q1⟩ := q
      exact ⟨σ1, H1, J1.ofTry ok, q1⟩
    | ret u =>
      obtain ⟨v, σ1, H1, J1, r, q1⟩ := q
      exact ⟨v, σ1, H1, J1.ofTry ok, r, q1⟩
end
end HD
namespace HD
open PySem L2
structure XOk (G : GG) (x : Str) : Prop where
  mg : G.mg x = some (clsV G.K x)
  exc : (He.Fa.exc x).ok G.K = true
def sRaise (x : Str) : DTS := fun Ex _ env => Ex x env
section
variable {G : GG} {N : List Str} {sc : SC} {k : Nat}
theorem ds_raise {x m : Str} {j : Nat} {p p2 pos pos' : Pos} (h : XOk G x) (hg : GlS sc x := by rfl) (hdb : (x == ("__debug__" : Str)) = false := by decide) :
    DS G N sc k (.Raise (some (.Call (.Name x p) [.Constant (.str m) j p2] [] pos)) none pos') (sRaise x) := ⟨fun W => by
  obtain ⟨q1, q2, q3, q4⟩ := He.exc_ok h.exc
  refine ⟨fun _ σ H => W (clsV G.K x) none σ H, fun X S => ?_, fun e Ex hl env F σ H E Dn hh ht ok => hl x env F σ H hh ht⟩
  have a1 : PySem.W.excIn X.K (He.ga G.K x) He.veBase "ValueError.__new__" = true := by rw [S.K]; exact q1
  have a2 : PySem.W.keepIn X.K (.ref (He.ga G.K x)) = true := by rw [S.K]; exact q2
  have a3 : Raises X (.ref (He.ga G.K x)) := raises_own (by rw [S.K]; exact q3) (by rw [S.K]; exact q4)
  have a4 : X.mg x = some (.ref (He.ga G.K x)) := by rw [S.mg]; exact h.mg
  have a5 : Gl X x := S.gl hg
  exact ps_raise S.calm S.tk (pmk_own PySem.F.excBase_ValueError a1 a4 a2 a3 a5 hdb)⟩
structure XCat (G : GG) (x : Str) (cs : List Str) : Prop where
  mg : G.mg x = some (clsV G.K x)
  exm : ∀ c ∈ cs, PySem.W.exmOne G.K (clsV G.K c) (clsV G.K x) = some true
def sTryKeep (cs : List Str) (i j : Nat) (t : DTS) : DTS := fun _ E env => t (fun c env1 => c ∈ cs ∧ i < env1.length ∧ E.nx ((env1.set j (.ext (.exc c))).set i .un)) E env
theorem ds_tryKeep {x n m : Str} {cs : List Str} {body : List Stmt} {t : DTS} {np pm pn ap pos pos' : Pos} (i j : Nat) (hx : XCat G x cs) (hb : DSs G N sc k body t) (htop : sc.top = true := by rfl) (hi : N[i]? = some n := by rfl) (hj : N[j]? = some m := by rfl) (hij : i ≠ j := by decide)
    (hg : GlS sc x := by rfl) (hn : sc.sc.names.lookup n = some .local := by rfl) (hm : sc.sc.names.lookup m = some .local := by rfl) (hdb : (x == ("__debug__" : Str)) = false := by decide)
    (hdn : (n == ("__debug__" : Str)) = false := by decide) (hcn : (n == ("__classdict__" : Str)) = false := by decide) (hs : ∀ env, env.scope = sc.sc → swapsWith (.Name n pn) (some (.Name m pm)) ap.line env = pure false := by intro _ _; rfl) :
    DS G N sc k (.Try body [.ExceptHandler (some (.Name x np)) (some n) [.Assign [.Name m pm] (.Name n pn) ap] pos'] [] [] pos) (sTryKeep cs i j t) := ⟨fun W => by
  have tb : ∀ W' : WX, ∃ ts, (∀ X, Sit G N sc W' k X → PSs X body ts) ∧ ImS G.K W' ts t := hb.ex
  let ts : WX → TS := fun W' => Classical.choose (tb W')
  have p1 : ∀ W' X, Sit G N sc W' k X → PSs X body (ts W') := fun W' => (Classical.choose_spec (tb W')).1
  have i1 : ∀ W', ImS G.K W' (ts W') t := fun W' => (Classical.choose_spec (tb W')).2
  let su : Addr → Value → Option Addr → TS := fun _ _ _ => tAsg (tVar i) (gName j)
  refine ⟨fun D σ H => ts (wKeep G.K (clsV G.K x) i su W D) D σ H, fun X S => ?_, fun e Ex hl env F σ H E Dn hh ht ok => ?_⟩
  · have hk : X.env.kindOf n = some .local := by unfold Env.kindOf; rw [S.scp]; exact hn
    have key := ps_try_keep (X := X) (x := x) (n := n) (c := clsV G.K x) (i := i) (body := body) (suite := []) (b0 := .Assign [.Name m pm] (.Name n pn) ap) (np := np) (pos := pos) (pos' := pos') (tb := ts) (ts := su) (Wout := W)
      (S.stk htop).1 (S.stk htop).2 (by rw [S.nms]; exact S.nd) (by rw [S.nms]; exact hi) hk ⟨S.gl hg, hdb, .inl (by rw [S.mg]; exact hx.mg)⟩ S.tk
      (fun W' pn xe tk own => p1 W' _ ⟨S.prog, S.w, S.K, S.mg, S.base, S.nms, S.nd, S.scp, S.calm, S.room, tk, S.fn, own, S.stk, S.gd⟩)
      (fun a oe cls d pn hz hd => pss_one (ps_set (X := X.suite a ((a, oe) :: pn)) (i := j) (by rw [show (X.suite a ((a, oe) :: pn)).N = N from S.nms]; exact S.nd) (by rw [show (X.suite a ((a, oe) :: pn)).N = N from S.nms]; exact hj) (.inl (by show X.env.kindOf m = _; unfold Env.kindOf; rw [S.scp]; exact hm)) (pe_var (by rw [show (X.suite a ((a, oe) :: pn)).N = N from S.nms]; exact hi) (.inl hk) hdn hcn) (hs _ S.scp) (.inr (by show X.env.scope.names.lookup m = _; rw [S.scp]; exact hm))))
    rw [S.K] at key
    exact key
  · refine i1 _ e _ (fun c env1 F1 σ1 H1 h1 q1 => ?_) env F σ H E Dn hh ht ok
    obtain ⟨hc, hil, q⟩ := q1
    refine ⟨true, hx.exm c hc, fun _ a oe na zc hd => ?_, fun z => by cases z⟩
    have g := Grow.frozen (o := .frz oe (.own a)) h1.fh na
    have h2 := h1.grow g
    have rp : Rep G.K (upd F1 a (.frz oe (.own a))) (.exc c) (.ref a) := ⟨a, oe, rfl, upd_same, zc.1, zc.2, hd⟩
    have h3 := ((h2.pushE rp).assign j trivial).wipe1 i
    have e1 : (((σ1.set i (some (V.ref a))).set j (some (V.ref a))).set i none) = (σ1.set j (some (V.ref a))).set i none := by
      rw [List.set_comm _ _ hij, List.set_set]
    refine ⟨.ref a, ?_, ?_⟩
    · rw [List.getElem?_set_self (by rw [← h1.len]; exact hil)]
    · show Dn.nx (((σ1.set i (some (V.ref a))).set j (some (V.ref a))).set i none) _
      rw [e1]
      exact ok.nx _ _ _ _ h3 q⟩
end
end HD
namespace HD
open PySem L2
abbrev FTab := Str → Option (Nat × DSpec)
structure Defs (G : GG) (kf : Nat) (FT : FTab) : Prop where
  all : ∀ nm n spec, FT nm = some (n, spec) → (∃ k', k' ≤ kf ∧ Def G k' nm n spec) ∧ G.mg nm = some (clsV G.K nm)
def dCallV (FT : FTab) (i : Nat) (ta : DTA) : DT := fun Ex env Q => match env[i]? with
  | some (.ext (.glo nm)) => ∃ n spec, FT nm = some (n, spec) ∧ dCall spec ta Ex env Q
  | _ => False
def tCallV (K : PySem.W.Frag) (FT : FTab) (W : WX) (i : Nat) (t : TA) : TE := fun σ H Q => ∃ nm n spec, σ[i]? = some (some (.ref (He.ga K nm))) ∧ FT nm = some (n, spec) ∧ tCallS (toSp K n spec) (WE W) t σ H Q
section
variable {G : GG} {N : List Str} {sc : SC} {k kf : Nat} {x : Str} {FT : FTab} {e : Expr} {es : List Expr} {p pos : Pos}
theorem de_glo {x : Str} {pos : Pos} (hm : G.mg x = some (clsV G.K x)) (hg : GlS sc x := by rfl) (hd : (x == ("__debug__" : Str)) = false := by decide) : DE G N sc k (.Name x pos) (dC (.glo x)) :=
  ⟨fun _ => ⟨tC (.ref (He.ga G.K x)), fun X S => pe_glob (S.gl hg) (by rw [S.mg]; exact hm) rfl hd, im_const fun _ => rfl⟩⟩
theorem de_callV {ta : DTA} (i : Nat) (d : Defs G kf FT) (ha : DAs G N sc k (e :: es) ta) (hk : kf ≤ k := by decide) (hN : N[i]? = some x := by rfl)
    (hv : Vis sc.sc x := by first | exact Or.inl rfl | exact Or.inr (Or.inl rfl) | exact Or.inr (Or.inr rfl)) (hdb : (x == ("__debug__" : Str)) = false := by decide) (hcd : (x == ("__classdict__" : Str)) = false := by decide)
    (he : NoStar e es := by intro _; rfl) (hpl : ∀ env, (backTo pos (starEach es env)).any (·.1) = false := by intro _; rfl) :
    DE G N sc k (.Call (.Name x p) (e :: es) [] pos) (dCallV FT i ta) := ⟨fun W => by
  obtain ⟨te, p1, i1⟩ := ha.ex W
  refine ⟨tCallV G.K FT W i te, fun X S => ?_, fun e Ex hl env T F σ H Q R hh ht hR => ?_⟩
  · refine ⟨fun pins s σ H Q I h => ?_⟩
    obtain ⟨nm, n, spec, hs, hf, ht⟩ := h
    obtain ⟨⟨k', hk', dd⟩, hm⟩ := d.all nm n spec hf
    obtain ⟨f, fd, ps, h1, h2, h3, h4⟩ := dd.ex
    have ef : f = He.ga G.K nm := by
      rw [hm] at h2
      cases h2
      rfl
    subst ef
    rw [← S.prog, ← S.w, ← S.K, ← S.mg, ← S.base] at h1
    rw [← S.K] at h3 h4
    have ev := (pe_var (pos := p) (by rw [S.nms]; exact hN) (S.vis hv) hdb hcd).run pins s σ H (fun v H1 => v = .ref (He.ga G.K nm) ∧ H1 = H) I ⟨_, hs, rfl, rfl⟩
    refine wpAny_Call_Name_kw (thn ev fun u s1 ⟨v, H1, I1, r1, q1⟩ => ?_)
    obtain ⟨rfl, rfl⟩ := q1
    cases r1
    rw [S.K] at h3
    refine PySem.W.callWith_K (h₀ := X.base) I1.ok.mod.kin (by rw [S.K]; exact h3) (thn ((p1 X S).run pos pins s1 σ _ _ I1 ht) fun us s2 ⟨vs, H2, I2, r, q⟩ => ⟨I2.kIn, ?_⟩) (he _) (hpl _)
    rw [S.K] at h1 h4
    have h1' : FnG X.prog X.w X.K X.mg X.base (L2.CX X.prog X.w) k' (He.ga G.K nm) fd ps (toSp G.K n spec) := by rw [S.K]; exact h1
    exact runG (E := WE W) h1' S.gd (S.room.mono (Nat.le_trans hk' hk)) (by rw [S.K]; exact h4) (passAt S.tk σ) I2 r q
  · unfold dCallV at ht
    split at ht
    · rename_i nm hi
      obtain ⟨n, spec, hf, ht⟩ := ht
      rcases hh.slots i _ hi with z | ⟨v, hv, ok⟩
      · cases z
      · have ev : v = .ref (He.ga G.K nm) := ok
        subst ev
        exact ⟨nm, n, spec, hv, hf, im_call i1 (let ⟨_, _, dd⟩ := (d.all nm n spec hf).1; dd.len) e Ex hl env T F σ H Q R hh ht hR⟩
    · exact ht.elim⟩
end
end HD
namespace HD
open PySem L2
def isxB (K : PySem.W.Frag) (x : Str) : Bool :=
  decide (PySem.W.findIn K (clsV K x) "__getattribute__" = some (some (.builtin "BaseException.__getattribute__"))) && (decide (PySem.W.findIn K (clsV K x) "__getattr__" = some none) && (decide (PySem.W.subIn K (clsV K x) (.type "BaseException") = some true) &&
    (PySem.W.hasDictIn K (He.ga K x) && (decide (PySem.W.findIn K (clsV K x) "__class__" = some (some (.builtin "object.__class__"))) && (decide (PySem.W.specialIn K (.builtin "object.__class__") "__get__" = some (some (.builtin "getset_descriptor.__get__"))) &&
      (decide (PySem.W.takesIn K (.builtin "object.__class__") = some true) && decide (PySem.W.mroIn K (He.ga K x) (.type "object") = some true)))))))
theorem isx_kit {K : PySem.W.Frag} {x : Str} {a : Addr} {oe : Obj} (h : isxB K x = true) : PySem.W.KitX K (.ref a) (clsV K x) (fun g => PySem.W.InstAt g a oe (He.ga K x) none) := by
  unfold isxB at h
  simp only [Bool.and_eq_true, decide_eq_true_eq] at h
  obtain ⟨h1, h2, h3, h4, h5, h6, h7, h8⟩ := h
  exact PySem.W.handS_kitx_exc h1 h2 h3 h4 h5 h6 h7 h8
abbrev XTab := Str → D → Option Bool
def D.clsVal (K : PySem.W.Frag) : D → Option Value
  | .glo x => some (clsV K x)
  | .val (.ty T) => some (.type T)
  | _ => none
structure XIs (K : PySem.W.Frag) (tab : XTab) : Prop where
  all : ∀ c d b, tab c d = some b → isxB K c = true ∧ ∃ u, D.clsVal K d = some u ∧ PySem.W.kitOne K (clsV K c) u = some b
def fIsX (tab : XTab) : List D → (Sl → Prop) → Prop
  | [.exc c, d], Q => ∃ b, tab c d = some b ∧ Q (.ext (.bl b))
  | _, _ => False
def rIsX (K : PySem.W.Frag) : List V → Hp → VK → Prop := fun xs H Q => ∃ (a : Addr) (oe : Obj) (x : Str) (v : V) (u : Value) (b : Bool), xs = [.ref a, v] ∧ H a = some (.frz oe (.own a)) ∧ oe.cls = clsV K x ∧ oe.dict = none ∧ (∃ vs, oe.data = .fields vs) ∧
  isxB K x = true ∧ (∀ w, RelV v w → w = u) ∧ PySem.W.kitOne K (clsV K x) u = some b ∧ Q (.bl b) H
theorem call_isX {X : Cx} : CallR X (.builtin "isinstance") (rIsX X.K) := by
  intro pins s σ H xs us Q I r h
  obtain ⟨a, oe, x, v, u, b, rfl, hH, hc, hd, ⟨vs, hf⟩, hx, hv, e, q⟩ := h
  obtain ⟨u1, u2, rfl, r1, r2⟩ := vals2 r
  cases (show u1 = Value.ref a from r1)
  have e2 := hv _ r2
  subst e2
  have ho := (I.hok a _ hH).1
  have ia : PySem.W.InstAt s.heap a oe (He.ga X.K x) none := ⟨ho, hc, by unfold PySem.W.notCls; rw [hf], by rw [hd]; trivial⟩
  exact PySem.W.kia_one (isx_kit hx) I.kIn ia e (by intro z; cases z) fun tk => ⟨.bl b, H, I.tok tk, rfl, q⟩
theorem pr_isX {K : PySem.W.Frag} {tab : XTab} (T : XIs K tab) : Pr K (rIsX K) (fIsX tab) := fun F H vs ds Q R fh h hf ha => by
  rcases ds with _ | ⟨d1, _ | ⟨d, _ | ⟨d3, ds⟩⟩⟩ <;> try exact hf.elim
  · cases d1 <;> exact hf.elim
  · cases d1 <;> try exact hf.elim
    rename_i c
    obtain ⟨b, hb, q⟩ := hf
    obtain ⟨h1, u, h2, h3⟩ := T.all c d b hb
    obtain ⟨v1, r1, rfl, g1, v2, r2, rfl, g2, rfl⟩ := h
    have g1' : Rep K F (.exc c) v1 := by
      rcases g1 with z | ⟨_, _, _, z, _⟩
      · exact z
      · cases z
    obtain ⟨a, oe, rfl, x1, x2, x3, x4⟩ := g1'
    refine ⟨a, oe, c, v2, u, b, rfl, fh _ _ x1, x2, x3, x4, h1, fun w hw => ?_, h3, ha.bl fh q⟩
    rcases g2 with z | ⟨_, _, _, z, _⟩
    · cases d with
      | glo y =>
        have e1 : v2 = .ref (He.ga K y) := z
        subst e1
        have e2 : w = .ref (He.ga K y) := hw
        cases h2
        exact e2
      | val y =>
        have e1 : v2 = y := z
        subst e1
        cases v2 with
        | ty T =>
          cases h2
          exact hw
        | _ => cases h2
      | _ => cases h2
    · subst z
      cases h2
  · cases d1 <;> exact hf.elim
section
variable {G : GG} {N : List Str} {sc : SC} {k : Nat} {e : Expr} {es : List Expr} {t : DTA} {p pos : Pos} {tab : XTab}
theorem de_isX (T : XIs G.K tab) (hm : G.mg "isinstance" = none) (ha : DAs G N sc k (e :: es) t) (hg : GlS sc "isinstance" := by rfl)
    (he : NoStar e es := by intro _; rfl) (hpl : ∀ env, (backTo pos (starEach es env)).any (·.1) = false := by intro _; rfl) : DE G N sc k (.Call (.Name "isinstance" p) (e :: es) [] pos) (dCB (fIsX tab) t) := ⟨fun W => by
  obtain ⟨ta, p1, i1⟩ := ha.ex W
  refine ⟨tCB (rIsX G.K) ta, fun X S => ?_, im_cb (pr_isX T) i1⟩
  have c : CallR X (.builtin "isinstance") (rIsX X.K) := call_isX
  rw [S.K] at c
  exact pe_callB c (S.gl hg) (by rw [S.mg]; exact hm) (by decide +kernel) (p1 X S) (by decide) (by decide) (he _) (hpl _)⟩
end
end HD
namespace HD
open PySem PyProof.Rows L2
section
variable {X : Cx}
def rCntV (K : PySem.W.Frag) : V → List V → Hp → VK → Prop := fun x xs H Q => ∃ (a : Addr) (ys : List V) (y : V), x = V.ref a ∧ xs = [y] ∧ SqL K H a ys ∧ flatV y = true ∧ ys.all flatV = true ∧ Q (.int ((ys.countP fun z => eqV z y : Nat) : Int)) H
theorem mt_countF : MtR X "list.count" (rCntV X.K) := by
  intro pins s σ H x xs v us Q I rx rs h
  obtain ⟨p, ys, y, rfl, rfl, hs, fy, fys, q⟩ := h
  cases rx
  obtain ⟨u, rfl, ru⟩ := vals1 rs
  obtain ⟨its, r, ⟨⟨cls, dd, data, sl⟩, n, ho, hc, hdn, hd⟩, hlen⟩ := I.list hs
  simp only at hc hd
  subst hc hd
  have ec : ∀ {zs : List V} {ws : List Value}, Vals zs ws → zs.all flatV = true → ws.countP (eqU y) = zs.countP fun z => eqV z y := by
    intro zs ws rv
    induction rv with
    | nil => intro _; rfl
    | cons r1 rr ih =>
      intro hf
      rw [List.all_cons, Bool.and_eq_true] at hf
      rw [List.countP_cons, List.countP_cons, ih hf.2, eqU_of r1 hf.1]
  refine call_meets PySem.F.slot_list_count ⟨_, ho, rfl⟩ PySem.F.entry_list_count (PySem.F.args_list_count_2 _ _)
    (SeqAt.list_countAt p its.toArray n dd sl u (eqU y)) ⟨ho, fun w hw => mem_eqAt ru fy r fys w (by simpa using hw), ?_⟩
  refine ⟨.int ((ys.countP fun z => eqV z y : Nat) : Int), H, I.tok _, ⟨s.toks, ?_⟩, q⟩
  show Value.int ((its.toArray.toList.countP (eqU y) : Nat) : Int) s.toks = _
  rw [show its.toArray.toList = its from rfl, ec r fys]
end
def dMeth (T : D → Bool) (f : D → D → (Sl → Prop) → Prop) (to ta : DT) : DT := fun Ex env Q => to Ex env fun x env1 => wd env1 x (fun d => T d = true) ∧ ta Ex env1 fun y env2 => wd env2 x fun d => wd env2 y fun d' => f d d' fun sl => Q sl env2
def TyIs (K : PySem.W.Frag) (tn : String) (T : D → Bool) : Prop := ∀ F H d v, Same F H → RepT K F H d v → T d = true → tyV K tn v H
def D.isLst : D → Bool
  | .lst _ => true
  | _ => false
def D.isStr : D → Bool
  | .str _ => true
  | _ => false
theorem ty_lst {K : PySem.W.Frag} : TyIs K "list" D.isLst := fun F H d v fh r h => by
  cases d with
  | lst ds =>
    obtain ⟨a, vs, rfl, hs, _⟩ := r.lst fh
    exact .inl ⟨rfl, vs, SqL.of hs⟩
  | _ => exact absurd h (by simp [D.isLst])
theorem ty_str {K : PySem.W.Frag} : TyIs K "str" D.isStr := fun F H d v fh r h => by
  cases d with
  | str x => rw [r.str]; rfl
  | _ => exact absurd h (by simp [D.isStr])
section
variable {G : GG} {N : List Str} {sc : SC} {k : Nat} {a b : Expr} {ta tb : DT} {name : Str} {apos cpos : Pos} {tn id : String} {T : D → Bool} {r : PySem.W.Frag → V → List V → Hp → VK → Prop} {f : D → D → (Sl → Prop) → Prop}
theorem de_meth (pa : PlainAttrs tn) (slot : Slot tn name id) (hty : typeOf (.builtin id) = pure (.type "method_descriptor")) (hm : ∀ X : Cx, MtR X id (r X.K)) (hT : ∀ K, TyIs K tn T) (hr : ∀ K, Pr2 K (fun v u H R => r K v [u] H R) f) (ha : DE G N sc k a ta) (hb : DE G N sc k b tb)
    (hw : FewArgs a name b [] cpos := by intro _; exact ⟨rfl, rfl, rfl, rfl⟩) (hline : (apos.endLine == cpos.line) = true := by rfl) : DE G N sc k (.Call (.Attribute a name apos) [b] [] cpos) (dMeth T f ta tb) := ⟨fun W => by
  obtain ⟨te, p1, i1⟩ := ha.ex W
  obtain ⟨tf, p2, i2⟩ := hb.ex W
  refine ⟨tBM G.K tn (r G.K) te (tCons tf tNil), fun X S => ?_, fun e Ex hl env T' F σ H Q R hh ht hR => ?_⟩
  · obtain ⟨hbase, hfew, hs, hplain⟩ := hw X.env
    rw [← S.K]
    exact pe_bm pa slot hty (hm X) (p1 X S) (pa_cons (p2 X S) pa_nil hs) hbase hfew hline hs hplain
  · refine i1 e Ex hl env T' F σ H _ _ hh ht fun v H1 F1 env1 x hh1 q1 => ?_
    obtain ⟨q0, q1⟩ := q1
    obtain ⟨d0, rd0, h0⟩ := hh1.wd (v := v) (sl := x) List.mem_cons_self q0
    refine ⟨hT G.K F1 H1 d0 v hh1.fh rd0 h0, ?_⟩
    refine i2 e Ex hl env1 _ F1 σ H1 _ _ hh1 q1 fun u H2 F2 env2 y hh2 q2 => ?_
    obtain ⟨d, rd, q3⟩ := hh2.wd (v := v) (sl := x) (List.mem_cons_of_mem _ List.mem_cons_self) q2
    obtain ⟨d', rd', q4⟩ := hh2.wd (v := u) (sl := y) List.mem_cons_self q3
    exact hr G.K F2 H2 v u d d' _ R hh2.fh rd rd' q4 (hh2.pop.pop.done hR)⟩
end
def fCount (d d' : D) (Q : Sl → Prop) : Prop := match d with
  | .lst ds => d'.flat = true ∧ ds.all D.flat = true ∧ Q (.ext (.int ((ds.countP fun z => eqV z.toV d'.toV : Nat) : Int)))
  | _ => False
theorem pr_count (K : PySem.W.Frag) : Pr2 K (fun v u H R => rCntV K v [u] H R) fCount := fun F H v u d d' Q R fh r1 r2 h ha => by
  cases d <;> try exact h.elim
  rename_i ds
  obtain ⟨f1, f2, q⟩ := h
  obtain ⟨a, vs, rfl, hs, rr⟩ := r1.lst fh
  obtain ⟨x1, x2⟩ := flat_rep (r2.rep fh) f1
  obtain ⟨e1, e2⟩ := flat_reps rr f2
  refine ⟨a, vs, u, rfl, rfl, SqL.of hs, x2, e2, ?_⟩
  rw [x1, e1, List.countP_map]
  exact ha.int fh q
def fSplit (d d' : D) (Q : Sl → Prop) : Prop := match d, d' with
  | .str a, .str b => (b.length == 0) = false ∧ a.length + 2 ≤ sizeLine ∧ ∀ p, Q (.lst p ((Txt.split a b).map D.str))
  | _, _ => False
theorem Reps.of_strs {K : PySem.W.Frag} {F : Hp} : ∀ (ns : List Str), Reps K F (ns.map D.str) (ns.map V.str)
  | [] => rfl
  | n :: ns => ⟨_, _, rfl, rfl, Reps.of_strs ns⟩
theorem pr_split (K : PySem.W.Frag) : Pr2 K (fun v u H Q => ∃ a b, v = .str a ∧ [u] = [.str b] ∧ (b.length == 0) = false ∧ a.length + 2 ≤ sizeLine ∧ rNewStrs (Txt.split a b) H Q) fSplit := fun F H v u d d' Q R fh r1 r2 h ha => by
  cases d <;> try exact h.elim
  cases d' <;> try exact h.elim
  rename_i a b
  obtain ⟨f1, f2, q⟩ := h
  refine ⟨a, b, r1.str, by rw [r2.str], f1, f2, fun p hp => ?_⟩
  exact ha.lst fh hp (Reps.of_strs _) (q p)
section
variable {G : GG} {N : List Str} {sc : SC} {k : Nat} {a b : Expr} {ta tb : DT} {apos cpos : Pos}
theorem de_count (ha : DE G N sc k a ta) (hb : DE G N sc k b tb) (hw : FewArgs a "count" b [] cpos := by intro _; exact ⟨rfl, rfl, rfl, rfl⟩) (hline : (apos.endLine == cpos.line) = true := by rfl) : DE G N sc k (.Call (.Attribute a "count" apos) [b] [] cpos) (dMeth D.isLst fCount ta tb) :=
  de_meth (r := rCntV) PySem.F.plainAttrs_list PySem.F.slot_list_count PySem.F.type_list_count (fun _ => mt_countF) (fun _ => ty_lst) pr_count ha hb hw hline
theorem de_split (ha : DE G N sc k a ta) (hb : DE G N sc k b tb) (hw : FewArgs a "split" b [] cpos := by intro _; exact ⟨rfl, rfl, rfl, rfl⟩) (hline : (apos.endLine == cpos.line) = true := by rfl) : DE G N sc k (.Call (.Attribute a "split" apos) [b] [] cpos) (dMeth D.isStr fSplit ta tb) :=
  de_meth (r := fun _ => fun x xs H Q => ∃ a b, x = .str a ∧ xs = [.str b] ∧ (b.length == 0) = false ∧ a.length + 2 ≤ sizeLine ∧ rNewStrs (Txt.split a b) H Q) PySem.F.plainAttrs_str PySem.F.slot_str_split PySem.F.type_str_split (fun _ => mt_split) (fun _ => ty_str) pr_split ha hb hw hline
end
def xAll : List Str := ["NoFilling", "NoName", "TooMany", "NoDeeds", "NoOffers", "NoTree", "NoBag", "NoPart", "NoWorths", "NoBack", "NoWeights", "NoNumber", "NoRow", "NoText"]
def xtab (cs : List Str) : XTab := fun c d => if c ∈ cs then (match d with
  | .glo x => if x ∈ xAll then some (decide (x = c)) else none
  | .val (.ty T) => if T = "ValueError" then some true else none
  | _ => none) else none
def xsB (cs : List Str) (K : PySem.W.Frag) : Bool := cs.all fun c => isxB K c && ((xAll.all fun x => decide (PySem.W.kitOne K (clsV K c) (clsV K x) = some (decide (x = c)))) && (decide (PySem.W.kitOne K (clsV K c) (.type "ValueError") = some true) && decide (PySem.W.exmOne K (clsV K c) (clsV K "SumError") = some true)))
theorem xis_of {cs : List Str} {K : PySem.W.Frag} (h : xsB cs K = true) : XIs K (xtab cs) := ⟨fun c d b e => by
  unfold xtab at e
  split at e
  · rename_i hc
    have h := List.all_eq_true.1 h c hc
    simp only [Bool.and_eq_true, decide_eq_true_eq, List.all_eq_true] at h
    obtain ⟨h1, h2, h3, h4⟩ := h
    refine ⟨h1, ?_⟩
    split at e
    · rename_i x
      split at e
      · rename_i hx
        cases e
        exact ⟨_, rfl, h2 x hx⟩
      · cases e
    · rename_i T
      split at e
      · rename_i hT
        cases e
        subst hT
        exact ⟨_, rfl, h3⟩
      · cases e
    · cases e
  · cases e⟩
theorem xcat_of {cs : List Str} {G : GG} (h : xsB cs G.K = true) (hm : G.mg "SumError" = some (clsV G.K "SumError")) : XCat G "SumError" cs := ⟨hm, fun c hc => by
  have h := List.all_eq_true.1 h c hc
  simp only [Bool.and_eq_true, decide_eq_true_eq, List.all_eq_true] at h
  exact h.2.2.2⟩
def hookE (n : Nat) (fa : List He.Fa) (fn : List He.DefD) (ex : PySem.W.Frag → Bool) : PySem.W.Hook where
  α := He.AlD × Bool
  obs := fun s => (He.obsDG n fa fn s.heap.get?, ex (He.frG s.heap.get? (He.asD s.heap.get? n)))
  val := fun _ => (He.valD fn, true)
  says := fun _ h => ∃ K : PySem.W.Frag, K.In h ∧ He.SaysD fa fn K ∧ ex K = true
  of := fun _ _ e => ⟨_, He.frG_in, congrArg (fun z : He.AlD × Bool => z.1) e, congrArg (fun z : He.AlD × Bool => z.2) e⟩
  keeps := fun _ _ _ ⟨K, hK, c⟩ k => ⟨K, PySem.W.Frag.In.keeps hK k, c⟩
def obsE (n : Nat) (fa : List He.Fa) (fn : List He.DefD) (ex : PySem.W.Frag → Bool) (g : Addr → Option Obj) : He.AlD × Bool := (He.obsDG n fa fn g, ex (He.frG g (He.asD g n)))
theorem obsE_eq {n : Nat} {fa : List He.Fa} {fn : List He.DefD} {ex : PySem.W.Frag → Bool} {g : Addr → Option Obj} {s : Shared} (h : ∀ a, g a = s.heap.get? a) : obsE n fa fn ex g = (hookE n fa fn ex).obs s := by
  have e : g = s.heap.get? := funext h
  rw [e] <;> rfl
end HD
namespace LS.FL.K43.K43.E
open PySem L2 HD
def topS (i : Nat) : Stmt := PySem.Challenge.pw_sumorder_k43_least_rooms.main.body.getD i (.Pass ⟨0, 0, 0, 0⟩)
abbrev s_is_whole : Stmt := topS 1
abbrev s_product : Stmt := topS 2
abbrev s_ties_of : Stmt := topS 26
abbrev s_bag_by : Stmt := topS 27
abbrev s_need_few : Stmt := topS 33
abbrev s_all_sets : Stmt := topS 34
abbrev s_law_jar : Stmt := topS 40
abbrev s_law_prime : Stmt := topS 41
abbrev s_law_times : Stmt := topS 44
abbrev s_law_tied : Stmt := topS 52
abbrev s_law_bag : Stmt := topS 53
abbrev s_law_class : Stmt := topS 56
abbrev s_law_sets : Stmt := topS 58
abbrev s_are_names : Stmt := topS 20
abbrev s_is_order : Stmt := topS 22
abbrev s_room_by : Stmt := topS 29
abbrev s_law_dip : Stmt := topS 42
abbrev s_law_least : Stmt := topS 59
abbrev s_law_shown : Stmt := topS 60
abbrev s_need_order : Stmt := topS 23
abbrev s_least_room : Stmt := topS 35
abbrev s_holds : Stmt := topS 36
abbrev s_is_floor : Stmt := topS 37
abbrev s_law_some : Stmt := topS 49
abbrev s_need_all : Stmt := topS 24
abbrev s_bags_of : Stmt := topS 28
abbrev s_are_floors : Stmt := topS 38
abbrev s_law_web : Stmt := topS 54
abbrev s_room_of : Stmt := topS 30
abbrev s_law_call : Stmt := topS 55
abbrev s_law_refused : Stmt := topS 57
abbrev s_law : Stmt := topS 61
def y_is_whole : He.DefD := ⟨("is_whole", none), "is_whole", "is_whole", defArgs s_is_whole, defBody s_is_whole, defScope s_is_whole, [], []⟩
def y_product : He.DefD := ⟨("product", none), "product", "product", defArgs s_product, defBody s_product, defScope s_product, [], []⟩
def y_ties_of : He.DefD := ⟨("ties_of", none), "ties_of", "ties_of", defArgs s_ties_of, defBody s_ties_of, defScope s_ties_of, [], []⟩
def y_bag_by : He.DefD := ⟨("bag_by", none), "bag_by", "bag_by", defArgs s_bag_by, defBody s_bag_by, defScope s_bag_by, [], []⟩
def y_need_few : He.DefD := ⟨("need_few", none), "need_few", "need_few", defArgs s_need_few, defBody s_need_few, defScope s_need_few, [], []⟩
def y_all_sets : He.DefD := ⟨("all_sets", none), "all_sets", "all_sets", defArgs s_all_sets, defBody s_all_sets, defScope s_all_sets, [], []⟩
def y_law_jar : He.DefD := ⟨("_law_jar", none), "_law_jar", "_law_jar", defArgs s_law_jar, defBody s_law_jar, defScope s_law_jar, [], []⟩
def y_law_prime : He.DefD := ⟨("_law_prime", none), "_law_prime", "_law_prime", defArgs s_law_prime, defBody s_law_prime, defScope s_law_prime, [], []⟩
def y_law_times : He.DefD := ⟨("_law_times", none), "_law_times", "_law_times", defArgs s_law_times, defBody s_law_times, defScope s_law_times, [], []⟩
def y_law_tied : He.DefD := ⟨("_law_tied", none), "_law_tied", "_law_tied", defArgs s_law_tied, defBody s_law_tied, defScope s_law_tied, [], []⟩
def y_law_bag : He.DefD := ⟨("_law_bag", none), "_law_bag", "_law_bag", defArgs s_law_bag, defBody s_law_bag, defScope s_law_bag, [], []⟩
def y_law_class : He.DefD := ⟨("_law_class", none), "_law_class", "_law_class", defArgs s_law_class, defBody s_law_class, defScope s_law_class, [], []⟩
def y_law_sets : He.DefD := ⟨("_law_sets", none), "_law_sets", "_law_sets", defArgs s_law_sets, defBody s_law_sets, defScope s_law_sets, [], []⟩
def y_are_names : He.DefD := ⟨("are_names", none), "are_names", "are_names", defArgs s_are_names, defBody s_are_names, defScope s_are_names, [], []⟩
def y_is_order : He.DefD := ⟨("is_order", none), "is_order", "is_order", defArgs s_is_order, defBody s_is_order, defScope s_is_order, [], []⟩
def y_room_by : He.DefD := ⟨("room_by", none), "room_by", "room_by", defArgs s_room_by, defBody s_room_by, defScope s_room_by, [], []⟩
def y_law_dip : He.DefD := ⟨("_law_dip", none), "_law_dip", "_law_dip", defArgs s_law_dip, defBody s_law_dip, defScope s_law_dip, [], []⟩
def y_law_least : He.DefD := ⟨("_law_least", none), "_law_least", "_law_least", defArgs s_law_least, defBody s_law_least, defScope s_law_least, [], []⟩
def y_law_shown : He.DefD := ⟨("_law_shown", none), "_law_shown", "_law_shown", defArgs s_law_shown, defBody s_law_shown, defScope s_law_shown, [], []⟩
def y_need_order : He.DefD := ⟨("need_order", none), "need_order", "need_order", defArgs s_need_order, defBody s_need_order, defScope s_need_order, [], []⟩
def y_least_room : He.DefD := ⟨("least_room", none), "least_room", "least_room", defArgs s_least_room, defBody s_least_room, defScope s_least_room, [], []⟩
def y_holds : He.DefD := ⟨("holds", none), "holds", "holds", defArgs s_holds, defBody s_holds, defScope s_holds, [], []⟩
def y_is_floor : He.DefD := ⟨("is_floor", none), "is_floor", "is_floor", defArgs s_is_floor, defBody s_is_floor, defScope s_is_floor, [], []⟩
def y_law_some : He.DefD := ⟨("_law_some", none), "_law_some", "_law_some", defArgs s_law_some, defBody s_law_some, defScope s_law_some, [], []⟩
def y_need_all : He.DefD := ⟨("need_all", none), "need_all", "need_all", defArgs s_need_all, defBody s_need_all, defScope s_need_all, [], []⟩
def y_bags_of : He.DefD := ⟨("bags_of", none), "bags_of", "bags_of", defArgs s_bags_of, defBody s_bags_of, defScope s_bags_of, [], []⟩
def y_are_floors : He.DefD := ⟨("are_floors", none), "are_floors", "are_floors", defArgs s_are_floors, defBody s_are_floors, defScope s_are_floors, [], []⟩
def y_law_web : He.DefD := ⟨("_law_web", none), "_law_web", "_law_web", defArgs s_law_web, defBody s_law_web, defScope s_law_web, [], []⟩
def y_room_of : He.DefD := ⟨("room_of", none), "room_of", "room_of", defArgs s_room_of, defBody s_room_of, defScope s_room_of, [], []⟩
def y_law_call : He.DefD := ⟨("_law_call", none), "_law_call", "_law_call", defArgs s_law_call, defBody s_law_call, defScope s_law_call, [], []⟩
def y_law_refused : He.DefD := ⟨("_law_refused", none), "_law_refused", "_law_refused", defArgs s_law_refused, defBody s_law_refused, defScope s_law_refused, [], []⟩
def y_law : He.DefD := ⟨("law", none), "law", "law", defArgs s_law, defBody s_law, defScope s_law, [], []⟩
def fn0 : List He.DefD := [y_is_whole, y_product, y_ties_of, y_bag_by, y_need_few, y_all_sets, y_law_jar, y_law_prime, y_law_times, y_law_tied, y_law_bag, y_law_class, y_law_sets, y_are_names, y_is_order, y_room_by, y_law_dip, y_law_least, y_law_shown, y_need_order, y_least_room, y_holds, y_is_floor, y_law_some, y_need_all, y_bags_of, y_are_floors, y_law_web, y_room_of, y_law_call]
def fn1 : List He.DefD := [y_law_refused, y_law]
def fn : List He.DefD := fn0 ++ fn1
def fa0 : List He.Fa := [.glo "is_whole", .glo "product", .glo "ties_of", .glo "bag_by", .glo "need_few", .glo "all_sets", .glo "_law_jar", .glo "_law_prime", .glo "_law_times", .glo "_law_tied", .glo "_law_bag", .glo "_law_class", .glo "_law_sets", .glo "are_names", .glo "is_order", .glo "room_by", .glo "_law_dip", .glo "_law_least", .glo "_law_shown", .glo "need_order", .glo "least_room", .glo "holds", .glo "is_floor", .glo "_law_some", .glo "need_all", .glo "bags_of", .glo "are_floors", .glo "_law_web", .glo "room_of", .glo "_law_call"]
def fa1 : List He.Fa := [.glo "_law_refused", .glo "law", .free "len", .free "range", .free "sorted", .free "set", .free "tuple", .free "list", .free "dict", .free "zip", .free "enumerate", .free "all", .free "any", .free "sum", .free "min", .free "max", .free "isinstance", .free "str", .free "int", .free "repr", .free "bool", .glo "NoName", .exc "NoName", .glo "TooMany", .exc "TooMany", .glo "NoBack", .glo "NoBag", .glo "NoDeeds", .glo "NoFilling", .glo "NoName"]
def fa2 : List He.Fa := [.glo "NoNumber", .glo "NoOffers", .glo "NoPart", .glo "NoRow", .glo "NoText", .glo "NoTree", .glo "NoWeights", .glo "NoWorths", .glo "SumError", .glo "TooMany", .free "ValueError", .int "MOST_SHOWN" 8]
def fa : List He.Fa := fa0 ++ fa1 ++ fa2
def nm0 : List PySem.Str := ["is_whole", "product", "SumError", "NoFilling", "NoName", "TooMany", "NoDeeds", "NoOffers", "NoTree", "NoBag", "NoPart", "NoWorths", "NoBack", "NoWeights", "NoNumber", "NoRow", "NoText", "are_names", "is_order", "need_order", "need_all", "ties_of", "bag_by", "bags_of", "room_by", "room_of", "MOST_SHOWN", "need_few", "all_sets", "least_room"]
def nm1 : List PySem.Str := ["holds", "is_floor", "are_floors", "_law_jar", "_law_prime", "_law_dip", "_law_fillings", "_law_times", "_law_look", "_law_word", "_law_number", "_law_sizes", "_law_some", "_law_part", "_law_sheet", "_law_tied", "_law_bag", "_law_web", "_law_call", "_law_class", "_law_refused", "_law_sets", "_law_least", "_law_shown"]
def nm : List PySem.Str := nm0 ++ nm1
abbrev R : PySem.W.OpenRow := PySem.W.OpenLaw.row PySem.Challenge.rw_sumorder_k43_least_rooms
def ex : PySem.W.Frag → Bool := xsB ["TooMany"]
abbrev hk : PySem.W.Hook := hookE 4 fa fn ex
def ob (s : PySem.W.SharedT) : He.AlD × Bool := obsE 4 fa fn ex (HandSHeadRun.getT s)
theorem obE (s : PySem.W.SharedT) : ob s = hk.obs s.abs := obsE_eq (HandSHeadRun.getT_eq s)
theorem topRun (w : World) : HandSHeadRun.RunEq R (PySem.W.view R.prog [61]) hk ob 8000 nm w := by
  intro os; kernel_rfl
end LS.FL.K43.K43.E
namespace HD
open PySem L2
section
variable {g : DTG} {tt : DTT} {te : DT} {vs : List Nat} {keep : Env' → Prop} {Q : Sl → Env' → Prop} {env : Env'} {α : Type}
theorem fm_if {α β : Type} (f : α → β) (p : α → Bool) (xs : List α) : xs.filterMap (fun x => if p x = true then some (f x) else none) = (xs.filter p).map f := by
  induction xs with
  | nil => rfl
  | cons y xs ih =>
    by_cases hy : p y = true
    · rw [List.filterMap_cons_some (b := f y) (by rw [if_pos hy]), List.filter_cons_of_pos hy, List.map_cons, ih]
    · rw [List.filterMap_cons_none (by rw [if_neg hy]), List.filter_cons_of_neg hy, ih]
theorem lc_fm (i : α → D) (f : α → Option D) (hk : keep env) (xs : List α) : ∀ acc : List D, acc.length + xs.length ≤ sizeLine →
    (∀ x ∈ xs, ∀ R : Option D → Env' → Prop, R (f x) env → g (i x) env fun env1 => tt noX env1 fun b env2 => if b = true then te noX env2 fun y env3 => frzD env3 y fun d' env4 => R (some d') (wipeE env4 vs) else R none (wipeE env2 vs)) →
    (∀ a, Q (.lst a (acc ++ xs.filterMap f)) env) → lcD g tt te vs keep Q (xs.map i) acc env := by
  induction xs with
  | nil => intro acc _ _ hQ; exact ⟨hk, fun a => by simpa using hQ a⟩
  | cons x xs ih =>
    intro acc hl h hQ
    rw [List.length_cons] at hl
    rw [List.map_cons, lcD]
    refine ⟨hk, by omega, h x List.mem_cons_self (fun o env' => match o with
      | some d' => lcD g tt te vs keep Q (xs.map i) (acc ++ [d']) env'
      | none => lcD g tt te vs keep Q (xs.map i) acc env') ?_⟩
    cases e : f x with
    | none =>
      refine ih acc (by omega) (fun y hy => h y (List.mem_cons_of_mem _ hy)) fun a => ?_
      have := hQ a
      rw [List.filterMap_cons_none e] at this
      exact this
    | some d =>
      refine ih (acc ++ [d]) (by rw [List.length_append, List.length_singleton]; omega) (fun y hy => h y (List.mem_cons_of_mem _ hy)) fun a => ?_
      have := hQ a
      rw [List.filterMap_cons_some e] at this
      rw [List.append_assoc]
      exact this
theorem lc_map (i f : α → D) (hk : keep env) (xs : List α) (hl : xs.length ≤ sizeLine)
    (h : ∀ x ∈ xs, ∀ R : D → Env' → Prop, R (f x) env → g (i x) env fun env1 => te noX env1 fun y env3 => frzD env3 y fun d' env4 => R d' (wipeE env4 vs))
    (hQ : ∀ a, Q (.lst a (xs.map f)) env) : lcD g dYes te vs keep Q (xs.map i) [] env := by
  refine lc_fm i (fun x => some (f x)) hk xs [] (by simpa using hl) (fun x hx R hR => ?_) (fun a => by simpa [List.filterMap_eq_map] using hQ a)
  have := h x hx (fun d e => R (some d) e) hR
  simp only [dYes, if_true]
  exact this
theorem lc_filter (i f : α → D) (p : α → Bool) (hk : keep env) (xs : List α) (hl : xs.length ≤ sizeLine)
    (h : ∀ x ∈ xs, ∀ R : Option D → Env' → Prop, R (if p x = true then some (f x) else none) env → g (i x) env fun env1 => tt noX env1 fun b env2 => if b = true then te noX env2 fun y env3 => frzD env3 y fun d' env4 => R (some d') (wipeE env4 vs) else R none (wipeE env2 vs))
    (hQ : ∀ a, Q (.lst a ((xs.filter p).map f)) env) : lcD g tt te vs keep Q (xs.map i) [] env := by
  refine lc_fm i (fun x => if p x = true then some (f x) else none) hk xs [] (by simpa using hl) h (fun a => ?_)
  have e := fm_if f p xs
  rw [List.nil_append, e]
  exact hQ a
theorem lc_ind (i : α → D) (P : List α → List D → Env' → Prop) (hnil : ∀ acc env, P [] acc env → keep env ∧ ∀ a, Q (.lst a acc) env)
    (hcons : ∀ x xs acc env (N : List D → Env' → Prop), P (x :: xs) acc env → (∀ acc' env', P xs acc' env' → N acc' env') → keep env ∧ acc.length < sizeLine ∧ g (i x) env fun env1 => tt noX env1 fun b env2 => if b = true then te noX env2 fun y env3 => frzD env3 y fun d' env4 => N (acc ++ [d']) (wipeE env4 vs) else N acc (wipeE env2 vs)) :
    ∀ (xs : List α) (acc : List D) (env : Env'), P xs acc env → lcD g tt te vs keep Q (xs.map i) acc env := by
  intro xs
  induction xs with
  | nil => intro acc env h; exact hnil acc env h
  | cons x xs ih =>
    intro acc env h
    rw [List.map_cons, lcD]
    exact hcons x xs acc env (fun acc' env' => lcD g tt te vs keep Q (xs.map i) acc' env') h fun acc' env' h' => ih acc' env' h'
end
section
variable {g : DTG} {body : DTS} {keep : Env' → Prop} {Ex : DX} {E : DEnds} {α : Type}
theorem for_ind (i : α → D) (P : List α → Env' → Prop) (hnil : ∀ env, P [] env → keep env ∧ E.nx env)
    (hcons : ∀ x xs env (N : Env' → Prop), P (x :: xs) env → (∀ env', P xs env' → N env') → keep env ∧ g (i x) env fun env1 => body Ex { E with nx := N, ct := N, bk := E.nx } env1) :
    ∀ (xs : List α) (env : Env'), P xs env → forD g body keep Ex E (xs.map i) env := by
  intro xs
  induction xs with
  | nil => intro env h; exact hnil env h
  | cons x xs ih =>
    intro env h
    rw [List.map_cons, forD]
    exact hcons x xs env _ h fun env' h' => ih env' h'
end
theorem dCallV_w (FT : FTab) (i : Nat) (ta : DTA) (Ex : DX) (env : Env') (Q : Sl → Env' → Prop) : dCallV FT i ta Ex env Q = AtS env[i]? (fun d => match d with | .glo nm => ∃ n spec, FT nm = some (n, spec) ∧ dCall spec ta Ex env Q | _ => False) (fun _ _ => False) .mk .mk := by
  unfold dCallV AtS
  rcases env[i]? with _ | (_ | d | _ | _ | _) <;> try rfl
  cases d <;> rfl
end HD
namespace HD
open PySem PySem.Spec PyProof.Rows L2
section
variable {G : GG} {N : List Str} {sc : SC} {k : Nat} {a : Expr} {ta : DT} {p p2 pos pos2 : Pos}
def dSortSetL (t : DT) : DT := fun Ex env Q => t Ex env fun x env1 => wd env1 x fun d => match d with
  | .lst ds => ∃ ns : List Int, ds = ns.map D.int ∧ ns.length < 64 ∧ ∀ (ns' : List Int) (b : Addr), ns'.Pairwise (· < ·) → (∀ n : Int, n ∈ ns' ↔ n ∈ ns) → Q (.lst b (ns'.map D.int)) env1
  | _ => False
theorem de_gint {x : Str} {i : Int} {pos : Pos} (h : ∃ t, G.mg x = some (.int i t)) (hg : GlS sc x := by rfl) (hd : (x == ("__debug__" : Str)) = false := by decide) : DE G N sc k (.Name x pos) (dC (.int i)) := by
  obtain ⟨t, h⟩ := h
  exact de_glob (v := .int i) hg h ⟨t, rfl⟩ (fun _ => rfl) hd
end
def FzS (o : Option Sl) (k : List D → Prop) (z : Prop) (_ : Tok k) (_ : Tok z) : Prop := match o with
  | some (.lst _ ds) => k ds
  | _ => z
theorem FzS_lst (a : Addr) (ds : List D) (k : List D → Prop) (z : Prop) (t : Tok k) (u : Tok z) : FzS (some (.lst a ds)) k z t u = k ds := rfl
theorem FzS_ext (d : D) (k : List D → Prop) (z : Prop) (t : Tok k) (u : Tok z) : FzS (some (.ext d)) k z t u = z := rfl
theorem sFz_w (i : Nat) (t : DTS) (Ex : DX) (E : DEnds) (env : Env') : sFz i t Ex E env = FzS env[i]? (fun ds => t Ex E (env.set i (.ext (.lst ds)))) (t Ex E env) .mk .mk := by
  unfold sFz FzS
  rcases env[i]? with _ | (_ | _ | _ | _ | _) <;> rfl
def fAbs : List D → (Sl → Prop) → Prop
  | [.int i], Q => Q (.ext (.int (if i < 0 then -i else i)))
  | _, _ => False
def fInt : List D → (Sl → Prop) → Prop
  | [.int i], Q => Q (.ext (.int i))
  | [.bl b], Q => Q (.ext (.int (if b then 1 else 0)))
  | _, _ => False
theorem t_int : TR "int" fInt := ⟨fun _ _ _ => fun xs H Q => (∃ i, xs = [.int i] ∧ Q (.int i) H) ∨ ∃ k, xs = [.bl k] ∧ Q (.int (if k then 1 else 0)) H, fun _ _ K F H vs ds Q R fh hr hf ha => by
    unfold fInt at hf
    split at hf
    · obtain ⟨v, rfl, r⟩ := hr.one
      exact .inl ⟨_, by rw [r.int], ha.int fh hf⟩
    · obtain ⟨v, rfl, r⟩ := hr.one
      exact .inr ⟨_, by rw [r.bl], ha.int fh hf⟩
    · exact hf.elim, fun X _ _ => call_int1⟩
end HD
namespace HD
open PySem PyProof.Rows L2
structure D.sh (d : D) : Prop where
  nv : d.noVal = true
  ok : d.py.showable = true
  nd : d.py.hasDict = false
  dp : d.py.depth ≤ 60
  len : d.py.shown.length ≤ sizeLine
def fRepr : List D → (Sl → Prop) → Prop
  | [d], Q => d.sh ∧ Q (.ext (.str d.py.shown))
  | _, _ => False
def fLtT : D → D → (Sl → Prop) → Prop
  | .tup xs, .tup ys, Q => ∃ ns ms : List Int, xs = ns.map D.int ∧ ys = ms.map D.int ∧ Q (.ext (.bl (HT.lexLt ns ms)))
  | _, _, _ => False
def D.sv : Nat → D → Bool
  | _, .non => true
  | _, .bl _ => true
  | _, .int i => decide (i.natAbs.log2 < 1920)
  | _, .str x => x.cps.toList.all fun c => decide (c < 16 ^ 8)
  | k + 1, .lst ds => ds.all (D.sv k)
  | k + 1, .tup ds => ds.all (D.sv k)
  | _, _ => false
theorem bulks_nD (l : List Nat) : PyData.bulkAll (D.pys (nD l)) = l.length := by
  induction l with
  | nil => rfl
  | cons x l ih => rw [nD_cons, D.pys, PyData.bulkAll, ih, List.length_cons]; simp [D.py, PyData.bulk]; omega
end HD
namespace PM
def sz (S : List Nat) (n : Nat) : Nat := S.getD n 0
def prodN : List Nat → Nat
  | [] => 1
  | x :: xs => x * prodN xs
def psz (S : List Nat) (ns : List Nat) : Nat := prodN (ns.map (sz S))
def pl (S : List Nat) : Nat → List Nat → List Nat → Nat
  | acc, n :: ns, w :: ws => pl S (acc * sz S n + w) ns ws
  | acc, _, _ => acc
structure Part where
  ns : List Nat
  ws : List Int
def Rising (l : List Nat) : Prop := l.Pairwise (· < ·)
theorem Rising.nd {l : List Nat} (h : Rising l) : l.Nodup := List.Pairwise.imp (fun h => Nat.ne_of_lt h) h
theorem rising_ext {a b : List Nat} (ha : Rising a) (hb : Rising b) (h : ∀ n, n ∈ a ↔ n ∈ b) : a = b := by
  induction a generalizing b with
  | nil =>
    cases b with
    | nil => rfl
    | cons y b => exact absurd ((h y).2 List.mem_cons_self) (by simp)
  | cons x a ih =>
    cases b with
    | nil => exact absurd ((h x).1 List.mem_cons_self) (by simp)
    | cons y b =>
      have ha' := List.pairwise_cons.1 ha
      have hb' := List.pairwise_cons.1 hb
      have e : x = y := by
        rcases List.mem_cons.1 ((h x).1 List.mem_cons_self) with e | e
        · exact e
        · rcases List.mem_cons.1 ((h y).2 List.mem_cons_self) with e' | e'
          · exact e'.symm
          · have h1 := hb'.1 x e
            have h2 := ha'.1 y e'
            omega
      subst e
      rw [ih ha'.2 hb'.2 fun n => ?_]
      constructor
      · intro hn
        rcases List.mem_cons.1 ((h n).1 (List.mem_cons_of_mem _ hn)) with e | e
        · have := ha'.1 n hn; omega
        · exact e
      · intro hn
        rcases List.mem_cons.1 ((h n).2 (List.mem_cons_of_mem _ hn)) with e | e
        · have := hb'.1 n hn; omega
        · exact e
structure Part.Ok (S : List Nat) (p : Part) : Prop where
  rise : Rising p.ns
  lt : ∀ n ∈ p.ns, n < S.length
  len : p.ws.length = psz S p.ns
def val (S : List Nat) (p : Part) (g : Nat → Nat) : Int := p.ws.getD (pl S 0 p.ns (p.ns.map g)) 0
end PM
namespace LS
open PySem L2 HD PM
local macro_rules | `(tactic| trivial) => `(tactic| try simp -dsimp only [↓sSeq, ↓sIf, ↓sRet, ↓retD_ext, ↓retD_lst, ↓retD_al, ↓sSet, ↓sSetE, ↓sAsg, ↓sDrop, ↓sNext, ↓sFor, ↓sRetN, ↓sCont, ↓sBreak, ↓dTest, ↓dOp, ↓dVar_w, ↓dC, ↓dCons, ↓dNil, ↓dTup, ↓dLst, ↓frzDs, ↓frzD_ext, ↓frzD_lst, ↓frzD_al, ↓wd_ext, ↓wd_lst, ↓wd_al, ↓wds, ↓AtS_ext, ↓AtS_lst, ↓AtL, ↓fAdd, ↓fSub, ↓fMul, ↓fDiv, ↓fMod, ↓fPow, ↓fCmp, ↓fIn, ↓fEq_ii, ↓fEq_ss, ↓fEq_bb, ↓fEq_tt, ↓fEq_ll, ↓fNe_ii, ↓fNe_ss, ↓fNe_bb, ↓fNe_tt, ↓fNe_ll, ↓fIx_l, ↓fIx_t, ↓fIx_k, ↓fIx_f, ↓GetS_some, ↓NatS_some, ↓fSl, ↓fIsN, ↓fNotN, ↓D.knN, ↓dNot, ↓dAnd, ↓dOr, ↓dAndV_w, ↓dOrV_w, ↓dNotV, ↓dIf, ↓dNeg, ↓dChain_w, ↓BlS_bl, ↓dCall_w, ↓dCallJ_w, ↓anyAl, ↓frozs, ↓froz, ↓gSet, ↓gTupD, ↓gsCons, ↓gsNil, ↓dSeq, ↓seqD_tup, ↓seqD_elst, ↓seqD_lst, ↓seqD_al, ↓dRange1, ↓dRange2, ↓dZip, ↓dCB, ↓dLc, ↓dYes, ↓dNoPart, ↓dPart, ↓dSl, ↓fLen, ↓fMin, ↓fMax, ↓fSum, ↓fAll, ↓fAny, ↓fSorted, ↓fTuple, ↓fList, ↓dRg1, ↓dRg2, ↓dLstRg, ↓dTupRg, ↓dIndex, ↓fIdx, ↓dAppend_w, ↓dExtend_w, ↓extD_lst, ↓dPopAt_w, ↓popD_int, ↓dPop_w, ↓mutD_w, ↓sSetItem_w, ↓setD_int, ↓dSortSet, ↓dTable_w, ↓wipeE, finals1, finals2, finals3, finals4, finals5, finals6, fin1_ext, fin1_lst, List.getElem?_cons_zero, List.getElem?_cons_succ, List.getElem?_nil, List.set_cons_zero, List.set_cons_succ, List.cons_append, List.nil_append, List.append_nil, List.replicate_succ, List.replicate_zero, List.map_cons, List.map_nil, List.length_cons, List.length_nil, true_and, and_true, ite_true, ite_false, if_true, if_false, Bool.false_eq_true, decide_eq_true_eq, Sl.plain, D.isSq, eq_self_iff_true, forall_const, reduceIte, true_or, or_true, atI_0, atI_1, atI_2, atI_3, ixN_0, ixN_1, ixN_2, AtS_ext, AtS_lst, FzS_lst, FzS_ext, GetS_some, NatS_some, ↓fIsi1, ↓fIsi2, BoolS_some, HD.kb_non_tuple, HD.kb_non_list, HD.kb_non_bool, HD.kb_non_int, HD.kb_non_str, HD.kb_bl_tuple, HD.kb_bl_list, HD.kb_bl_bool, HD.kb_bl_int, HD.kb_bl_str, HD.kb_int_tuple, HD.kb_int_list, HD.kb_int_bool, HD.kb_int_int, HD.kb_int_str, HD.kb_str_tuple, HD.kb_str_list, HD.kb_str_bool, HD.kb_str_int, HD.kb_str_str, HD.kb_lst_tuple, HD.kb_lst_list, HD.kb_lst_bool, HD.kb_lst_int, HD.kb_lst_str, HD.kb_tup_tuple, HD.kb_tup_list, HD.kb_tup_bool, HD.kb_tup_int, HD.kb_tup_str, ↓sFz_w, ↓FzS_lst, ↓FzS_ext, ↓dSortSetL, ↓fAbs, ↓fInt, ↓fRepr, ↓fLtT, ↓sRaise, ↓sTryKeep, ↓dCallV_w, ↓dMeth, ↓fCount, ↓fSplit])
inductive Wd where
  | sum | most | least | wide | any
  deriving DecidableEq
def Wd.s : Wd → Str
  | .sum => Str.ofString "sum"
  | .most => Str.ofString "most"
  | .least => Str.ofString "least"
  | .wide => Str.ofString "wide"
  | .any => Str.ofString "any"
def jn : Wd → Int → Int → Int
  | .sum, a, b => a * b
  | .most, a, b => a + b
  | .least, a, b => a + b
  | .wide, a, b => if b < a then b else a
  | .any, a, b => if b < a then b else a
theorem w_sum (w : Wd) : (w.s == Str.ofString "sum") = decide (w = .sum) := by cases w <;> decide +kernel
theorem w_in_ml (w : Wd) : (D.str w.s).isIn [.str (Str.ofString "most"), .str (Str.ofString "least")] = decide (w = .most ∨ w = .least) := by cases w <;> decide +kernel
theorem flat_ml : [D.str (Str.ofString "most"), D.str (Str.ofString "least")].all D.flat = true := rfl
abbrev dW (w : Wd) : Sl := .ext (.str w.s)
abbrev dI (i : Int) : Sl := .ext (.int i)
def sp_join : DSpec := fun args Q _ => ∃ w i j, args = [dW w, dI i, dI j] ∧ CMulW i j ∧ ∀ fin, Q (dI (jn w i j)) fin
def t_join : DTS :=
    (sSeq (sIf (dTest (dOp fEq (dVar 0) (dC (.str (Str.ofString "sum"))))) (sRet (dOp fMul (dVar 1) (dVar 2))) sNext)
    (sSeq (sIf (dTest (dOp (fIn false) (dVar 0) (dTup (dCons (dC (.str (Str.ofString "most"))) (dCons (dC (.str (Str.ofString "least"))) dNil))))) (sRet (dOp fAdd (dVar 1) (dVar 2))) sNext)
    (sRet (dCB fMin (dCons (dVar 1) (dCons (dVar 2) dNil))))))
theorem m_join : Meets t_join 3 0 sp_join := by
  rintro args Qd Xd ⟨w, i, j, rfl, hc, hQ⟩
  show t_join _ _ [_, _, _]
  unfold t_join
  trivial
  simp only [w_sum, w_in_ml, flat_ml, D.flat, decide_eq_true_eq, true_and]
  cases w <;> simp only [reduceCtorEq, if_true, if_false, or_true, true_or, or_false, and_true] <;> first | exact ⟨hc, hQ _⟩ | exact ⟨by decide, hQ _⟩
def JarOk (n : Nat) (ds : List D) : Prop := ∃ (cells : List Int) (at' left : Int), ds = [.lst (iD cells), .int at', .int left] ∧ 0 ≤ at' ∧ at' ≤ n
theorem JarOk.up {n m : Nat} {ds : List D} (h : JarOk n ds) (hm : n ≤ m) : JarOk m ds := by
  obtain ⟨c, a, l, e, h1, h2⟩ := h
  exact ⟨c, a, l, e, h1, by omega⟩
theorem cut_iD (ns : List Int) (lo hi : Option Int) : cutD (iD ns) lo hi = iD ((ns.drop (HT.sIx ns.length 0 lo)).take (HT.sIx ns.length ns.length hi - HT.sIx ns.length 0 lo)) := by
  simp [cutD, List.map_take, List.map_drop]
def sp_law_jar : DSpec := fun args Q _ => ∃ ns : List Int, args = [.ext (.fz (iD ns))] ∧ ns.length ≤ 63 ∧ ∀ a ds fin, JarOk 0 ds → Q (.lst a ds) fin
def t_law_jar : DTS :=
    (sRet (dLst (dCons (dCB fList (dCons (dSl (dVar 0) dNoPart (dPart (dC (.int 63)))) dNil)) (dCons (dC (.int 0)) (dCons (dC (.int 0)) dNil)))))
theorem m_law_jar : Meets t_law_jar 1 0 sp_law_jar := by
  rintro args Qd Xd ⟨ns, rfl, hl, hQ⟩
  show t_law_jar _ _ [_]
  unfold t_law_jar
  trivial
  rw [cut_iD]
  exact ⟨by decide, fun a => hQ _ _ _ ⟨_, 0, 0, rfl, by omega, by omega⟩⟩
def sp_law_prime : DSpec := fun args Q _ => ∃ i : Int, args = [dI i] ∧ 0 ≤ i ∧ ∀ (r : Int) fin, 2147483423 ≤ r → r ≤ 2147483647 → Q (dI r) fin
def t_law_prime : DTS :=
    (sSeq (sSetE 1 (dLst (dCons (dC (.int 2147483647)) (dCons (dC (.int 2147483629)) (dCons (dC (.int 2147483587)) (dCons (dC (.int 2147483579)) (dCons (dC (.int 2147483563)) (dCons (dC (.int 2147483549)) (dCons (dC (.int 2147483543)) (dCons (dC (.int 2147483497)) dNil))))))))))
    (sRet (dOp fIx (dOp fAdd (dVar 1) (dLst (dCons (dC (.int 2147483489)) (dCons (dC (.int 2147483477)) (dCons (dC (.int 2147483423)) dNil))))) (dOp fMod (dVar 0) (dC (.int 11))))))
theorem m_law_prime : Meets t_law_prime 1 1 sp_law_prime := by
  rintro args Qd Xd ⟨i, rfl, hi, hQ⟩
  show t_law_prime _ _ [_, _]
  unfold t_law_prime
  trivial
  refine ⟨by decide, by decide, by decide, by decide, ?_⟩
  have h : i % 11 = 0 ∨ i % 11 = 1 ∨ i % 11 = 2 ∨ i % 11 = 3 ∨ i % 11 = 4 ∨ i % 11 = 5 ∨ i % 11 = 6 ∨ i % 11 = 7 ∨ i % 11 = 8 ∨ i % 11 = 9 ∨ i % 11 = 10 := by omega
  rcases h with h | h | h | h | h | h | h | h | h | h | h <;> rw [h] <;> exact ⟨_, rfl, hQ _ _ (by decide) (by decide)⟩
def sp_law_dip : DSpec := fun args Q _ => ∃ (n : Nat) (a : Addr) (ds : List D) (m : Int), args = [.lst a ds, dI m] ∧ JarOk n ds ∧ n < 4294967296 ∧ 0 < m ∧ m < 18446744073709551616 ∧
  ∀ (r : Int) ds' fin, 0 ≤ r → r < m → JarOk (n + 1) ds' → Q (dI r) (.lst a ds' :: fin)
def i1_law_dip : DTS :=
    (sSeq (sSetE 4 (dOp fMod (dOp fPow (dOp fAdd (dOp fAdd (dOp fMul (dOp fMod (dVar 3) (dC (.int 1000000007))) (dOp fAdd (dVar 2) (dC (.int 1)))) (dOp fMul (dC (.int 104729)) (dVar 2))) (dC (.int 17))) (dC (.int 3))) (dCall sp_law_prime (dCons (dVar 2) dNil))))
    (sSeq (sSetE 5 (dOp fMod (dOp fPow (dOp fAdd (dOp fAdd (dOp fMul (dVar 4) (dOp fAdd (dVar 2) (dC (.int 5)))) (dOp fMod (dVar 3) (dC (.int 65537)))) (dC (.int 1))) (dC (.int 5))) (dCall sp_law_prime (dCons (dOp fAdd (dVar 2) (dC (.int 3))) dNil))))
    (sSeq (sSetE 6 (dOp fMod (dOp fAdd (dOp fMul (dVar 5) (dVar 5)) (dVar 4)) (dCall sp_law_prime (dCons (dOp fAdd (dVar 2) (dC (.int 7))) dNil))))
    (sSetItem 0 (dC (.int 2)) (dOp fAdd (dOp fMul (dOp fAdd (dOp fMul (dVar 6) (dC (.int 2147483647))) (dVar 5)) (dC (.int 2147483629))) (dVar 4))))))
def k2_law_dip : DTS :=
    (sSeq (sSetItem 0 (dC (.int 2)) (dVar 3))
    (sIf (dOr (dTest (dOp (fCmp fun i j => decide (i < j)) (dVar 3) (dOp fPow (dC (.int 10)) (dC (.int 18))))) (dTest (dOp (fCmp fun i j => decide (j ≤ i)) (dVar 2) (dCB fLen (dCons (dOp fIx (dVar 0) (dC (.int 0))) dNil))))) i1_law_dip sNext))
def i3_law_dip : DTS :=
    (sSeq (sSetE 2 (dOp fIx (dVar 0) (dC (.int 1))))
    (sSeq (sSetItem 0 (dC (.int 1)) (dOp fAdd (dVar 2) (dC (.int 1))))
    (sSeq (sSetE 3 (dOp fAdd (dOp fMul (dC (.int 31)) (dVar 2)) (dC (.int 7))))
    (sSeq (sIf (dTest (dOp (fCmp fun i j => decide (j < i)) (dCB fLen (dCons (dOp fIx (dVar 0) (dC (.int 0))) dNil)) (dC (.int 0)))) (sSetE 3 (dOp fIx (dOp fIx (dVar 0) (dC (.int 0))) (dOp fMod (dVar 2) (dCB fLen (dCons (dOp fIx (dVar 0) (dC (.int 0))) dNil))))) sNext)
    k2_law_dip))))
def k4_law_dip : DTS :=
    (sSeq (sSetE 7 (dOp fMod (dOp fIx (dVar 0) (dC (.int 2))) (dVar 1)))
    (sSeq (sSetItem 0 (dC (.int 2)) (dOp fDiv (dOp fIx (dVar 0) (dC (.int 2))) (dVar 1)))
    (sRet (dVar 7))))
def t_law_dip : DTS :=
    (sSeq (sIf (dTest (dOp (fCmp fun i j => decide (i < j)) (dOp fIx (dVar 0) (dC (.int 2))) (dVar 1))) i3_law_dip sNext)
    k4_law_dip)
theorem q4_law_dip {Ex : DX} {E : DEnds} {n : Nat} {a : Addr} {m : Int} {cells : List Int} {at' left : Int} {s2 s3 s4 s5 s6 s7 : Sl} (h0 : 0 ≤ at') (h1 : at' ≤ (n : Int) + 1) (hm0 : 0 < m) (hm1 : m < 18446744073709551616)
    (hE : ∀ r ds' env, 0 ≤ r → r < m → JarOk (n + 1) ds' → E.rt (dI r) (.lst a ds' :: env)) : k4_law_dip Ex E [.lst a [.lst (iD cells), .int at', .int left], dI m, s2, s3, s4, s5, s6, s7] := by
  unfold k4_law_dip
  trivial
  refine ⟨hm0, ⟨hm0, ?_⟩, hE _ _ _ (Int.emod_nonneg _ (by omega)) (Int.emod_lt_of_pos _ hm0) ⟨cells, at', _, rfl, h0, by omega⟩⟩
  have : m.natAbs.log2 < 64 := (Nat.log2_lt (by omega)).2 (by omega)
  omega
theorem q3_law_dip {Ex : DX} {E : DEnds} {a : Addr} {m : Int} {cells : List Int} {at' left c : Int} {s4 s5 s6 s7 : Sl} (h0 : 0 ≤ at') (h1 : at' < 4294967296)
    (hE : ∀ left' u4 u5 u6, E.nx [.lst a [.lst (iD cells), .int (at' + 1), .int left'], dI m, dI at', dI c, u4, u5, u6, s7]) : i1_law_dip Ex E [.lst a [.lst (iD cells), .int (at' + 1), .int left], dI m, dI at', dI c, s4, s5, s6, s7] := by
  unfold i1_law_dip
  trivial
  have b0 := Int.emod_nonneg c (b := 1000000007) (by omega)
  have b1 := Int.emod_lt_of_pos c (b := 1000000007) (by omega)
  have b2 := Int.emod_nonneg c (b := 65537) (by omega)
  have b3 := Int.emod_lt_of_pos c (b := 65537) (by omega)
  generalize c % 1000000007 = c1 at *
  have g0 : 0 ≤ c1 * (at' + 1) := Int.mul_nonneg b0 (by omega)
  have g1 : c1 * (at' + 1) ≤ 1000000007 * 4294967296 := Int.mul_le_mul (by omega) (by omega) (by omega) (by omega)
  refine ⟨by decide, cmul64 (by omega) (by omega) (by omega) (by omega), cmul64 (by omega) (by omega) (by omega) (by omega), ⟨by decide, by decide, by omega⟩, at', rfl, h0, fun p fin p0 p1 => ?_⟩
  trivial
  have o0 := Int.emod_nonneg ((c1 * (at' + 1) + 104729 * at' + 17) ^ Int.toNat 3) (b := p) (by omega)
  have o1 := Int.emod_lt_of_pos ((c1 * (at' + 1) + 104729 * at' + 17) ^ Int.toNat 3) (b := p) (by omega)
  generalize (c1 * (at' + 1) + 104729 * at' + 17) ^ Int.toNat 3 % p = one at *
  generalize c % 65537 = c2 at *
  have g2 : 0 ≤ one * (at' + 5) := Int.mul_nonneg o0 (by omega)
  have g3 : one * (at' + 5) ≤ 2147483647 * 4294967300 := Int.mul_le_mul (by omega) (by omega) (by omega) (by omega)
  refine ⟨by omega, cmul64 (by omega) (by omega) (by omega) (by omega), by decide, ⟨by decide, by decide, by omega⟩, at' + 3, rfl, by omega, fun p' fin' p0' p1' => ?_⟩
  trivial
  have t0 := Int.emod_nonneg ((one * (at' + 5) + c2 + 1) ^ Int.toNat 5) (b := p') (by omega)
  have t1 := Int.emod_lt_of_pos ((one * (at' + 5) + c2 + 1) ^ Int.toNat 5) (b := p') (by omega)
  generalize (one * (at' + 5) + c2 + 1) ^ Int.toNat 5 % p' = two at *
  refine ⟨by omega, cmul64 (by omega) (by omega) (by omega) (by omega), at' + 7, rfl, by omega, fun p2 fin2 p20 p21 => ?_⟩
  trivial
  have u0 := Int.emod_nonneg (two * two + one) (b := p2) (by omega)
  have u1 := Int.emod_lt_of_pos (two * two + one) (b := p2) (by omega)
  generalize (two * two + one) % p2 = three at *
  refine ⟨by omega, cmul64 (by omega) (by omega) (by omega) (by omega), cmul64 (by omega) (by omega) (by omega) (by omega), hE _ _ _ _⟩
theorem q1_law_dip {Ex : DX} {E : DEnds} {a : Addr} {m : Int} {cells : List Int} {at' left c : Int} {s4 s5 s6 s7 : Sl} (h0 : 0 ≤ at') (h1 : at' < 4294967296)
    (hE : ∀ left' u4 u5 u6, E.nx [.lst a [.lst (iD cells), .int (at' + 1), .int left'], dI m, dI at', dI c, u4, u5, u6, s7]) : k2_law_dip Ex E [.lst a [.lst (iD cells), .int (at' + 1), .int left], dI m, dI at', dI c, s4, s5, s6, s7] := by
  unfold k2_law_dip
  trivial
  refine ⟨⟨by decide, by decide, by decide⟩, ?_⟩
  split
  · exact q3_law_dip h0 h1 hE
  · split
    · exact q3_law_dip h0 h1 hE
    · exact hE _ _ _ _
theorem m_law_dip : Meets t_law_dip 2 6 sp_law_dip := by
  rintro args Qd Xd ⟨n, a, ds, m, rfl, ⟨cells, at', left, rfl, h0, h1⟩, hn, hm0, hm1, hQ⟩
  show t_law_dip _ _ [_, _, .un, .un, .un, .un, .un, .un]
  unfold t_law_dip
  trivial
  have k2 : ∀ {at'' left'' : Int} {s2 s3 s4 s5 s6 s7 : Sl}, 0 ≤ at'' → at'' ≤ (n : Int) + 1 → k4_law_dip (exOf [Sl.lst a [D.lst (iD cells), D.int at', D.int left], dI m] Xd) (endsOf [Sl.lst a [D.lst (iD cells), D.int at', D.int left], dI m] Qd) [Sl.lst a [D.lst (iD cells), D.int at'', D.int left''], dI m, s2, s3, s4, s5, s6, s7] := by
    intro at'' left'' s2 s3 s4 s5 s6 s7 z0 z1
    refine q4_law_dip z0 z1 hm0 hm1 fun r ds' env r0 r1 hj => ?_
    trivial
    exact hQ _ _ _ r0 r1 hj
  split
  · unfold i3_law_dip
    trivial
    refine ⟨cmul64 (by omega) (by omega) (by omega) (by omega), ?_⟩
    split
    · rename_i hl
      refine ⟨hl, ?_⟩
      have z0 := Int.emod_nonneg at' (b := ((iD cells).length : Int)) (by omega)
      have z1 := Int.emod_lt_of_pos at' hl
      generalize at' % ((iD cells).length : Int) = j at z0 z1
      rw [List.length_map] at z1
      have hj : j.toNat < cells.length := by omega
      refine ⟨.int (cells[j.toNat]), atI_int z0 (by simp [List.getElem?_map, List.getElem?_eq_getElem hj]), ?_⟩
      exact q1_law_dip h0 (by omega) fun _ _ _ _ => k2 (by omega) (by omega)
    · exact q1_law_dip h0 (by omega) fun _ _ _ _ => k2 (by omega) (by omega)
  · exact k2 h0 (by omega)
end LS
namespace LS
open PySem L2 HD PM
local macro_rules | `(tactic| trivial) => `(tactic| try simp -dsimp only [↓sSeq, ↓sIf, ↓sRet, ↓retD_ext, ↓retD_lst, ↓retD_al, ↓sSet, ↓sSetE, ↓sAsg, ↓sDrop, ↓sNext, ↓sFor, ↓sRetN, ↓sCont, ↓sBreak, ↓dTest, ↓dOp, ↓dVar_w, ↓dC, ↓dCons, ↓dNil, ↓dTup, ↓dLst, ↓frzDs, ↓frzD_ext, ↓frzD_lst, ↓frzD_al, ↓wd_ext, ↓wd_lst, ↓wd_al, ↓wds, ↓AtS_ext, ↓AtS_lst, ↓AtL, ↓fAdd, ↓fSub, ↓fMul, ↓fDiv, ↓fMod, ↓fPow, ↓fCmp, ↓fIn, ↓fEq_ii, ↓fEq_ss, ↓fEq_bb, ↓fEq_tt, ↓fEq_ll, ↓fNe_ii, ↓fNe_ss, ↓fNe_bb, ↓fNe_tt, ↓fNe_ll, ↓fIx_l, ↓fIx_t, ↓fIx_k, ↓fIx_f, ↓GetS_some, ↓NatS_some, ↓fSl, ↓fIsN, ↓fNotN, ↓D.knN, ↓dNot, ↓dAnd, ↓dOr, ↓dAndV_w, ↓dOrV_w, ↓dNotV, ↓dIf, ↓dNeg, ↓dChain_w, ↓BlS_bl, ↓dCall_w, ↓dCallJ_w, ↓anyAl, ↓frozs, ↓froz, ↓gSet, ↓gTupD, ↓gsCons, ↓gsNil, ↓dSeq, ↓seqD_tup, ↓seqD_elst, ↓seqD_lst, ↓seqD_al, ↓dRange1, ↓dRange2, ↓dZip, ↓dCB, ↓dLc, ↓dYes, ↓dNoPart, ↓dPart, ↓dSl, ↓fLen, ↓fMin, ↓fMax, ↓fSum, ↓fAll, ↓fAny, ↓fSorted, ↓fTuple, ↓fList, ↓dRg1, ↓dRg2, ↓dLstRg, ↓dTupRg, ↓dIndex, ↓fIdx, ↓dAppend_w, ↓dExtend_w, ↓extD_lst, ↓dPopAt_w, ↓popD_int, ↓dPop_w, ↓mutD_w, ↓sSetItem_w, ↓setD_int, ↓dSortSet, ↓dTable_w, ↓wipeE, finals1, finals2, finals3, finals4, finals5, finals6, fin1_ext, fin1_lst, List.getElem?_cons_zero, List.getElem?_cons_succ, List.getElem?_nil, List.set_cons_zero, List.set_cons_succ, List.cons_append, List.nil_append, List.append_nil, List.replicate_succ, List.replicate_zero, List.map_cons, List.map_nil, List.length_cons, List.length_nil, true_and, and_true, ite_true, ite_false, if_true, if_false, Bool.false_eq_true, decide_eq_true_eq, Sl.plain, D.isSq, eq_self_iff_true, forall_const, reduceIte, true_or, or_true, atI_0, atI_1, atI_2, atI_3, ixN_0, ixN_1, ixN_2, AtS_ext, AtS_lst, FzS_lst, FzS_ext, GetS_some, NatS_some, ↓fIsi1, ↓fIsi2, BoolS_some, HD.kb_non_tuple, HD.kb_non_list, HD.kb_non_bool, HD.kb_non_int, HD.kb_non_str, HD.kb_bl_tuple, HD.kb_bl_list, HD.kb_bl_bool, HD.kb_bl_int, HD.kb_bl_str, HD.kb_int_tuple, HD.kb_int_list, HD.kb_int_bool, HD.kb_int_int, HD.kb_int_str, HD.kb_str_tuple, HD.kb_str_list, HD.kb_str_bool, HD.kb_str_int, HD.kb_str_str, HD.kb_lst_tuple, HD.kb_lst_list, HD.kb_lst_bool, HD.kb_lst_int, HD.kb_lst_str, HD.kb_tup_tuple, HD.kb_tup_list, HD.kb_tup_bool, HD.kb_tup_int, HD.kb_tup_str, ↓sFz_w, ↓FzS_lst, ↓FzS_ext, ↓dSortSetL, ↓fAbs, ↓fInt, ↓fRepr, ↓fLtT, ↓sRaise, ↓sTryKeep, ↓dCallV_w, ↓dMeth, ↓fCount, ↓fSplit])
def sp_law_times : DSpec := fun args Q _ => ∃ l : List Nat, (args = [.ext (.lst (nD l))] ∨ args = [.ext (.tup (nD l))]) ∧ (∀ x ∈ l, 0 < x) ∧ prodN l < 2 ^ 60 ∧ ∀ fin, Q (dI (prodN l : Nat)) fin
def b1_law_times : DTS :=
    (sSetE 1 (dOp fMul (dVar 1) (dVar 2)))
def k2_law_times : DTS :=
    (sRet (dVar 1))
def t_law_times : DTS :=
    (sSeq (sSetE 1 (dC (.int 1)))
    (sSeq (sFor (dSeq (dVar 0)) (gSet 2) b1_law_times)
    k2_law_times))
theorem prodN_pos {l : List Nat} (h : ∀ x ∈ l, 0 < x) : 0 < prodN l := by
  induction l with
  | nil => exact Nat.one_pos
  | cons x l ih => exact Nat.mul_pos (h x List.mem_cons_self) (ih fun y hy => h y (List.mem_cons_of_mem _ hy))
theorem q1_law_times {Ex : DX} {E : DEnds} {s0 : Sl} (l : List Nat) : ∀ (acc : Nat) (s2 : Sl), 0 < acc → (∀ x ∈ l, 0 < x) → acc * prodN l < 2 ^ 60 → (∀ u, E.nx [s0, dI (acc * prodN l : Nat), u]) →
    forD (gSet 2) b1_law_times (fun _ => True) Ex E (nD l) [s0, dI (acc : Nat), s2] := by
  induction l with
  | nil =>
    intro acc s2 _ _ _ hE
    refine ⟨True.intro, ?_⟩
    have := hE s2
    simpa [prodN] using this
  | cons x l ih =>
    intro acc s2 hz hp hb hE
    have hx := hp x List.mem_cons_self
    have hl := prodN_pos fun y hy => hp y (List.mem_cons_of_mem _ hy)
    have e : acc * prodN (x :: l) = acc * x * prodN l := by rw [prodN, Nat.mul_assoc]
    have hax : acc * x < 2 ^ 60 := Nat.lt_of_le_of_lt (Nat.le_mul_of_pos_right _ hl) (e ▸ hb)
    have ha : acc < 2 ^ 60 := Nat.lt_of_le_of_lt (Nat.le_mul_of_pos_right _ hx) hax
    have hx2 : x < 2 ^ 60 := Nat.lt_of_le_of_lt (Nat.le_mul_of_pos_left _ hz) hax
    rw [nD_cons, forD]
    unfold b1_law_times
    trivial
    refine ⟨cmulN (a := 60) (b := 60) (by simpa using ha) (by simpa using hx2) (by decide), ?_⟩
    have := ih (acc * x) (dI (x : Nat)) (Nat.mul_pos hz hx) (fun y hy => hp y (List.mem_cons_of_mem _ hy)) (e ▸ hb) (fun u => e ▸ hE u)
    rw [Int.natCast_mul] at this
    exact this
theorem m_law_times : Meets t_law_times 1 2 sp_law_times := by
  rintro args Qd Xd ⟨l, h, hp, hb, hQ⟩
  rcases h with rfl | rfl
  all_goals
    show t_law_times _ _ [_, .un, .un]
    unfold t_law_times
    trivial
    refine q1_law_times l 1 .un (by decide) hp (by rw [Nat.one_mul]; exact hb) fun u => ?_
    unfold k2_law_times
    trivial
    rw [Nat.one_mul]
    exact hQ _
structure SzOk (S : List Nat) : Prop where
  pos : ∀ s ∈ S, 0 < s
  few : S.length ≤ 24
  prod : prodN S ≤ 4096
  small : ∀ s ∈ S, s ≤ 4
theorem prodN_append (a b : List Nat) : prodN (a ++ b) = prodN a * prodN b := by
  induction a with
  | nil => simp [prodN]
  | cons x a ih => rw [List.cons_append, prodN, ih, prodN, Nat.mul_assoc]
end LS
namespace LS
open PySem L2 HD PM
local macro_rules | `(tactic| trivial) => `(tactic| try simp -dsimp only [↓sSeq, ↓sIf, ↓sRet, ↓retD_ext, ↓retD_lst, ↓retD_al, ↓sSet, ↓sSetE, ↓sAsg, ↓sDrop, ↓sNext, ↓sFor, ↓sRetN, ↓sCont, ↓sBreak, ↓dTest, ↓dOp, ↓dVar_w, ↓dC, ↓dCons, ↓dNil, ↓dTup, ↓dLst, ↓frzDs, ↓frzD_ext, ↓frzD_lst, ↓frzD_al, ↓wd_ext, ↓wd_lst, ↓wd_al, ↓wds, ↓AtS_ext, ↓AtS_lst, ↓AtL, ↓fAdd, ↓fSub, ↓fMul, ↓fDiv, ↓fMod, ↓fPow, ↓fCmp, ↓fIn, ↓fEq_ii, ↓fEq_ss, ↓fEq_bb, ↓fEq_tt, ↓fEq_ll, ↓fNe_ii, ↓fNe_ss, ↓fNe_bb, ↓fNe_tt, ↓fNe_ll, ↓fIx_l, ↓fIx_t, ↓fIx_k, ↓fIx_f, ↓GetS_some, ↓NatS_some, ↓fSl, ↓fIsN, ↓fNotN, ↓D.knN, ↓dNot, ↓dAnd, ↓dOr, ↓dAndV_w, ↓dOrV_w, ↓dNotV, ↓dIf, ↓dNeg, ↓dChain_w, ↓BlS_bl, ↓dCall_w, ↓dCallJ_w, ↓anyAl, ↓frozs, ↓froz, ↓gSet, ↓gTupD, ↓gsCons, ↓gsNil, ↓dSeq, ↓seqD_tup, ↓seqD_elst, ↓seqD_lst, ↓seqD_al, ↓dRange1, ↓dRange2, ↓dZip, ↓dCB, ↓dLc, ↓dYes, ↓dNoPart, ↓dPart, ↓dSl, ↓fLen, ↓fMin, ↓fMax, ↓fSum, ↓fAll, ↓fAny, ↓fSorted, ↓fTuple, ↓fList, ↓dRg1, ↓dRg2, ↓dLstRg, ↓dTupRg, ↓dIndex, ↓fIdx, ↓dAppend_w, ↓dExtend_w, ↓extD_lst, ↓dPopAt_w, ↓popD_int, ↓dPop_w, ↓mutD_w, ↓sSetItem_w, ↓setD_int, ↓dSortSet, ↓dTable_w, ↓wipeE, finals1, finals2, finals3, finals4, finals5, finals6, fin1_ext, fin1_lst, List.getElem?_cons_zero, List.getElem?_cons_succ, List.getElem?_nil, List.set_cons_zero, List.set_cons_succ, List.cons_append, List.nil_append, List.append_nil, List.replicate_succ, List.replicate_zero, List.map_cons, List.map_nil, List.length_cons, List.length_nil, true_and, and_true, ite_true, ite_false, if_true, if_false, Bool.false_eq_true, decide_eq_true_eq, Sl.plain, D.isSq, eq_self_iff_true, forall_const, reduceIte, true_or, or_true, atI_0, atI_1, atI_2, atI_3, ixN_0, ixN_1, ixN_2, AtS_ext, AtS_lst, FzS_lst, FzS_ext, GetS_some, NatS_some, ↓fIsi1, ↓fIsi2, BoolS_some, HD.kb_non_tuple, HD.kb_non_list, HD.kb_non_bool, HD.kb_non_int, HD.kb_non_str, HD.kb_bl_tuple, HD.kb_bl_list, HD.kb_bl_bool, HD.kb_bl_int, HD.kb_bl_str, HD.kb_int_tuple, HD.kb_int_list, HD.kb_int_bool, HD.kb_int_int, HD.kb_int_str, HD.kb_str_tuple, HD.kb_str_list, HD.kb_str_bool, HD.kb_str_int, HD.kb_str_str, HD.kb_lst_tuple, HD.kb_lst_list, HD.kb_lst_bool, HD.kb_lst_int, HD.kb_lst_str, HD.kb_tup_tuple, HD.kb_tup_list, HD.kb_tup_bool, HD.kb_tup_int, HD.kb_tup_str, ↓sFz_w, ↓FzS_lst, ↓FzS_ext, ↓dSortSetL, ↓fAbs, ↓fInt, ↓fRepr, ↓fLtT, ↓sRaise, ↓sTryKeep, ↓dCallV_w, ↓dMeth, ↓fCount, ↓fSplit])
def sp_law_some : DSpec := fun args Q _ => ∃ (n : Nat) (a : Addr) (ds : List D) (many most : Nat), args = [.lst a ds, dI (many : Nat), dI (most : Nat)] ∧ JarOk n ds ∧ n + 64 < 4294967296 ∧ many ≤ 60 ∧ most ≤ 60 ∧
  ∀ (ns : List Nat) ds' fin, Rising ns → (∀ x ∈ ns, x < many) → ns.length ≤ most → JarOk (n + 64) ds' → Q (.ext (.tup (nD ns))) (.lst a ds' :: fin)
def b1_law_some : DTS :=
    (sIf (dTest (dOp (fCmp fun i j => decide (j < i)) (dCB fLen (dCons (dVar 3) dNil)) (dC (.int 0)))) (sDrop (dAppend 4 (dPopAt 3 (dCallJ sp_law_dip 0 (dCons (dCB fLen (dCons (dVar 3) dNil)) dNil))))) sNext)
def k2_law_some : DTS :=
    (sRet (dCB fTuple (dCons (dCB fSorted (dCons (dVar 4) dNil)) dNil)))
def t_law_some : DTS :=
    (sSeq (sSet 3 (dLstRg (dRg1 (dVar 1))))
    (sSeq (sSet 4 (dLst dNil))
    (sSeq (sFor (dRange1 (dCons (dCallJ sp_law_dip 0 (dCons (dOp fAdd (dVar 2) (dC (.int 1))) dNil)) dNil)) (gSet 5) b1_law_some)
    k2_law_some)))
theorem erase_perm {α : Type} (l : List α) : ∀ {i : Nat} (h : i < l.length), (l[i] :: l.eraseIdx i).Perm l := by
  induction l with
  | nil => intro i h; simp at h
  | cons x l ih =>
    intro i h
    cases i with
    | zero => exact .refl _
    | succ i =>
      have := ih (i := i) (by simpa using h)
      simp only [List.getElem_cons_succ, List.eraseIdx_cons_succ]
      exact (List.Perm.swap _ _ _).trans (List.Perm.cons x this)
theorem map_erase {α β : Type} (f : α → β) (l : List α) : ∀ i, (l.eraseIdx i).map f = (l.map f).eraseIdx i := by
  induction l with
  | nil => intro i; rfl
  | cons x l ih =>
    intro i
    cases i with
    | zero => rfl
    | succ i => simp only [List.eraseIdx_cons_succ, List.map_cons, ih]
theorem q1_law_some {Ex : DX} {E : DEnds} {a a2 a3 : Addr} {s1 s2 : Sl} {many : Nat} (items : List D) : ∀ (n : Nat) (ds : List D) (L Fd : List Nat) (s5 : Sl), JarOk n ds → n + items.length < 4294967296 → (L ++ Fd).Nodup → (∀ x ∈ L ++ Fd, x < many) → (L.length ≤ 60) → Fd.length + items.length ≤ 100 →
    (∀ ds' L' Fd' u5, JarOk (n + items.length) ds' → Fd'.Nodup → (∀ x ∈ Fd', x < many) → Fd'.length ≤ Fd.length + items.length → E.nx [.lst a ds', s1, s2, .lst a2 (nD L'), .lst a3 (nD Fd'), u5]) →
    forD (gSet 5) b1_law_some (fun _ => True) Ex E items [.lst a ds, s1, s2, .lst a2 (nD L), .lst a3 (nD Fd), s5] := by
  induction items with
  | nil =>
    intro n ds L Fd s5 hj hn hd hm hL hl hE
    exact ⟨True.intro, hE _ _ _ _ hj (List.nodup_append.1 hd).2.1 (fun x hx => hm x (List.mem_append_right _ hx)) (Nat.le_refl _)⟩
  | cons x items ih =>
    intro n ds L Fd s5 hj hn hd hm hL hl hE
    rw [List.length_cons] at hn hl
    rw [forD]
    unfold b1_law_some
    trivial
    rw [nD_len]
    split
    · rename_i h0
      have hL0 : 0 < L.length := by omega
      refine ⟨n, a, ds, (L.length : Int), rfl, hj, by omega, by omega, by omega, fun r ds' fin r0 r1 hj' => ?_⟩
      trivial
      have hr : r.toNat < L.length := by omega
      refine ⟨r0, by omega, .int (L[r.toNat] : Nat), by simp [List.getElem?_map, List.getElem?_eq_getElem hr], ?_⟩
      trivial
      refine ⟨by rw [nD_len]; exact Nat.lt_of_le_of_lt (by omega : Fd.length ≤ 100) (by decide), ?_⟩
      have pm : (L.eraseIdx r.toNat ++ (Fd ++ [L[r.toNat]])).Perm (L ++ Fd) := by
        have p1 := erase_perm L hr
        have p2 : (L.eraseIdx r.toNat ++ (Fd ++ [L[r.toNat]])).Perm (L[r.toNat] :: (L.eraseIdx r.toNat ++ Fd)) := by
          rw [← List.append_assoc]
          exact List.perm_append_singleton _ _
        exact p2.trans ((List.Perm.append_right Fd p1))
      have := ih (n + 1) ds' (L.eraseIdx r.toNat) (Fd ++ [L[r.toNat]]) (.ext x) hj' (by omega) (pm.nodup_iff.2 hd) (fun y hy => hm y (pm.mem_iff.1 hy)) (Nat.le_trans (List.length_eraseIdx_le _ _) hL)
        (by rw [List.length_append, List.length_singleton]; omega) fun ds2 L2 Fd2 u5 hj2 h2 h3 h4 => hE _ _ _ _ (by rw [List.length_cons]; exact hj2.up (by omega)) h2 h3 (by rw [List.length_append, List.length_singleton] at h4; rw [List.length_cons]; omega)
      rw [nD_app] at this
      have e : nD (L.eraseIdx r.toNat) = (nD L).eraseIdx r.toNat := map_erase _ _ _
      rw [e] at this
      exact this
    · exact ih n ds L Fd _ hj (by omega) hd hm hL (by omega) fun ds2 L2 Fd2 u5 hj2 h2 h3 h4 => hE _ _ _ _ (by rw [List.length_cons]; exact hj2.up (by omega)) h2 h3 (by rw [List.length_cons]; omega)
theorem rgD_nat (n : Nat) : rgD 0 (n : Int) = nD (List.range n) := by
  unfold rgD
  simp
theorem nat_of_ints {l : List Nat} {ns : List Int} (h : ns.Perm (l.map fun n : Nat => (n : Int))) : ∃ l' : List Nat, ns = l'.map (fun n : Nat => (n : Int)) ∧ l'.Perm l := by
  have h1 : ∀ x ∈ ns, 0 ≤ x := by
    intro x hx
    obtain ⟨y, _, rfl⟩ := List.mem_map.1 (h.mem_iff.1 hx)
    omega
  have e : ns = (ns.map Int.toNat).map fun n : Nat => (n : Int) := by
    rw [List.map_map]
    conv => lhs; rw [← List.map_id ns]
    refine List.map_congr_left fun x hx => ?_
    have := h1 x hx
    simp; omega
  refine ⟨ns.map Int.toNat, e, ?_⟩
  have := h.map Int.toNat
  rw [List.map_map] at this
  have e2 : l.map (Int.toNat ∘ fun n : Nat => (n : Int)) = l := by
    conv => rhs; rw [← List.map_id l]
    exact List.map_congr_left fun x _ => by simp
  rwa [e2] at this
theorem iD_nat (l : List Nat) : iD (l.map fun n : Nat => (n : Int)) = nD l := by simp [iD, nD]
theorem rising_of {l : List Nat} (h : (l.map fun n : Nat => (n : Int)).Pairwise (· ≤ ·)) (hn : l.Nodup) : Rising l := by
  rw [List.pairwise_map] at h
  exact (List.pairwise_and_iff.2 ⟨h, hn⟩).imp fun ⟨h1, h2⟩ => by
    have : _ ≠ _ := h2
    omega
theorem m_law_some : Meets t_law_some 3 3 sp_law_some := by
  rintro args Qd Xd ⟨n, a, ds, many, most, rfl, hj, hn, hm0, hm1, hQ⟩
  show t_law_some _ _ [_, _, _, .un, .un, .un]
  unfold t_law_some
  trivial
  refine ⟨RgOk.of_le (by omega) (by omega) (by omega) (by omega), fun a2 => ⟨by decide, fun a3 => ⟨n, a, ds, (most : Int) + 1, rfl, hj, by omega, by omega, by omega, fun r ds' fin r0 r1 hj' => ?_⟩⟩⟩
  trivial
  refine ⟨⟨by omega, by omega⟩, ?_⟩
  rw [rgD_nat]
  have hlen : (rgD 0 r).length = r.toNat := by simp [rgD]
  refine q1_law_some (many := many) _ (n + 1) ds' (List.range many) [] _ hj' (by omega) (by simpa using List.nodup_range) (by simp) (by simpa using hm0) (by simp; omega) fun ds2 L2 Fd2 u5 hj2 hd2 hm2 hl2 => ?_
  unfold k2_law_some
  trivial
  refine ⟨Fd2.map fun n : Nat => (n : Int), (iD_nat _).symm, fun ns' hp hw => ?_⟩
  obtain ⟨l, rfl, hl⟩ := nat_of_ints hp
  rw [show List.map D.int (List.map (fun n : Nat => (n : Int)) l) = nD l from iD_nat l]
  exact hQ l _ _ (rising_of hw (hl.nodup_iff.2 hd2)) (fun x hx => hm2 x (hl.mem_iff.1 hx)) (by rw [hl.length_eq]; simp at hl2; omega) (hj2.up (by omega))
abbrev dP (p : Part) : D := .tup [.tup (nD p.ns), .tup (iD p.ws)]
theorem psz_le {S ns : List Nat} (hS : ∀ s ∈ S, 0 < s) (h : Rising ns) (hl : ∀ n ∈ ns, n < S.length) : psz S ns ≤ prodN S := by
  have e : ns = (List.range S.length).filter fun n => decide (n ∈ ns) := by
    refine rising_ext h (List.Pairwise.filter _ List.pairwise_lt_range) fun n => ?_
    simp only [List.mem_filter, List.mem_range, decide_eq_true_eq]
    exact ⟨fun hn => ⟨hl n hn, hn⟩, fun hn => hn.2⟩
  have sub : ns.Sublist (List.range S.length) := by rw [e]; exact List.filter_sublist
  have e2 : (List.range S.length).map (sz S) = S := by
    refine List.ext_getElem? fun i => ?_
    rw [List.getElem?_map]
    by_cases hi : i < S.length
    · simp [List.getElem?_range hi, sz, List.getD_eq_getElem?_getD, List.getElem?_eq_getElem hi]
    · rw [List.getElem?_eq_none (by simpa using hi), List.getElem?_eq_none (by omega)]; rfl
  have sub2 : (ns.map (sz S)).Sublist S := by have := sub.map (sz S); rwa [e2] at this
  have gen : ∀ {a b : List Nat}, a.Sublist b → (∀ s ∈ b, 0 < s) → prodN a ≤ prodN b := by
    intro a b hs
    induction hs with
    | slnil => intro _; exact Nat.le_refl _
    | cons x h ih =>
      intro hb
      have h1 := ih fun s hs => hb s (List.mem_cons_of_mem _ hs)
      exact Nat.le_trans h1 (Nat.le_mul_of_pos_left _ (hb x List.mem_cons_self))
    | cons_cons x h ih =>
      intro hb
      exact Nat.mul_le_mul_left _ (ih fun s hs => hb s (List.mem_cons_of_mem _ hs))
  exact gen sub2 hS
theorem sz_mem {S : List Nat} {n : Nat} (h : n < S.length) : sz S n ∈ S := by
  unfold sz
  rw [List.getD_eq_getElem?_getD, List.getElem?_eq_getElem h]
  exact List.getElem_mem h
theorem rising_len {ns : List Nat} {m : Nat} (h : Rising ns) (hl : ∀ n ∈ ns, n < m) : ns.length ≤ m := by
  have e : ns = (List.range m).filter fun n => decide (n ∈ ns) := by
    refine rising_ext h (List.Pairwise.filter _ List.pairwise_lt_range) fun n => ?_
    simp only [List.mem_filter, List.mem_range, decide_eq_true_eq]
    exact ⟨fun hn => ⟨hl n hn, hn⟩, fun hn => hn.2⟩
  rw [e]
  have := List.length_filter_le (fun n => decide (n ∈ ns)) (List.range m)
  simpa using this
end LS
namespace LS
open PySem L2 HD PM
abbrev fD (fs : List (List Nat)) : List D := fs.map fun f => D.tup (nD f)
theorem fD_app (a b : List (List Nat)) : fD (a ++ b) = fD a ++ fD b := List.map_append
def SqN (l : List Nat) (Z : D) : Prop := Z = .tup (nD l) ∨ Z = .lst (nD l)
theorem getD_at {g : List Nat} {n : Nat} (h : n < g.length) : (nD g)[n]? = some (.int (g.getD n 0 : Nat)) := by
  simp [List.getElem?_map, List.getD_eq_getElem?_getD, List.getElem?_eq_getElem h]
end LS
namespace LS
open PySem L2 HD PM
theorem isIn_nat (n : Nat) (l : List Nat) : (D.int (n : Nat)).isIn (nD l) = decide (n ∈ l) := by
  unfold D.isIn
  induction l with
  | nil => rfl
  | cons x l ih =>
    have e : inV (D.int (n : Nat)).toV ((nD (x :: l)).map D.toV) = (eqV (V.int (x : Nat)) (V.int (n : Nat)) || inV (D.int (n : Nat)).toV ((nD l).map D.toV)) := rfl
    rw [e, ih]
    have e2 : eqV (V.int (x : Nat)) (V.int (n : Nat)) = decide (n = x) := by
      simp only [eqV]
      by_cases h : n = x
      · subst h; simp
      · simp [h]; omega
    rw [e2]
    simp
theorem flat_nD (l : List Nat) : (nD l).all D.flat = true := by simp [D.flat]
end LS
namespace LS
open PySem L2 HD PM
def D.pl : Nat → D → Bool
  | _, .non => true
  | _, .bl _ => true
  | _, .int _ => true
  | _, .str _ => true
  | k + 1, .lst ds => decide (ds.length ≤ 100000) && ds.all (D.pl k)
  | k + 1, .tup ds => decide (ds.length ≤ 100000) && ds.all (D.pl k)
  | _, _ => false
theorem noVals_of {ds : List D} (h : ∀ d ∈ ds, d.noVal = true) : D.noVals ds = true := by
  induction ds with
  | nil => rfl
  | cons d ds ih => rw [D.noVals, h d List.mem_cons_self, ih fun e he => h e (List.mem_cons_of_mem _ he)]; rfl
theorem pl_noVal : ∀ (k : Nat) (d : D), D.pl k d = true → d.noVal = true := by
  intro k
  induction k with
  | zero => intro d h; cases d <;> first | rfl | simp [D.pl] at h
  | succ k ih =>
    intro d h
    cases d with
    | lst ds => rw [D.pl, Bool.and_eq_true, List.all_eq_true] at h; exact noVals_of fun e he => ih e (h.2 e he)
    | tup ds => rw [D.pl, Bool.and_eq_true, List.all_eq_true] at h; exact noVals_of fun e he => ih e (h.2 e he)
    | non => rfl
    | bl _ => rfl
    | int _ => rfl
    | str _ => rfl
    | val _ => simp [D.pl] at h
    | fz _ => simp [D.pl] at h
    | tk _ => simp [D.pl] at h
    | exc _ => simp [D.pl] at h
    | glo _ => simp [D.pl] at h
    | dk _ _ => simp [D.pl] at h
    | dt _ _ => simp [D.pl] at h
end LS
namespace LS
open PySem L2 HD PM
def D.pi : Nat → D → Bool
  | _, .non => true
  | _, .bl _ => true
  | _, .int _ => true
  | _, .str x => PyData.canLay0 (.str x)
  | k + 1, .lst ds => ds.all (D.pi k)
  | k + 1, .tup ds => ds.all (D.pi k)
  | _, _ => false
theorem pys_of {k : Nat} {ds : List D} (h : ∀ d ∈ ds, d.noVal = true ∧ d.py.canLay0 = true ∧ d.py.depth ≤ k) : D.noVals ds = true ∧ PyData.canLayAll0 (D.pys ds) = true ∧ PyData.depthAll (D.pys ds) ≤ k := by
  induction ds with
  | nil => exact ⟨rfl, rfl, by simp [D.pys, PyData.depthAll]⟩
  | cons d ds ih =>
    obtain ⟨h1, h2, h3⟩ := h d List.mem_cons_self
    obtain ⟨i1, i2, i3⟩ := ih fun e he => h e (List.mem_cons_of_mem _ he)
    refine ⟨by simp [D.noVals, h1, i1], by simp [D.pys, PyData.canLayAll0, h2, i2], ?_⟩
    simp only [D.pys, PyData.depthAll]
    omega
theorem pi_cmp0 : ∀ (k : Nat) (d : D), D.pi k d = true → d.noVal = true ∧ d.py.canLay0 = true ∧ d.py.depth ≤ k := by
  intro k
  induction k with
  | zero => intro d h; cases d <;> first | exact ⟨rfl, rfl, by simp [D.py, PyData.depth]⟩ | exact ⟨rfl, h, by simp [D.py, PyData.depth]⟩ | simp [D.pi] at h
  | succ k ih =>
    intro d h
    cases d with
    | lst ds =>
      rw [D.pi, List.all_eq_true] at h
      obtain ⟨h1, h2, h3⟩ := pys_of fun e he => ih e (h e he)
      exact ⟨h1, by simpa [D.py, PyData.canLay0] using h2, by simp only [D.py, PyData.depth]; omega⟩
    | tup ds =>
      rw [D.pi, List.all_eq_true] at h
      obtain ⟨h1, h2, h3⟩ := pys_of fun e he => ih e (h e he)
      exact ⟨h1, by simpa [D.py, PyData.canLay0] using h2, by simp only [D.py, PyData.depth]; omega⟩
    | non => exact ⟨rfl, rfl, by simp [D.py, PyData.depth]⟩
    | bl _ => exact ⟨rfl, rfl, by simp [D.py, PyData.depth]⟩
    | int _ => exact ⟨rfl, rfl, by simp [D.py, PyData.depth]⟩
    | str _ => exact ⟨rfl, h, by simp [D.py, PyData.depth]⟩
    | val _ => simp [D.pi] at h
    | fz _ => simp [D.pi] at h
    | tk _ => simp [D.pi] at h
    | exc _ => simp [D.pi] at h
    | glo _ => simp [D.pi] at h
    | dk _ _ => simp [D.pi] at h
    | dt _ _ => simp [D.pi] at h
theorem pi_cmp {k : Nat} {d : D} (hk : k ≤ 64) (h : D.pi k d = true) : d.cmp := by
  obtain ⟨h1, h2, h3⟩ := pi_cmp0 k d h
  refine ⟨h1, ?_⟩
  unfold SeqAt.shaped
  rw [h2]
  simp; omega
theorem pi_nats (k : Nat) (l : List Nat) : (nD l).all (D.pi k) = true := by
  rw [List.all_eq_true]
  intro d hd
  obtain ⟨i, _, rfl⟩ := List.mem_map.1 hd
  cases k <;> rfl
def Bd (k : Nat) (p : Part) : Prop := ∀ x ∈ p.ws, x.natAbs < 2 ^ k
end LS
namespace PM
open LS
def put (g : Nat → Nat) (n v : Nat) : Nat → Nat := fun m => if m = n then v else g m
def wo (ns : List Nat) (n : Nat) : List Nat := ns.filter fun m => decide (m ≠ n)
end PM
namespace LS
open PySem L2 HD PM
local macro_rules | `(tactic| trivial) => `(tactic| try simp -dsimp only [↓sSeq, ↓sIf, ↓sRet, ↓retD_ext, ↓retD_lst, ↓retD_al, ↓sSet, ↓sSetE, ↓sAsg, ↓sDrop, ↓sNext, ↓sFor, ↓sRetN, ↓sCont, ↓sBreak, ↓dTest, ↓dOp, ↓dVar_w, ↓dC, ↓dCons, ↓dNil, ↓dTup, ↓dLst, ↓frzDs, ↓frzD_ext, ↓frzD_lst, ↓frzD_al, ↓wd_ext, ↓wd_lst, ↓wd_al, ↓wds, ↓AtS_ext, ↓AtS_lst, ↓AtL, ↓fAdd, ↓fSub, ↓fMul, ↓fDiv, ↓fMod, ↓fPow, ↓fCmp, ↓fIn, ↓fEq_ii, ↓fEq_ss, ↓fEq_bb, ↓fEq_tt, ↓fEq_ll, ↓fNe_ii, ↓fNe_ss, ↓fNe_bb, ↓fNe_tt, ↓fNe_ll, ↓fIx_l, ↓fIx_t, ↓fIx_k, ↓fIx_f, ↓GetS_some, ↓NatS_some, ↓fSl, ↓fIsN, ↓fNotN, ↓D.knN, ↓dNot, ↓dAnd, ↓dOr, ↓dAndV_w, ↓dOrV_w, ↓dNotV, ↓dIf, ↓dNeg, ↓dChain_w, ↓BlS_bl, ↓dCall_w, ↓dCallJ_w, ↓anyAl, ↓frozs, ↓froz, ↓gSet, ↓gTupD, ↓gsCons, ↓gsNil, ↓dSeq, ↓seqD_tup, ↓seqD_elst, ↓seqD_lst, ↓seqD_al, ↓dRange1, ↓dRange2, ↓dZip, ↓dCB, ↓dLc, ↓dYes, ↓dNoPart, ↓dPart, ↓dSl, ↓fLen, ↓fMin, ↓fMax, ↓fSum, ↓fAll, ↓fAny, ↓fSorted, ↓fTuple, ↓fList, ↓dRg1, ↓dRg2, ↓dLstRg, ↓dTupRg, ↓dIndex, ↓fIdx, ↓dAppend_w, ↓dExtend_w, ↓extD_lst, ↓dPopAt_w, ↓popD_int, ↓dPop_w, ↓mutD_w, ↓sSetItem_w, ↓setD_int, ↓dSortSet, ↓dTable_w, ↓wipeE, finals1, finals2, finals3, finals4, finals5, finals6, fin1_ext, fin1_lst, List.getElem?_cons_zero, List.getElem?_cons_succ, List.getElem?_nil, List.set_cons_zero, List.set_cons_succ, List.cons_append, List.nil_append, List.append_nil, List.replicate_succ, List.replicate_zero, List.map_cons, List.map_nil, List.length_cons, List.length_nil, true_and, and_true, ite_true, ite_false, if_true, if_false, Bool.false_eq_true, decide_eq_true_eq, Sl.plain, D.isSq, eq_self_iff_true, forall_const, reduceIte, true_or, or_true, atI_0, atI_1, atI_2, atI_3, ixN_0, ixN_1, ixN_2, AtS_ext, AtS_lst, FzS_lst, FzS_ext, GetS_some, NatS_some, ↓fIsi1, ↓fIsi2, BoolS_some, HD.kb_non_tuple, HD.kb_non_list, HD.kb_non_bool, HD.kb_non_int, HD.kb_non_str, HD.kb_bl_tuple, HD.kb_bl_list, HD.kb_bl_bool, HD.kb_bl_int, HD.kb_bl_str, HD.kb_int_tuple, HD.kb_int_list, HD.kb_int_bool, HD.kb_int_int, HD.kb_int_str, HD.kb_str_tuple, HD.kb_str_list, HD.kb_str_bool, HD.kb_str_int, HD.kb_str_str, HD.kb_lst_tuple, HD.kb_lst_list, HD.kb_lst_bool, HD.kb_lst_int, HD.kb_lst_str, HD.kb_tup_tuple, HD.kb_tup_list, HD.kb_tup_bool, HD.kb_tup_int, HD.kb_tup_str, ↓sFz_w, ↓FzS_lst, ↓FzS_ext, ↓dSortSetL, ↓fAbs, ↓fInt, ↓fRepr, ↓fLtT, ↓sRaise, ↓sTryKeep, ↓dCallV_w, ↓dMeth, ↓fCount, ↓fSplit])
def D.isInt : D → Bool
  | .int _ => true
  | _ => false
def sp_is_whole : DSpec := fun args Q _ => ∃ (d : D) (k : Nat), args = [.ext d] ∧ D.pl k d = true ∧ ∀ fin, Q (.ext (.bl (D.isInt d))) fin
def t_is_whole : DTS :=
    (sRet (dAndV (dCB fIsi (dCons (dVar 0) (dCons (dC (.val (.ty "int"))) dNil))) (dNotV (dCB fIsi (dCons (dVar 0) (dCons (dC (.val (.ty "bool"))) dNil))))))
theorem m_is_whole : Meets t_is_whole 1 0 sp_is_whole := by
  rintro args Qd Xd ⟨d, k, rfl, hp, hQ⟩
  have nv := pl_noVal k d hp
  show t_is_whole _ _ [_]
  unfold t_is_whole
  cases d with
  | val _ => cases k <;> simp [D.pl] at hp
  | fz _ => cases k <;> simp [D.pl] at hp
  | tk _ => cases k <;> simp [D.pl] at hp
  | exc _ => cases k <;> simp [D.pl] at hp
  | glo _ => cases k <;> simp [D.pl] at hp
  | dk _ _ => cases k <;> simp [D.pl] at hp
  | dt _ _ => cases k <;> simp [D.pl] at hp
  | _ =>
    trivial
    simp only [nv, D.isFz, true_and, Bool.not_true, Bool.not_false]
    exact hQ _
def NamesD (many : Int) (d : D) : Prop := ∃ ns : List Nat, d = .tup (nD ns) ∧ Rising ns ∧ ∀ n ∈ ns, (n : Int) < many
def inR (many : Int) : D → Bool
  | .int i => decide (0 ≤ i) && decide (i < many)
  | _ => false
theorem all_inR {many : Int} {ds : List D} (h : ds.all (inR many) = true) : ∃ ns : List Nat, ds = nD ns ∧ ∀ n ∈ ns, (n : Int) < many := by
  induction ds with
  | nil => exact ⟨[], rfl, by simp⟩
  | cons d ds ih =>
    rw [List.all_cons, Bool.and_eq_true] at h
    obtain ⟨ns, rfl, h2⟩ := ih h.2
    cases d with
    | int i =>
      have h1 : decide (0 ≤ i) && decide (i < many) := h.1
      rw [Bool.and_eq_true, decide_eq_true_eq, decide_eq_true_eq] at h1
      refine ⟨i.toNat :: ns, ?_, fun n hn => ?_⟩
      · rw [nD_cons, Int.toNat_of_nonneg h1.1]
      · rcases List.mem_cons.1 hn with rfl | hn
        · omega
        · exact h2 n hn
    | _ => exact absurd h.1 (by simp [inR])
theorem inR_all {many : Int} {ns : List Nat} (h : ∀ n ∈ ns, (n : Int) < many) : (nD ns).all (inR many) = true := by
  rw [List.all_eq_true]
  intro d hd
  obtain ⟨n, hn, rfl⟩ := List.mem_map.1 hd
  have := h n hn
  simp [inR]; omega
theorem rising_adj {ns : List Nat} : Rising ns ↔ ∀ k, k + 1 < ns.length → ns.getD k 0 < ns.getD (k + 1) 0 := by
  induction ns with
  | nil => exact ⟨fun _ k hk => by simp at hk, fun _ => .nil⟩
  | cons x ns ih =>
    unfold Rising at *
    rw [List.pairwise_cons, ih]
    constructor
    · rintro ⟨h1, h2⟩ k hk
      cases k with
      | zero =>
        cases ns with
        | nil => simp at hk
        | cons y ns => simpa using h1 y List.mem_cons_self
      | succ k => simpa using h2 k (by simpa using hk)
    · intro h
      refine ⟨?_, fun k hk => by simpa using h (k + 1) (by simpa using hk)⟩
      have h2 : ∀ k, k < ns.length → x < ns.getD k 0 := by
        intro k
        induction k with
        | zero =>
          intro hk
          have := h 0 (by simp; omega)
          simpa using this
        | succ k ihk =>
          intro hk
          have a := ihk (by omega)
          have b := h (k + 1) (by simp; omega)
          have b' : ns.getD k 0 < ns.getD (k + 1) 0 := by simpa using b
          omega
      intro y hy
      obtain ⟨i, hi, rfl⟩ := List.getElem_of_mem hy
      have := h2 i hi
      simpa [List.getD_eq_getElem?_getD, List.getElem?_eq_getElem hi] using this
theorem nD_inj {a b : List Nat} (h : nD a = nD b) : a = b := by
  induction a generalizing b with
  | nil => cases b with
    | nil => rfl
    | cons y b => simp at h
  | cons x a ih => cases b with
    | nil => simp at h
    | cons y b =>
      rw [nD_cons, nD_cons] at h
      have h1 := (List.cons.inj h).1
      have h2 := ih (List.cons.inj h).2
      have h3 := D.int.inj h1
      rw [h2, show x = y by omega]
def sp_are_names : DSpec := fun args Q _ => ∃ (many : Int) (d : D) (k : Nat), args = [dI many, .ext d] ∧ D.pl k d = true ∧ ∀ (b : Bool) fin, (b = true ↔ NamesD many d) → Q (.ext (.bl b)) fin
def e1_are_names : DT :=
    (dAndV (dCall sp_is_whole (dCons (dVar 2) dNil)) (dChain (fCmp fun i j => decide (i ≤ j)) (fCmp fun i j => decide (i < j)) (dC (.int 0)) (dVar 2) (dVar 0)))
def e2_are_names : DT :=
    (dOp (fCmp fun i j => decide (i < j)) (dOp fIx (dVar 1) (dOp fSub (dVar 3) (dC (.int 1)))) (dOp fIx (dVar 1) (dVar 3)))
def t_are_names : DTS :=
    (sSeq (sIf (dOr (dNot (dTest (dCB fIsi (dCons (dVar 1) (dCons (dC (.val (.ty "tuple"))) dNil))))) (dNot (dTest (dCB fAll (dCons (dLc (dSeq (dVar 1)) (gSet 2) dYes e1_are_names [2]) dNil))))) (sRet (dC (.bl false))) sNext)
    (sRet (dCB fAll (dCons (dLc (dRange2 (dCons (dC (.int 1)) (dCons (dCB fLen (dCons (dVar 1) dNil)) dNil))) (gSet 3) dYes e2_are_names [3]) dNil))))
theorem q1_are_names {Q : Sl → Env' → Prop} {many : Int} {s1 s3 : Sl} {k : Nat} (ds : List D) : ∀ acc : List Bool, (∀ d ∈ ds, D.pl k d = true) → acc.length + ds.length ≤ 200000 → (∀ b, Q (.lst b ((acc ++ ds.map (inR many)).map D.bl)) [dI many, s1, .un, s3]) →
    lcD (gSet 2) dYes e1_are_names [2] (fun _ => True) Q ds (acc.map D.bl) [dI many, s1, .un, s3] := by
  induction ds with
  | nil => intro acc _ _ hQ; exact ⟨True.intro, fun b => by simpa using hQ b⟩
  | cons d ds ih =>
    intro acc hp hl hQ
    rw [List.length_cons] at hl
    rw [lcD]
    unfold e1_are_names
    trivial
    refine ⟨by rw [List.length_map]; exact Nat.lt_of_le_of_lt (by omega : acc.length ≤ 200000) (by decide), d, k, rfl, hp d List.mem_cons_self, fun fin => ?_⟩
    trivial
    have next : ∀ b : Bool, b = inR many d → lcD (gSet 2) dYes e1_are_names [2] (fun _ => True) Q ds (acc.map D.bl ++ [.bl b]) [dI many, s1, .un, s3] := by
      intro b hb
      have := ih (acc ++ [b]) (fun e he => hp e (List.mem_cons_of_mem _ he)) (by rw [List.length_append, List.length_singleton]; omega) (fun a => by rw [hb]; simpa using hQ a)
      rw [List.map_append] at this
      exact this
    cases d with
    | int i =>
      rw [if_pos (show D.isInt (.int i) = true from rfl)]
      trivial
      split
      · refine next _ ?_
        rename_i h0
        simp [inR, h0]
      · refine next _ ?_
        rename_i h0
        simp [inR, h0]
    | _ =>
      rw [if_neg (by simp [D.isInt])]
      exact next _ rfl
theorem q2_are_names {Q : Sl → Env' → Prop} {s0 s2 : Sl} {ns : List Nat} (m : Nat) : ∀ (j : Nat) (acc : List Bool), j + m = ns.length - 1 → acc.length = j → ns.length ≤ 200000 → (∀ b, Q (.lst b ((acc ++ (List.range m).map fun i => decide (ns.getD (j + i) 0 < ns.getD (j + i + 1) 0)).map D.bl)) [s0, .ext (.tup (nD ns)), s2, .un]) →
    lcD (gSet 3) dYes e2_are_names [3] (fun _ => True) Q ((List.range m).map fun i => D.int (1 + ((j + i : Nat) : Int))) (acc.map D.bl) [s0, .ext (.tup (nD ns)), s2, .un] := by
  induction m with
  | zero => intro j acc _ _ _ hQ; exact ⟨True.intro, fun b => by simpa using hQ b⟩
  | succ m ih =>
    intro j acc hj ha hl hQ
    rw [List.range_succ_eq_map, List.map_cons, List.map_map, lcD]
    unfold e2_are_names
    trivial
    refine ⟨by rw [List.length_map]; exact Nat.lt_of_le_of_lt (by omega : acc.length ≤ 200000) (by decide), ?_⟩
    rw [show (1 + ((j + 0 : Nat) : Int) - 1) = ((j : Nat) : Int) by omega, show (1 + ((j + 0 : Nat) : Int)) = ((j + 1 : Nat) : Int) by omega]
    refine ⟨_, atN (getD_at (g := ns) (n := j) (by omega)), ?_⟩
    trivial
    refine ⟨_, atN (getD_at (g := ns) (n := j + 1) (by omega)), ?_⟩
    trivial
    have := ih (j + 1) (acc ++ [decide (ns.getD j 0 < ns.getD (j + 1) 0)]) (by omega) (by simp; omega) hl (fun b => by
      have := hQ b
      rw [List.range_succ_eq_map, List.map_cons, List.map_map] at this
      rw [List.append_assoc]
      have e : ((List.range m).map fun i => decide (ns.getD (j + 1 + i) 0 < ns.getD (j + 1 + i + 1) 0)) = (List.range m).map ((fun i => decide (ns.getD (j + i) 0 < ns.getD (j + i + 1) 0)) ∘ Nat.succ) :=
        List.map_congr_left fun i _ => by show _ = decide (ns.getD (j + (i + 1)) 0 < ns.getD (j + (i + 1) + 1) 0); rw [show j + 1 + i = j + (i + 1) by omega]
      rw [e]
      exact this)
    rw [List.map_append] at this
    have e : ((List.range m).map ((fun i : Nat => D.int (1 + ((j + i : Nat) : Int))) ∘ Nat.succ)) = (List.range m).map fun i : Nat => D.int (1 + ((j + 1 + i : Nat) : Int)) :=
      List.map_congr_left fun i _ => by show D.int (1 + ((j + (i + 1) : Nat) : Int)) = _; rw [show j + 1 + i = j + (i + 1) by omega]
    rw [e]
    have e2 : decide (((ns.getD j 0 : Nat) : Int) < ((ns.getD (j + 1) 0 : Nat) : Int)) = decide (ns.getD j 0 < ns.getD (j + 1) 0) := by
      simp
    rw [e2]
    exact this
theorem m_are_names : Meets t_are_names 2 2 sp_are_names := by
  rintro args Qd Xd ⟨many, d, k, rfl, hp, hQ⟩
  have nv := pl_noVal k d hp
  show t_are_names _ _ [_, _, .un, .un]
  unfold t_are_names
  cases d with
  | val _ => cases k <;> simp [D.pl] at hp
  | fz _ => cases k <;> simp [D.pl] at hp
  | tk _ => cases k <;> simp [D.pl] at hp
  | exc _ => cases k <;> simp [D.pl] at hp
  | glo _ => cases k <;> simp [D.pl] at hp
  | dk _ _ => cases k <;> simp [D.pl] at hp
  | dt _ _ => cases k <;> simp [D.pl] at hp
  | tup ds =>
    cases k with
    | zero => simp [D.pl] at hp
    | succ k =>
      rw [D.pl, Bool.and_eq_true, List.all_eq_true, decide_eq_true_eq] at hp
      trivial
      simp only [nv, D.isFz, true_and, Bool.not_true, Bool.false_eq_true, if_false]
      refine q1_are_names (k := k) ds [] hp.2 (by simp; omega) fun b => ?_
      trivial
      refine ⟨ds.map (inR many), rfl, ?_⟩
      have ea : (ds.map (inR many)).all id = ds.all (inR many) := by rw [List.all_map]; rfl
      rw [ea]
      by_cases h : ds.all (inR many) = true
      · rw [h, if_neg (by simp)]
        obtain ⟨ns, rfl, hns⟩ := all_inR h
        rw [nD_len] at *
        trivial
        refine ⟨⟨by omega, by omega⟩, ⟨by omega, by omega⟩, ?_⟩
        have er : rgD 1 (ns.length : Int) = (List.range (ns.length - 1)).map fun i : Nat => D.int (1 + ((0 + i : Nat) : Int)) := by
          unfold rgD
          rw [show ((ns.length : Int) - 1).toNat = ns.length - 1 by omega]
          exact List.map_congr_left fun i _ => by rw [Nat.zero_add]
        rw [er]
        refine q2_are_names (ns.length - 1) 0 [] (by omega) rfl (by omega) fun b => ?_
        trivial
        refine ⟨_, rfl, ?_⟩
        refine hQ _ _ ?_
        rw [List.all_map, List.all_eq_true]
        constructor
        · intro hr
          refine ⟨ns, rfl, rising_adj.2 fun j hj => ?_, hns⟩
          have := hr j (List.mem_range.2 (by omega))
          simpa using this
        · rintro ⟨ns', e, hr, _⟩ j hj
          have e' : ns = ns' := by
            have := D.tup.inj e
            exact nD_inj this
          subst e'
          have := rising_adj.1 hr j (by have := List.mem_range.1 hj; omega)
          simpa using this
      · have hf : ds.all (inR many) = false := by simpa using h
        rw [hf, if_pos (by simp)]
        refine hQ _ _ ⟨fun z => by simp at z, ?_⟩
        rintro ⟨ns, e, _, hn⟩
        have e := D.tup.inj e
        subst e
        exact absurd (inR_all hn) h
  | _ =>
    trivial
    simp only [nv, D.isFz, true_and, Bool.not_false, if_true]
    exact hQ _ _ ⟨fun z => by simp at z, fun ⟨_, e, _⟩ => by simp at e⟩
end LS
namespace LS
open PySem L2 HD PM
local macro_rules | `(tactic| trivial) => `(tactic| try simp -dsimp only [↓sSeq, ↓sIf, ↓sRet, ↓retD_ext, ↓retD_lst, ↓retD_al, ↓sSet, ↓sSetE, ↓sAsg, ↓sDrop, ↓sNext, ↓sFor, ↓sRetN, ↓sCont, ↓sBreak, ↓dTest, ↓dOp, ↓dVar_w, ↓dC, ↓dCons, ↓dNil, ↓dTup, ↓dLst, ↓frzDs, ↓frzD_ext, ↓frzD_lst, ↓frzD_al, ↓wd_ext, ↓wd_lst, ↓wd_al, ↓wds, ↓AtS_ext, ↓AtS_lst, ↓AtL, ↓fAdd, ↓fSub, ↓fMul, ↓fDiv, ↓fMod, ↓fPow, ↓fCmp, ↓fIn, ↓fEq_ii, ↓fEq_ss, ↓fEq_bb, ↓fEq_tt, ↓fEq_ll, ↓fNe_ii, ↓fNe_ss, ↓fNe_bb, ↓fNe_tt, ↓fNe_ll, ↓fIx_l, ↓fIx_t, ↓fIx_k, ↓fIx_f, ↓GetS_some, ↓NatS_some, ↓fSl, ↓fIsN, ↓fNotN, ↓D.knN, ↓dNot, ↓dAnd, ↓dOr, ↓dAndV_w, ↓dOrV_w, ↓dNotV, ↓dIf, ↓dNeg, ↓dChain_w, ↓BlS_bl, ↓dCall_w, ↓dCallJ_w, ↓anyAl, ↓frozs, ↓froz, ↓gSet, ↓gTupD, ↓gsCons, ↓gsNil, ↓dSeq, ↓seqD_tup, ↓seqD_elst, ↓seqD_lst, ↓seqD_al, ↓dRange1, ↓dRange2, ↓dZip, ↓dCB, ↓dLc, ↓dYes, ↓dNoPart, ↓dPart, ↓dSl, ↓fLen, ↓fMin, ↓fMax, ↓fSum, ↓fAll, ↓fAny, ↓fSorted, ↓fTuple, ↓fList, ↓dRg1, ↓dRg2, ↓dLstRg, ↓dTupRg, ↓dIndex, ↓fIdx, ↓dAppend_w, ↓dExtend_w, ↓extD_lst, ↓dPopAt_w, ↓popD_int, ↓dPop_w, ↓mutD_w, ↓sSetItem_w, ↓setD_int, ↓dSortSet, ↓dTable_w, ↓wipeE, finals1, finals2, finals3, finals4, finals5, finals6, fin1_ext, fin1_lst, List.getElem?_cons_zero, List.getElem?_cons_succ, List.getElem?_nil, List.set_cons_zero, List.set_cons_succ, List.cons_append, List.nil_append, List.append_nil, List.replicate_succ, List.replicate_zero, List.map_cons, List.map_nil, List.length_cons, List.length_nil, true_and, and_true, ite_true, ite_false, if_true, if_false, Bool.false_eq_true, decide_eq_true_eq, Sl.plain, D.isSq, eq_self_iff_true, forall_const, reduceIte, true_or, or_true, atI_0, atI_1, atI_2, atI_3, ixN_0, ixN_1, ixN_2, AtS_ext, AtS_lst, FzS_lst, FzS_ext, GetS_some, NatS_some, ↓fIsi1, ↓fIsi2, BoolS_some, HD.kb_non_tuple, HD.kb_non_list, HD.kb_non_bool, HD.kb_non_int, HD.kb_non_str, HD.kb_bl_tuple, HD.kb_bl_list, HD.kb_bl_bool, HD.kb_bl_int, HD.kb_bl_str, HD.kb_int_tuple, HD.kb_int_list, HD.kb_int_bool, HD.kb_int_int, HD.kb_int_str, HD.kb_str_tuple, HD.kb_str_list, HD.kb_str_bool, HD.kb_str_int, HD.kb_str_str, HD.kb_lst_tuple, HD.kb_lst_list, HD.kb_lst_bool, HD.kb_lst_int, HD.kb_lst_str, HD.kb_tup_tuple, HD.kb_tup_list, HD.kb_tup_bool, HD.kb_tup_int, HD.kb_tup_str, ↓sFz_w, ↓FzS_lst, ↓FzS_ext, ↓dSortSetL, ↓fAbs, ↓fInt, ↓fRepr, ↓fLtT, ↓sRaise, ↓sTryKeep, ↓dCallV_w, ↓dMeth, ↓fCount, ↓fSplit])
theorem R_if {R : Option HD.D → HD.Env' → Prop} {b b' : Bool} {x : HD.D} {env : HD.Env'} (e : b = b') (h : R (if b' = true then some x else none) env) : if b = true then R (some x) env else R none env := by
  subst e
  cases b <;> exact h
def sp_law_call (FT : FTab) : DSpec := fun args Q X => ∃ (nm : Str) (n : Nat) (spec : DSpec) (ds : List D), args = [.ext (.glo nm), .ext (.tup ds)] ∧ FT nm = some (n, spec) ∧ 0 < ds.length ∧ ds.length ≤ 4 ∧
  ∀ (Q' : Sl → List Sl → Prop) (X' : Str → List Sl → Prop), (∀ r fin, r.plain → r ≠ .un → (∀ fin', Q r fin') → Q' r fin) → (∀ c fin, (∀ fin', X c fin') → X' c fin) → spec (ds.map .ext) Q' X'
def t_law_call (FT : FTab) : DTS :=
    (sSeq (sIf (dTest (dOp fEq (dCB fLen (dCons (dVar 1) dNil)) (dC (.int 2)))) (sRet (dCallV FT 0 (dCons (dOp fIx (dVar 1) (dC (.int 0))) (dCons (dOp fIx (dVar 1) (dC (.int 1))) dNil)))) sNext)
    (sSeq (sIf (dTest (dOp fEq (dCB fLen (dCons (dVar 1) dNil)) (dC (.int 3)))) (sRet (dCallV FT 0 (dCons (dOp fIx (dVar 1) (dC (.int 0))) (dCons (dOp fIx (dVar 1) (dC (.int 1))) (dCons (dOp fIx (dVar 1) (dC (.int 2))) dNil))))) sNext)
    (sSeq (sIf (dTest (dOp fEq (dCB fLen (dCons (dVar 1) dNil)) (dC (.int 4)))) (sRet (dCallV FT 0 (dCons (dOp fIx (dVar 1) (dC (.int 0))) (dCons (dOp fIx (dVar 1) (dC (.int 1))) (dCons (dOp fIx (dVar 1) (dC (.int 2))) (dCons (dOp fIx (dVar 1) (dC (.int 3))) dNil)))))) sNext)
    (sRet (dCallV FT 0 (dCons (dOp fIx (dVar 1) (dC (.int 0))) dNil))))))
theorem m_law_call (FT : FTab) : Meets (t_law_call FT) 2 0 (sp_law_call FT) := by
  rintro args Qd Xd ⟨nm, n, spec, ds, rfl, hF, h0, h4, h⟩
  show t_law_call FT _ _ [_, _]
  unfold t_law_call
  rcases ds with _ | ⟨d1, _ | ⟨d2, _ | ⟨d3, _ | ⟨d4, _ | ⟨d5, ds⟩⟩⟩⟩⟩
  · simp at h0
  all_goals try (simp only [List.length_cons] at h4; omega)
  all_goals
    trivial
    simp only [show ((0 + 1 : Nat) : Int) = 1 from rfl, show ((0 + 1 + 1 : Nat) : Int) = 2 from rfl, show ((0 + 1 + 1 + 1 : Nat) : Int) = 3 from rfl, show ((0 + 1 + 1 + 1 + 1 : Nat) : Int) = 4 from rfl, show ((1 : Int) == 2) = false from rfl, show ((1 : Int) == 3) = false from rfl, show ((1 : Int) == 4) = false from rfl, show ((2 : Int) == 2) = true from rfl, show ((3 : Int) == 2) = false from rfl, show ((3 : Int) == 3) = true from rfl, show ((4 : Int) == 2) = false from rfl, show ((4 : Int) == 3) = false from rfl, show ((4 : Int) == 4) = true from rfl, if_true, if_false, Bool.false_eq_true]
    trivial
    refine ⟨n, spec, hF, ?_⟩
    trivial
    refine h _ _ (fun r fin hr hu hQ => ?_) fun c fin hX => hX _
    cases r with
    | ext d => trivial; exact hQ _
    | lst a ds => trivial; exact hQ _
    | un => exact absurd rfl hu
    | reg a cs => exact ⟨.inl rfl, True.intro, hQ _⟩
    | al i a => exact hr.elim
    | ar i a => exact hr.elim
def xWords : List Str := [Str.ofString "filling", Str.ofString "name", Str.ofString "many", Str.ofString "deeds", Str.ofString "offers", Str.ofString "tree", Str.ofString "bag", Str.ofString "part", Str.ofString "worths", Str.ofString "back", Str.ofString "weights", Str.ofString "number", Str.ofString "row", Str.ofString "text"]
def xWord (c : Str) : Str := xWords.getD (xAll.idxOf c) (Str.ofString "")
def sp_law_class (cs : List Str) : DSpec := fun args Q _ => ∃ c : Str, args = [.ext (.exc c)] ∧ c ∈ cs ∧ c ∈ xAll ∧ ∀ fin, Q (.ext (.str (xWord c))) fin
def t_law_class (cs : List Str) : DTS :=
    (sSeq (sSetE 1 (dLst (dCons (dCB (fIsX (xtab cs)) (dCons (dVar 0) (dCons (dC (.glo "NoFilling")) dNil))) (dCons (dCB (fIsX (xtab cs)) (dCons (dVar 0) (dCons (dC (.glo "NoName")) dNil))) (dCons (dCB (fIsX (xtab cs)) (dCons (dVar 0) (dCons (dC (.glo "TooMany")) dNil))) dNil)))))
    (sSeq (sSetE 1 (dOp fAdd (dVar 1) (dLst (dCons (dCB (fIsX (xtab cs)) (dCons (dVar 0) (dCons (dC (.glo "NoDeeds")) dNil))) (dCons (dCB (fIsX (xtab cs)) (dCons (dVar 0) (dCons (dC (.glo "NoOffers")) dNil))) (dCons (dCB (fIsX (xtab cs)) (dCons (dVar 0) (dCons (dC (.glo "NoTree")) dNil))) dNil))))))
    (sSeq (sSetE 1 (dOp fAdd (dVar 1) (dLst (dCons (dCB (fIsX (xtab cs)) (dCons (dVar 0) (dCons (dC (.glo "NoBag")) dNil))) (dCons (dCB (fIsX (xtab cs)) (dCons (dVar 0) (dCons (dC (.glo "NoPart")) dNil))) (dCons (dCB (fIsX (xtab cs)) (dCons (dVar 0) (dCons (dC (.glo "NoWorths")) dNil))) dNil))))))
    (sSeq (sSetE 1 (dOp fAdd (dVar 1) (dLst (dCons (dCB (fIsX (xtab cs)) (dCons (dVar 0) (dCons (dC (.glo "NoBack")) dNil))) (dCons (dCB (fIsX (xtab cs)) (dCons (dVar 0) (dCons (dC (.glo "NoWeights")) dNil))) (dCons (dCB (fIsX (xtab cs)) (dCons (dVar 0) (dCons (dC (.glo "NoNumber")) dNil))) dNil))))))
    (sSeq (sSetE 1 (dOp fAdd (dVar 1) (dLst (dCons (dCB (fIsX (xtab cs)) (dCons (dVar 0) (dCons (dC (.glo "NoRow")) dNil))) (dCons (dCB (fIsX (xtab cs)) (dCons (dVar 0) (dCons (dC (.glo "NoText")) dNil))) dNil)))))
    (sSeq (sIf (dOr (dTest (dOp fNe (dMeth D.isLst fCount (dVar 1) (dC (.bl true))) (dC (.int 1)))) (dNot (dTest (dCB (fIsX (xtab cs)) (dCons (dVar 0) (dCons (dC (.val (.ty "ValueError"))) dNil)))))) (sRet (dC (.str (Str.ofString "odd")))) sNext)
    (sSeq (sSetE 2 (dC (.str (Str.ofString "filling name many deeds offers tree bag part worths back weights number row text"))))
    (sRet (dOp fIx (dMeth D.isStr fSplit (dVar 2) (dC (.str (Str.ofString " ")))) (dIndex (dVar 1) (dC (.bl true))))))))))))
theorem isX_glo {cs : List Str} {c : Str} (hc : c ∈ cs) (x : Str) (hx : x ∈ xAll) (Q : Sl → Prop) : fIsX (xtab cs) [.exc c, .glo x] Q = Q (.ext (.bl (decide (x = c)))) := by
  refine propext ⟨fun ⟨b, h, q⟩ => ?_, fun q => ⟨_, ?_, q⟩⟩
  · unfold xtab at h
    simp only [if_pos hc, if_pos hx, Option.some.injEq] at h
    rw [h]; exact q
  · unfold xtab
    simp only [if_pos hc, if_pos hx]
theorem isX_ve {cs : List Str} {c : Str} (hc : c ∈ cs) (Q : Sl → Prop) : fIsX (xtab cs) [.exc c, .val (.ty "ValueError")] Q = Q (.ext (.bl true)) := by
  refine propext ⟨fun ⟨b, h, q⟩ => ?_, fun q => ⟨_, ?_, q⟩⟩
  · unfold xtab at h
    simp only [if_pos hc, if_true, Option.some.injEq] at h
    rw [h]; exact q
  · unfold xtab
    simp only [if_pos hc, if_true]
def xKinds (c : Str) : List D := xAll.map fun x => D.bl (decide (x = c))
theorem xk_count {c : Str} (h : c ∈ xAll) : (xKinds c).countP (fun z => eqV z.toV (D.bl true).toV) = 1 := by
  simp only [xAll, List.mem_cons, List.not_mem_nil, or_false] at h
  rcases h with rfl | rfl | rfl | rfl | rfl | rfl | rfl | rfl | rfl | rfl | rfl | rfl | rfl | rfl <;> decide +kernel
theorem xk_at {c : Str} (h : c ∈ xAll) : D.at? (.bl true) (xKinds c) = some (xAll.idxOf c) := by
  simp only [xAll, List.mem_cons, List.not_mem_nil, or_false] at h
  rcases h with rfl | rfl | rfl | rfl | rfl | rfl | rfl | rfl | rfl | rfl | rfl | rfl | rfl | rfl <;> decide +kernel
theorem xk_split : Txt.split (Str.ofString "filling name many deeds offers tree bag part worths back weights number row text") (Str.ofString " ") = xWords := by decide +kernel
theorem m_law_class (cs : List Str) : Meets (t_law_class cs) 1 2 (sp_law_class cs) := by
  rintro args Qd Xd ⟨c, rfl, hc, hx, hQ⟩
  show t_law_class cs _ _ [_, .un, .un]
  unfold t_law_class
  have i1 := isX_glo hc "NoFilling" (by decide)
  have i2 := isX_glo hc "NoName" (by decide)
  have i3 := isX_glo hc "TooMany" (by decide)
  have i4 := isX_glo hc "NoDeeds" (by decide)
  have i5 := isX_glo hc "NoOffers" (by decide)
  have i6 := isX_glo hc "NoTree" (by decide)
  have i7 := isX_glo hc "NoBag" (by decide)
  have i8 := isX_glo hc "NoPart" (by decide)
  have i9 := isX_glo hc "NoWorths" (by decide)
  have i10 := isX_glo hc "NoBack" (by decide)
  have i11 := isX_glo hc "NoWeights" (by decide)
  have i12 := isX_glo hc "NoNumber" (by decide)
  have i13 := isX_glo hc "NoRow" (by decide)
  have i14 := isX_glo hc "NoText" (by decide)
  have iv := isX_ve hc
  simp -dsimp only [↓sSeq, ↓sIf, ↓sRet, ↓retD_ext, ↓retD_lst, ↓retD_al, ↓sSet, ↓sSetE, ↓sAsg, ↓sDrop, ↓sNext, ↓sFor, ↓sRetN, ↓sCont, ↓sBreak, ↓dTest, ↓dOp, ↓dVar_w, ↓dC, ↓dCons, ↓dNil, ↓dTup, ↓dLst, ↓frzDs, ↓frzD_ext, ↓frzD_lst, ↓frzD_al, ↓wd_ext, ↓wd_lst, ↓wd_al, ↓wds, ↓AtS_ext, ↓AtS_lst, ↓AtL, ↓fAdd, ↓fSub, ↓fMul, ↓fDiv, ↓fMod, ↓fPow, ↓fCmp, ↓fIn, ↓fEq_ii, ↓fEq_ss, ↓fEq_bb, ↓fEq_tt, ↓fEq_ll, ↓fNe_ii, ↓fNe_ss, ↓fNe_bb, ↓fNe_tt, ↓fNe_ll, ↓fIx_l, ↓fIx_t, ↓fIx_k, ↓fIx_f, ↓GetS_some, ↓NatS_some, ↓fSl, ↓fIsN, ↓fNotN, ↓D.knN, ↓dNot, ↓dAnd, ↓dOr, ↓dAndV_w, ↓dOrV_w, ↓dNotV, ↓dIf, ↓dNeg, ↓dChain_w, ↓BlS_bl, ↓dCall_w, ↓dCallJ_w, ↓anyAl, ↓frozs, ↓froz, ↓gSet, ↓gTupD, ↓gsCons, ↓gsNil, ↓dSeq, ↓seqD_tup, ↓seqD_elst, ↓seqD_lst, ↓seqD_al, ↓dRange1, ↓dRange2, ↓dZip, ↓dCB, ↓dLc, ↓dYes, ↓dNoPart, ↓dPart, ↓dSl, ↓fLen, ↓fMin, ↓fMax, ↓fSum, ↓fAll, ↓fAny, ↓fSorted, ↓fTuple, ↓fList, ↓dRg1, ↓dRg2, ↓dLstRg, ↓dTupRg, ↓dIndex, ↓fIdx, ↓dAppend_w, ↓dExtend_w, ↓extD_lst, ↓dPopAt_w, ↓popD_int, ↓dPop_w, ↓mutD_w, ↓sSetItem_w, ↓setD_int, ↓dSortSet, ↓dTable_w, ↓wipeE, finals1, finals2, finals3, finals4, finals5, finals6, fin1_ext, fin1_lst, List.getElem?_cons_zero, List.getElem?_cons_succ, List.getElem?_nil, List.set_cons_zero, List.set_cons_succ, List.cons_append, List.nil_append, List.append_nil, List.replicate_succ, List.replicate_zero, List.map_cons, List.map_nil, List.length_cons, List.length_nil, true_and, and_true, ite_true, ite_false, if_true, if_false, Bool.false_eq_true, decide_eq_true_eq, Sl.plain, D.isSq, eq_self_iff_true, forall_const, reduceIte, true_or, or_true, atI_0, atI_1, atI_2, atI_3, ixN_0, ixN_1, ixN_2, AtS_ext, AtS_lst, FzS_lst, FzS_ext, GetS_some, NatS_some, ↓fIsi1, ↓fIsi2, BoolS_some, HD.kb_non_tuple, HD.kb_non_list, HD.kb_non_bool, HD.kb_non_int, HD.kb_non_str, HD.kb_bl_tuple, HD.kb_bl_list, HD.kb_bl_bool, HD.kb_bl_int, HD.kb_bl_str, HD.kb_int_tuple, HD.kb_int_list, HD.kb_int_bool, HD.kb_int_int, HD.kb_int_str, HD.kb_str_tuple, HD.kb_str_list, HD.kb_str_bool, HD.kb_str_int, HD.kb_str_str, HD.kb_lst_tuple, HD.kb_lst_list, HD.kb_lst_bool, HD.kb_lst_int, HD.kb_lst_str, HD.kb_tup_tuple, HD.kb_tup_list, HD.kb_tup_bool, HD.kb_tup_int, HD.kb_tup_str, ↓sFz_w, ↓FzS_lst, ↓FzS_ext, ↓dSortSetL, ↓fAbs, ↓fInt, ↓fRepr, ↓fLtT, ↓sRaise, ↓sTryKeep, ↓dCallV_w, ↓dMeth, ↓fCount, ↓fSplit, i1, i2, i3, i4, i5, i6, i7, i8, i9, i10, i11, i12, i13, i14, iv]
  have h2 := xk_count hx
  have h3 := xk_at hx
  simp only [xKinds, xAll, List.map_cons, List.map_nil] at h2 h3
  rw [h2]
  refine ⟨by decide, by decide, by decide, by decide, by decide, by decide, by decide, by decide, by decide, rfl, rfl, rfl, ?_⟩
  rw [if_neg (by decide), if_neg (by decide)]
  refine ⟨rfl, by decide +kernel, by decide +kernel, rfl, rfl, _, h3, ?_⟩
  rw [xk_split]
  refine ⟨.str (xWord c), atN ?_, ?_⟩
  · rw [List.getElem?_map]
    unfold xWord
    rw [List.getD_eq_getElem?_getD]
    have hl : List.idxOf c xAll < xWords.length := List.idxOf_lt_length_of_mem hx
    change Option.map D.str xWords[List.idxOf c xAll]? = _
    rw [List.getElem?_eq_getElem hl]
    rfl
  · trivial
    exact hQ _
def sp_law_refused (FT : FTab) (cs : List Str) : DSpec := fun args Q _ => ∃ (nm : Str) (n : Nat) (spec : DSpec) (ds : List D), args = [.ext (.glo nm), .ext (.tup ds)] ∧ FT nm = some (n, spec) ∧ 0 < ds.length ∧ ds.length ≤ 4 ∧
  ((∃ c, c ∈ cs ∧ c ∈ xAll ∧ (∀ (Q' : Sl → List Sl → Prop) (X' : Str → List Sl → Prop), (∀ fin, X' c fin) → spec (ds.map .ext) Q' X') ∧ ∀ fin, Q (.ext (.str (xWord c))) fin) ∨
    ((∀ (Q' : Sl → List Sl → Prop) (X' : Str → List Sl → Prop), (∀ r fin, r.plain → r ≠ .un → Q' r fin) → spec (ds.map .ext) Q' X') ∧ ∀ fin, Q (.ext (.str (Str.ofString ""))) fin))
def t_law_refused (FT : FTab) (cs : List Str) : DTS :=
    (sSeq (sSetE 2 (dC .non))
    (sSeq (sTryKeep cs 3 2 (sDrop (dCall (sp_law_call FT) (dCons (dVar 0) (dCons (dVar 1) dNil)))))
    (sRet (dIf (dTest (dOp fIsN (dVar 2) (dC .non))) (dC (.str (Str.ofString ""))) (dCall (sp_law_class cs) (dCons (dVar 2) dNil))))))
theorem m_law_refused (FT : FTab) (cs : List Str) : Meets (t_law_refused FT cs) 2 2 (sp_law_refused FT cs) := by
  rintro args Qd Xd ⟨nm, n, spec, ds, rfl, hF, h0, h4, h⟩
  show t_law_refused FT cs _ _ [_, _, .un, .un]
  unfold t_law_refused
  rcases h with ⟨c, hc, hx, hs, hQ⟩ | ⟨hs, hQ⟩
  · trivial
    refine ⟨nm, n, spec, ds, rfl, hF, h0, h4, fun Q' X' _ hX => hs Q' X' fun fin => hX c fin fun fin' => ?_⟩
    refine ⟨hc, by simp, ?_⟩
    trivial
    rw [if_neg (by simp [D.isNon])]
    refine ⟨c, rfl, hc, hx, fun fin => ?_⟩
    trivial
    exact hQ _
  · trivial
    refine ⟨nm, n, spec, ds, rfl, hF, h0, h4, fun Q' X' hq _ => hs Q' X' fun r fin h1 h2 => hq r fin h1 h2 fun fin' => ?_⟩
    refine ⟨.inl rfl, h1, ?_⟩
    trivial
    rw [if_pos (by rfl)]
    exact hQ _
end LS
namespace LS
open PySem L2 HD PM
abbrev dPs (ps : List Part) : D := .tup (ps.map dP)
abbrev dSh (S : List Nat) (ps : List Part) : D := .tup [.tup (nD S), dPs ps]
structure ShOk (S : List Nat) (ps : List Part) : Prop where
  sz : SzOk S
  one : 0 < S.length
  ok : ∀ p ∈ ps, p.Ok S
  bd : ∃ b, 0 < b ∧ b * ps.length ≤ 40 * max ps.length 20 ∧ ∀ p ∈ ps, Bd b p
  few : ps.length ≤ 60
structure ShO4 (S : List Nat) (ps : List Part) : Prop extends ShOk S ps where
  b4 : ∀ p ∈ ps, Bd 40 p
instance {S : List Nat} {ps : List Part} : Coe (ShO4 S ps) (ShOk S ps) := ⟨fun h => h.toShOk⟩
end LS
namespace LS
open PySem L2 HD PM
abbrev cI (l : List Nat) : List Int := l.map fun n : Nat => (n : Int)
end LS
namespace LS
theorem cut_take (xs : List HD.D) (n : Nat) (h : n ≤ xs.length) : HD.cutD xs none (some (n : Int)) = xs.take n := by
  unfold HD.cutD
  rw [HT.sIx_none, HT.sIx_nat, List.drop_zero, Nat.sub_zero, Nat.min_eq_left h]
end LS
namespace HD
open PySem PyProof.Rows L2
def stepL {α : Type} (xs : List α) (c : Int) : List α := (sliceRange (sliceBounds none none (some c) xs.length).1 (sliceBounds none none (some c) xs.length).2.1 (sliceBounds none none (some c) xs.length).2.2).filterMap (xs[·]?)
def fStep (d : D) (o : Option Int) (Q : Sl → Prop) : Prop := match d, o with
  | .lst ds, some c => c ≠ 0 ∧ ∀ a, Q (.lst a (stepL ds c))
  | .fz ds, some c => c ≠ 0 ∧ ∀ a, Q (.lst a (stepL ds c))
  | .tup ds, some c => c = -1 ∧ Q (.ext (.tup ds.reverse))
  | _, _ => False
def dStep (ta : DT) (tp : DTO) : DT := fun Ex env Q => ta Ex env fun x env1 => tp Ex env1 fun o env2 => wd env2 x fun d => fStep d o fun sl => Q sl env2
end HD
namespace LS
namespace K02
open PySem L2 HD PM
def sp_law_whole_number : DSpec := sp_is_whole
theorem lc_filterD {g : DTG} {tt : DTT} {te : DT} {vs : List Nat} {keep : Env' → Prop} {Q : Sl → Env' → Prop} {env : Env'} (f : D → D) (p : D → Bool) (hk : keep env) (xs : List D) (hl : xs.length ≤ sizeLine)
    (h : ∀ x ∈ xs, ∀ R : Option D → Env' → Prop, R (if p x = true then some (f x) else none) env → g x env fun env1 => tt noX env1 fun b env2 => if b = true then te noX env2 fun y env3 => frzD env3 y fun d' env4 => R (some d') (wipeE env4 vs) else R none (wipeE env2 vs))
    (hQ : ∀ a, Q (.lst a ((xs.filter p).map f)) env) : lcD g tt te vs keep Q xs [] env := by
  have := lc_filter (g := g) (tt := tt) (te := te) (vs := vs) (keep := keep) (Q := Q) (fun d : D => d) f p hk xs hl h hQ
  rwa [List.map_id'] at this
end K02
end LS
namespace HD
open PySem L2
section
variable {G : GG} {N : List Str} {sc : SC} {k : Nat} {a b : Expr} {pos : Pos}
def sPar (i j : Nat) (t : DTA) : DTS := fun Ex E env => t Ex env fun xs env1 => frzDs env1 xs fun ds env2 => match ds with
  | [d, d'] => E.nx ((env2.set i (.ext d)).set j (.ext d'))
  | _ => False
end
end HD
namespace HD
open PySem L2
def enD (xs : List D) : List D := (xs.zipIdx).map fun p => D.tk [.int (p.2 : Nat), p.1]
def dEnum (ta : DT) : DTI := fun Ex env Q => ta Ex env fun x env1 => seqD env1 x fun xs k1 => Q (enD xs) k1 env1
end HD
namespace HD
open PySem PySem.Spec PyProof.Rows L2
theorem tuple_mul1 (l : Addr) (items : Array Value) (n : Nat) (dd : Option Addr) (sl : Array (Option Value)) (x : Int) (u : PySem.Tok) (c0 : (decide (x < -(2 ^ 63)) || decide (x ≥ 2 ^ 63)) = false) (c1 : (items.isEmpty || x == 1) = true) :
    PySem.Meets (Builtin.«tuple.__mul__» ⟨[.ref l, .int x u], []⟩) (fun _ R s => s.heap.get? l = some { cls := .type "tuple", dict := dd, data := .seq items n, slots := sl } ∧ R (.ok (.ret (Value.ref l))) s) :=
  .of_wp fun prog w A R s h => by
    obtain ⟨hp, g, d, tk, os⟩ := s
    obtain ⟨hl, h⟩ := h
    have f1 := AutoSeq1.idx_int
    wp_walk using wpAny_loadPart' hl
    repeat (first
      | (refine wpAny_ite_false (decide_eq_false (by rw [c0]; exact Bool.false_ne_true)) ?_; wp_walk using wpAny_loadPart' hl)
      | (refine wpAny_ite_true (decide_eq_true (by rw [c1])) ?_; wp_walk using wpAny_loadPart' hl))
    exact ⟨_, rfl, h⟩
theorem tuple_mul0 (l : Addr) (items : Array Value) (n : Nat) (dd : Option Addr) (sl : Array (Option Value)) (x : Int) (u : PySem.Tok) (c0 : (decide (x < -(2 ^ 63)) || decide (x ≥ 2 ^ 63)) = false) (c1 : (items.isEmpty || x == 1) = false) (c2 : (decide (x ≤ 0) || items.isEmpty) = true) :
    PySem.Meets (Builtin.«tuple.__mul__» ⟨[.ref l, .int x u], []⟩) (fun _ R s => s.heap.get? l = some { cls := .type "tuple", dict := dd, data := .seq items n, slots := sl } ∧
      R (.ok (.ret (Value.ref s.heap.objs.size))) { s with heap := s.heap.push { cls := Value.type "tuple", data := Data.seq #[] }, toks := s.toks }) :=
  .of_wp fun prog w A R s h => by
    obtain ⟨hp, g, d, tk, os⟩ := s
    obtain ⟨hl, h⟩ := h
    have f1 := AutoSeq1.idx_int
    wp_walk using wpAny_loadPart' hl
    repeat (first
      | (refine wpAny_ite_false (decide_eq_false (by rw [c0]; exact Bool.false_ne_true)) ?_; wp_walk using wpAny_loadPart' hl)
      | (refine wpAny_ite_false (decide_eq_false (by rw [c1]; exact Bool.false_ne_true)) ?_; wp_walk using wpAny_loadPart' hl)
      | (refine wpAny_ite_true (decide_eq_true (by rw [c2])) ?_; wp_walk using wpAny_loadPart' hl))
    exact ⟨_, rfl, h⟩
def rRepF (K : PySem.W.Frag) : R2 := fun x y H Q => ∃ l k xs, x = .ref l ∧ y = .int k ∧ SqT K H l xs ∧ 0 ≤ k ∧ k < 2 ^ 63 ∧ xs.length * k.toNat ≤ sizeLine ∧ (xs = [] ∨ k = 1 → Q (.ref l) H) ∧ (xs ≠ [] → k ≠ 1 → newT H (List.replicate k.toNat xs).flatten Q)
section
variable {X : Cx}
theorem op_repF : OpR X (binaryOp .Mult) (rRepF X.K) := by
  intro pins s σ H x y v u Q I rx ry h
  obtain ⟨l, k, xs, rfl, rfl, hT, h1, h2, hz, q1, q2⟩ := h
  cases rx
  obtain ⟨t, rfl⟩ := ry
  obtain ⟨its, r, ⟨⟨cls, dd, data, sl⟩, ho, hc, n, hd⟩, hs⟩ := I.tuple hT
  simp only at hc hd
  subst hc hd
  have hle : its.length = xs.length := r.length.symm
  have c0 : (decide (k < -(2 ^ 63)) || decide (k ≥ 2 ^ 63)) = false := by
    rw [decide_eq_false (by omega), decide_eq_false (by omega)] <;> rfl
  have hx : its.toArray.isEmpty = true ↔ xs = [] := by
    cases its with
    | nil => exact ⟨fun _ => List.eq_nil_of_length_eq_zero hle.symm, fun _ => rfl⟩
    | cons a b => exact ⟨fun z => by simp at z, fun z => by rw [z] at hle; simp at hle⟩
  refine wpAny_binaryOp_repeat_ref (T := "tuple") (U := "int") (by decide) ⟨_, ho, rfl⟩ (fun s' => typeIs_int s' k t) noFill_tuple_mul F.fills_int_mul F.slot_int_rmul repeat_tuple F.slot_int_index.lookup
    (call_meets F.slot_int_rmul (typeIs_int s k t) F.entry_int_rmul (F.args_int_rmul_2 _ _) (int_rmul_tuple k t l its.toArray n dd sl)
      ⟨ho, rfl, ⟨_, ho, rfl⟩, ?_⟩)
  by_cases c1 : (its.toArray.isEmpty || k == 1) = true
  · refine call_meets F.slot_tuple_mul ⟨_, ho, rfl⟩ F.entry_tuple_mul (F.args_tuple_mul_2 _ _) (tuple_mul1 l its.toArray n dd sl k t c0 c1) ⟨ho, ?_⟩
    refine ⟨.ref l, H, I, rfl, q1 ?_⟩
    rw [Bool.or_eq_true, hx, beq_iff_eq] at c1
    exact c1
  · have c1f : (its.toArray.isEmpty || k == 1) = false := by simpa using c1
    have hn : xs ≠ [] := fun z => c1 (by rw [Bool.or_eq_true, hx]; exact .inl z)
    have hk1 : k ≠ 1 := fun z => c1 (by rw [Bool.or_eq_true, beq_iff_eq]; exact .inr z)
    have hi : its.toArray.isEmpty = false := by
      cases e : its.toArray.isEmpty with
      | false => rfl
      | true => exact absurd (hx.1 e) hn
    have flen : (List.replicate k.toNat its).flatten.length ≤ sizeLine := by
      rw [PyProof.Rows.lm_len_rep_flat, hle, Nat.mul_comm]
      exact hz
    have flen2 : (List.replicate k.toNat xs).flatten.length ≤ sizeLine := by
      rw [PyProof.Rows.lm_len_rep_flat, Nat.mul_comm]
      exact hz
    by_cases hk0 : k = 0
    · subst hk0
      refine call_meets F.slot_tuple_mul ⟨_, ho, rfl⟩ F.entry_tuple_mul (F.args_tuple_mul_2 _ _) (tuple_mul0 l its.toArray n dd sl 0 t c0 c1f (by rw [Bool.or_eq_true]; exact .inl rfl)) ⟨ho, ?_⟩
      exact laidT (tk := s.toks) (its := []) I .nil (Nat.zero_le _) (q2 hn (by decide))
    · have c2 : (decide (k ≤ 0) || its.toArray.isEmpty) = false := by
        rw [hi, Bool.or_false]
        exact decide_eq_false (by omega)
      have hm : ((its.toArray.size : Nat) : Int) * k = ((xs.length * k.toNat : Nat) : Int) := by
        rw [List.size_toArray, hle, Int.natCast_mul, Int.toNat_of_nonneg h1]
      have hsl : ((xs.length * k.toNat : Nat) : Int) ≤ sizeLine := by omega
      have c4 : Builtin.Tuple.tupleTooMany (((its.toArray.size : Nat) : Int) * k) = false := by
        unfold Builtin.Tuple.tupleTooMany
        exact decide_eq_false (by rw [hm]; omega)
      have c3 : ¬ ((its.toArray.size : Nat) : Int) * k > (2 ^ 63 - 1) / 8 := by
        rw [hm]
        rw [sizeLine_eq] at hsl
        omega
      refine call_meets F.slot_tuple_mul ⟨_, ho, rfl⟩ F.entry_tuple_mul (F.args_tuple_mul_2 _ _) (tuple_mulW l its.toArray n dd sl k t c0 c1f c2 c3 c4 (by rw [size_rep, List.size_toArray]; exact flen)) ⟨ho, ?_⟩
      rw [size_rep]
      exact laidT (tk := s.toks) I (r.rep k.toNat) flen2 (q2 hn hk1)
end
def fMulT : D → D → (Sl → Prop) → Prop
  | .tup xs, .int k, Q => 0 ≤ k ∧ k < 2 ^ 63 ∧ xs.length * k.toNat ≤ sizeLine ∧ Q (.ext (.tup (List.replicate k.toNat xs).flatten))
  | _, _, _ => False
theorem pr_mulT {K : PySem.W.Frag} : Pr2 K (rRepF K) fMulT := fun F H v u d d' Q R fh h1 h2 hf ha => by
  unfold fMulT at hf
  split at hf
  · rename_i xs k
    obtain ⟨a, vs, rfl, e1, e2, r1⟩ := h1.tup fh
    obtain ⟨k0, k1, kz, q⟩ := hf
    refine ⟨a, k, vs, rfl, h2.int, e1, k0, k1, by rw [← r1.length]; exact kz, fun z => ?_, fun _ _ => ha.tup fh (r1.rep _) q⟩
    refine ha.ext (d := .tup _) fh ⟨a, vs, rfl, e2, ?_⟩ q
    rcases z with z | z
    · subst z
      have : xs = [] := List.eq_nil_of_length_eq_zero r1.length
      subst this
      rw [show (List.replicate k.toNat ([] : List D)).flatten = [] by simp]
      exact rfl
    · subst z
      rw [show (List.replicate (Int.toNat 1) xs).flatten = xs by simp]
      exact r1
  · exact hf.elim
theorem de_mulT {G : GG} {N : List Str} {sc : SC} {k : Nat} {a b : Expr} {ta tb : DT} {pos : Pos} (ha : DE G N sc k a ta) (hb : DE G N sc k b tb) : DE G N sc k (.BinOp a .Mult b pos) (dOp fMulT ta tb) := de_bin (r := rRepF) (fun _ => pr_mulT) (fun _ => op_repF) ha hb
def fIsB : D → D → (Sl → Prop) → Prop
  | .bl i, .bl j, Q => Q (.ext (.bl (i == j)))
  | _, _, _ => False
def fNotB : D → D → (Sl → Prop) → Prop
  | .bl i, .bl j, Q => Q (.ext (.bl (!(i == j))))
  | _, _, _ => False
theorem op_isNotB {X : Cx} : OpR X (compareOp .IsNot) (fun x y H Q => ∃ i j, x = .bl i ∧ y = .bl j ∧ Q (.bl (!(i == j))) H) := by
  intro pins s σ H x y v u Q I rx ry h
  obtain ⟨i, j, rfl, rfl, q⟩ := h
  cases (show v = Value.bool i from rx)
  cases (show u = Value.bool j from ry)
  by_cases e : i = j
  · subst e
    exact wpAny_isNot_self rfl ⟨.bl false, H, I, rfl, by simpa using q⟩
  · exact wpAny_isNot_other rfl (fun z => e (Value.bool.inj z)) ⟨.bl true, H, I, rfl, by rw [show (i == j) = false from beq_eq_false_iff_ne.mpr e] at q; exact q⟩
theorem c_isnotB : CmpR .IsNot fNotB := ⟨fun _ => _, fun K F H v u d d' Q R fh h1 h2 hf ha => by
    unfold fNotB at hf
    split at hf
    · exact ⟨_, _, h1.bl, h2.bl, ha.bl fh hf⟩
    · exact hf.elim, fun _ _ => op_isNotB⟩
end HD
namespace LS
namespace K01
open PySem L2 HD PM
open K02 (sp_law_whole_number lc_filterD)
local macro_rules | `(tactic| trivial) => `(tactic| try simp -dsimp only [↓sSeq, ↓sIf, ↓sRet, ↓retD_ext, ↓retD_lst, ↓retD_al, ↓sSet, ↓sSetE, ↓sAsg, ↓sDrop, ↓sNext, ↓sFor, ↓sRetN, ↓sCont, ↓sBreak, ↓dTest, ↓dOp, ↓dVar_w, ↓dC, ↓dCons, ↓dNil, ↓dTup, ↓dLst, ↓frzDs, ↓frzD_ext, ↓frzD_lst, ↓frzD_al, ↓wd_ext, ↓wd_lst, ↓wd_al, ↓wds, ↓AtS_ext, ↓AtS_lst, ↓AtL, ↓fAdd, ↓fSub, ↓fMul, ↓fDiv, ↓fMod, ↓fPow, ↓fCmp, ↓fIn, ↓fEq_ii, ↓fEq_ss, ↓fEq_bb, ↓fEq_tt, ↓fEq_ll, ↓fNe_ii, ↓fNe_ss, ↓fNe_bb, ↓fNe_tt, ↓fNe_ll, ↓fIx_l, ↓fIx_t, ↓fIx_k, ↓fIx_f, ↓GetS_some, ↓NatS_some, ↓fSl, ↓fIsN, ↓fNotN, ↓D.knN, ↓dNot, ↓dAnd, ↓dOr, ↓dAndV_w, ↓dOrV_w, ↓dNotV, ↓dIf, ↓dNeg, ↓dChain_w, ↓BlS_bl, ↓dCall_w, ↓dCallJ_w, ↓anyAl, ↓frozs, ↓froz, ↓gSet, ↓gTupD, ↓gsCons, ↓gsNil, ↓dSeq, ↓seqD_tup, ↓seqD_elst, ↓seqD_lst, ↓seqD_al, ↓dRange1, ↓dRange2, ↓dZip, ↓dCB, ↓dLc, ↓dYes, ↓dNoPart, ↓dPart, ↓dSl, ↓fLen, ↓fMin, ↓fMax, ↓fSum, ↓fAll, ↓fAny, ↓fSorted, ↓fTuple, ↓fList, ↓dRg1, ↓dRg2, ↓dLstRg, ↓dTupRg, ↓dIndex, ↓fIdx, ↓dAppend_w, ↓dExtend_w, ↓extD_lst, ↓dPopAt_w, ↓popD_int, ↓dPop_w, ↓mutD_w, ↓sSetItem_w, ↓setD_int, ↓dSortSet, ↓dTable_w, ↓wipeE, finals1, finals2, finals3, finals4, finals5, finals6, fin1_ext, fin1_lst, List.getElem?_cons_zero, List.getElem?_cons_succ, List.getElem?_nil, List.set_cons_zero, List.set_cons_succ, List.cons_append, List.nil_append, List.append_nil, List.replicate_succ, List.replicate_zero, List.map_cons, List.map_nil, List.length_cons, List.length_nil, true_and, and_true, ite_true, ite_false, if_true, if_false, Bool.false_eq_true, decide_eq_true_eq, Sl.plain, D.isSq, eq_self_iff_true, forall_const, reduceIte, true_or, or_true, atI_0, atI_1, atI_2, atI_3, ixN_0, ixN_1, ixN_2, AtS_ext, AtS_lst, FzS_lst, FzS_ext, GetS_some, NatS_some, ↓fIsi1, ↓fIsi2, BoolS_some, HD.kb_non_tuple, HD.kb_non_list, HD.kb_non_bool, HD.kb_non_int, HD.kb_non_str, HD.kb_bl_tuple, HD.kb_bl_list, HD.kb_bl_bool, HD.kb_bl_int, HD.kb_bl_str, HD.kb_int_tuple, HD.kb_int_list, HD.kb_int_bool, HD.kb_int_int, HD.kb_int_str, HD.kb_str_tuple, HD.kb_str_list, HD.kb_str_bool, HD.kb_str_int, HD.kb_str_str, HD.kb_lst_tuple, HD.kb_lst_list, HD.kb_lst_bool, HD.kb_lst_int, HD.kb_lst_str, HD.kb_tup_tuple, HD.kb_tup_list, HD.kb_tup_bool, HD.kb_tup_int, HD.kb_tup_str, ↓sFz_w, ↓FzS_lst, ↓FzS_ext, ↓dSortSetL, ↓fAbs, ↓fInt, ↓fRepr, ↓fLtT, ↓sRaise, ↓sTryKeep, ↓dCallV_w, ↓dMeth, ↓fCount, ↓fSplit, dStep, fStep, fMulT, fIsB, fNotB])
theorem lc_mapD {g : DTG} {te : DT} {vs : List Nat} {keep : Env' → Prop} {Q : Sl → Env' → Prop} {env : Env'} (f : D → D) (hk : keep env) (xs : List D) (hl : xs.length ≤ sizeLine)
    (h : ∀ x ∈ xs, ∀ R : D → Env' → Prop, R (f x) env → g x env fun env1 => te noX env1 fun y env3 => frzD env3 y fun d' env4 => R d' (wipeE env4 vs))
    (hQ : ∀ a, Q (.lst a (xs.map f)) env) : lcD g dYes te vs keep Q xs [] env := by
  have := lc_map (g := g) (te := te) (vs := vs) (keep := keep) (Q := Q) (fun d : D => d) f hk xs hl h hQ
  rwa [List.map_id'] at this
theorem pl_tup {k : Nat} {ds : List D} (h : D.pl (k + 1) (.tup ds) = true) : ds.length ≤ 100000 ∧ ∀ d ∈ ds, D.pl k d = true := by
  rw [D.pl, Bool.and_eq_true, List.all_eq_true, decide_eq_true_eq] at h
  exact h
theorem iD_nat {l : List Int} (h : ∀ i ∈ l, 0 ≤ i) : ∃ ns : List Nat, iD l = nD ns ∧ ns.length = l.length ∧ ∀ n ∈ ns, (n : Int) ∈ l := by
  refine ⟨l.map Int.toNat, ?_, by simp, fun n hn => ?_⟩
  · rw [iD, nD, List.map_map]
    exact List.map_congr_left fun i hi' => by
      show D.int i = D.int ((i.toNat : Nat) : Int)
      rw [Int.toNat_of_nonneg (h i hi')]
  · obtain ⟨i, hi', rfl⟩ := List.mem_map.1 hn
    rw [Int.toNat_of_nonneg (h i hi')]
    exact hi'
theorem nD_iD (ns : List Nat) : nD ns = iD (ns.map fun n : Nat => (n : Int)) := by
  rw [iD, nD, List.map_map]
  rfl
def sp_product : DSpec := sp_law_times
def b1_product : DTS :=
    (sSetE 1 (dOp fMul (dVar 1) (dVar 2)))
def k2_product : DTS :=
    (sRet (dVar 1))
def t_product : DTS :=
    (sSeq (sSetE 1 (dC (.int 1)))
    (sSeq (sFor (dSeq (dVar 0)) (gSet 2) b1_product)
    k2_product))
theorem q1_product {Ex : DX} {E : DEnds} {s0 : Sl} (l : List Nat) : ∀ (acc : Nat) (s2 : Sl), 0 < acc → (∀ x ∈ l, 0 < x) → acc * prodN l < 2 ^ 60 → (∀ u, E.nx [s0, dI (acc * prodN l : Nat), u]) →
    forD (gSet 2) b1_product (fun _ => True) Ex E (nD l) [s0, dI (acc : Nat), s2] := by
  induction l with
  | nil =>
    intro acc s2 _ _ _ hE
    refine ⟨True.intro, ?_⟩
    have := hE s2
    simpa [prodN] using this
  | cons x l ih =>
    intro acc s2 hz hp hb hE
    have hx := hp x List.mem_cons_self
    have hl := prodN_pos fun y hy => hp y (List.mem_cons_of_mem _ hy)
    have e : acc * prodN (x :: l) = acc * x * prodN l := by rw [prodN, Nat.mul_assoc]
    have hax : acc * x < 2 ^ 60 := Nat.lt_of_le_of_lt (Nat.le_mul_of_pos_right _ hl) (e ▸ hb)
    have ha : acc < 2 ^ 60 := Nat.lt_of_le_of_lt (Nat.le_mul_of_pos_right _ hx) hax
    have hx2 : x < 2 ^ 60 := Nat.lt_of_le_of_lt (Nat.le_mul_of_pos_left _ hz) hax
    rw [nD_cons, forD]
    unfold b1_product
    trivial
    refine ⟨cmulN (a := 60) (b := 60) (by simpa using ha) (by simpa using hx2) (by decide), ?_⟩
    have := ih (acc * x) (dI (x : Nat)) (Nat.mul_pos hz hx) (fun y hy => hp y (List.mem_cons_of_mem _ hy)) (e ▸ hb) (fun u => e ▸ hE u)
    rw [Int.natCast_mul] at this
    exact this
theorem m_product : Meets t_product 1 2 sp_product := by
  rintro args Qd Xd ⟨l, h, hp, hb, hQ⟩
  rcases h with rfl | rfl
  all_goals
    show t_product _ _ [_, .un, .un]
    unfold t_product
    trivial
    refine q1_product l 1 .un (by decide) hp (by rw [Nat.one_mul]; exact hb) fun u => ?_
    unfold k2_product
    trivial
    rw [Nat.one_mul]
    exact hQ _
def sp_law_are_names : DSpec := fun args Q _ => ∃ (many : Int) (d : D) (k : Nat), args = [.ext d, dI many] ∧ D.pl k d = true ∧ ∀ (b : Bool) fin, (b = true ↔ NamesD many d) → Q (.ext (.bl b)) fin
def e1_law_are_names : DT :=
    (dC (.int 1))
def e2_law_are_names : DT :=
    (dC (.int 1))
def e3_law_are_names : DT :=
    (dC (.int 1))
def k4_law_are_names : DTS :=
    (sSeq (sIf (dTest (dOp (fCmp fun i j => decide (j < i)) (dCB fLen (dCons (dLc (dSeq (dVar 0)) (gSet 2) (dOr (dTest (dOp (fCmp fun i j => decide (i < j)) (dVar 2) (dC (.int 0)))) (dTest (dOp (fCmp fun i j => decide (j ≤ i)) (dVar 2) (dVar 1)))) e2_law_are_names [2]) dNil)) (dC (.int 0)))) (sRet (dC (.bl false))) sNext)
    (sRet (dOp fEq (dCB fLen (dCons (dLc (dRange2 (dCons (dC (.int 1)) (dCons (dCB fLen (dCons (dVar 0) dNil)) dNil))) (gSet 3) (dTest (dOp (fCmp fun i j => decide (j ≤ i)) (dOp fIx (dVar 0) (dOp fSub (dVar 3) (dC (.int 1)))) (dOp fIx (dVar 0) (dVar 3)))) e3_law_are_names [3]) dNil)) (dC (.int 0)))))
def t_law_are_names : DTS :=
    (sSeq (sIf (dOr (dNot (dTest (dCB fIsi (dCons (dVar 0) (dCons (dC (.val (.ty "tuple"))) dNil))))) (dTest (dOp (fCmp fun i j => decide (j < i)) (dCB fLen (dCons (dLc (dSeq (dVar 0)) (gSet 2) (dNot (dTest (dCall sp_law_whole_number (dCons (dVar 2) dNil)))) e1_law_are_names [2]) dNil)) (dC (.int 0))))) (sRet (dC (.bl false))) sNext)
    k4_law_are_names)
theorem isInt_all {ds : List D} (h : ∀ d ∈ ds, D.isInt d = true) : ∃ l : List Int, ds = iD l := by
  induction ds with
  | nil => exact ⟨[], rfl⟩
  | cons d ds ih =>
    obtain ⟨l, rfl⟩ := ih fun e he => h e (List.mem_cons_of_mem _ he)
    have := h d List.mem_cons_self
    cases d with
    | int i => exact ⟨i :: l, rfl⟩
    | _ => simp [D.isInt] at this
theorem fil0 {α : Type} {p : α → Bool} {l : List α} : (l.filter p).length = 0 ↔ ∀ x ∈ l, p x = false := by
  rw [List.length_eq_zero_iff, List.filter_eq_nil_iff]
  exact ⟨fun h x hx => by simpa using h x hx, fun h x hx => by simp [h x hx]⟩
theorem iD_inj {a b : List Int} (h : iD a = iD b) : a = b := (List.map_inj_right (fun x y hxy => D.int.inj hxy)).1 h
theorem iD_get {l : List Int} {i : Nat} (h : i < l.length) : (iD l)[i]? = some (.int (l.getD i 0)) := by
  rw [iD, List.getElem?_map, List.getD_eq_getElem?_getD, List.getElem?_eq_getElem h]
  rfl
theorem R_ifP {α β : Type} {R : Option α → β → Prop} {x : α} {e : β} {b : Bool} {p : Prop} [Decidable p] (h : b = decide p) (hR : R (if b = true then some x else none) e) : if p then R (some x) e else R none e := by
  subst h
  by_cases hp : p
  · rw [if_pos hp]
    simpa [hp] using hR
  · rw [if_neg hp]
    simpa [hp] using hR
theorem m_law_are_names : Meets t_law_are_names 2 2 sp_law_are_names := by
  rintro args Qd Xd ⟨many, d, k, rfl, hp, hQ⟩
  have nv := pl_noVal k d hp
  show t_law_are_names _ _ [_, _, .un, .un]
  unfold t_law_are_names
  cases d with
  | val _ => cases k <;> simp [D.pl] at hp
  | fz _ => cases k <;> simp [D.pl] at hp
  | tk _ => cases k <;> simp [D.pl] at hp
  | exc _ => cases k <;> simp [D.pl] at hp
  | glo _ => cases k <;> simp [D.pl] at hp
  | dk _ _ => cases k <;> simp [D.pl] at hp
  | dt _ _ => cases k <;> simp [D.pl] at hp
  | tup ds =>
    cases k with
    | zero => simp [D.pl] at hp
    | succ k =>
      have hp := pl_tup hp
      trivial
      simp only [nv, D.isFz, true_and, Bool.not_true, Bool.false_eq_true, if_false]
      refine lc_filterD (fun _ => .int 1) (fun d => !D.isInt d) True.intro ds (Nat.le_trans hp.1 (by decide)) (fun d hd R hR => ?_) fun b => ?_
      · unfold e1_law_are_names
        trivial
        refine ⟨d, k, rfl, hp.2 d hd, fun fin => ?_⟩
        trivial
        exact R_if (by cases D.isInt d <;> simp) hR
      trivial
      rw [List.length_map]
      by_cases hi : ∀ d ∈ ds, D.isInt d = true
      · have e0 : (ds.filter fun d => !D.isInt d).length = 0 := fil0.2 fun d hd => by simp [hi d hd]
        rw [e0, if_neg (by decide)]
        obtain ⟨l, rfl⟩ := isInt_all hi
        rw [iD_len] at hp
        unfold k4_law_are_names
        trivial
        refine lc_filter D.int (fun _ => .int 1) (fun i => decide (i < 0) || decide (many ≤ i)) True.intro l (Nat.le_trans hp.1 (by decide)) (fun i hi' R hR => ?_) fun b => ?_
        · unfold e2_law_are_names
          trivial
          by_cases h1 : i < 0
          · rw [if_pos h1]
            simpa [h1] using hR
          · rw [if_neg h1]
            trivial
            refine R_ifP ?_ hR
            simp [h1]
        trivial
        rw [List.length_map]
        by_cases hr : ∀ i ∈ l, 0 ≤ i ∧ i < many
        · have e1 : (l.filter fun i => decide (i < 0) || decide (many ≤ i)).length = 0 := fil0.2 fun i hi' => by
            have := hr i hi'
            simp; omega
          rw [e1, if_neg (by decide)]
          trivial
          rw [iD_len]
          refine ⟨⟨by omega, by omega⟩, ⟨by omega, by omega⟩, ?_⟩
          have er : rgD 1 (l.length : Int) = (List.range (l.length - 1)).map fun i : Nat => D.int ((i + 1 : Nat) : Int) := by
            unfold rgD
            rw [show ((l.length : Int) - 1).toNat = l.length - 1 by omega]
            exact List.map_congr_left fun i _ => by rw [Int.natCast_add, Int.add_comm]; rfl
          rw [er]
          refine lc_filter (fun i : Nat => D.int ((i + 1 : Nat) : Int)) (fun _ => .int 1) (fun i => decide (l.getD (i + 1) 0 ≤ l.getD i 0)) True.intro (List.range (l.length - 1)) (Nat.le_trans (by rw [List.length_range]; omega : _ ≤ 100000) (by decide)) (fun i hi' R hR => ?_) fun b => ?_
          · have hil := List.mem_range.1 hi'
            unfold e3_law_are_names
            trivial
            rw [show (((i + 1 : Nat) : Int) - 1) = ((i : Nat) : Int) by omega]
            refine ⟨_, atN (iD_get (l := l) (i := i) (by omega)), ?_⟩
            trivial
            refine ⟨_, atN (iD_get (l := l) (i := i + 1) (by omega)), ?_⟩
            trivial
            exact R_ifP rfl hR
          trivial
          rw [List.length_map]
          refine hQ _ _ ?_
          obtain ⟨ns, e, eS, hns⟩ := iD_nat (l := l) fun i hi' => (hr i hi').1
          have el : l = ns.map fun n : Nat => (n : Int) := iD_inj (e.trans (nD_iD ns))
          rw [beq_iff_eq, show ((((List.range (l.length - 1)).filter fun i => decide (l.getD (i + 1) 0 ≤ l.getD i 0)).length : Nat) : Int) = 0 ↔ ((List.range (l.length - 1)).filter fun i => decide (l.getD (i + 1) 0 ≤ l.getD i 0)).length = 0 by omega, fil0, e]
          have eg : ∀ i, l.getD i 0 = ((ns.getD i 0 : Nat) : Int) := fun i => by
            rw [el, List.getD_eq_getElem?_getD, List.getElem?_map, List.getD_eq_getElem?_getD]
            cases ns[i]? <;> rfl
          have hm : ∀ n ∈ ns, (n : Int) < many := fun n hn => (hr _ (hns n hn)).2
          constructor
          · intro h
            refine ⟨ns, rfl, rising_adj.2 fun j hj => ?_, hm⟩
            have := h j (List.mem_range.2 (by omega))
            rw [eg, eg] at this
            simpa using this
          · rintro ⟨ns', e', hr', _⟩ j hj
            have := nD_inj (D.tup.inj e')
            subst this
            have := rising_adj.1 hr' j (by have := List.mem_range.1 hj; omega)
            rw [eg, eg]
            simpa using this
        · have e1 : ¬ (l.filter fun i => decide (i < 0) || decide (many ≤ i)).length = 0 := fun h => hr fun i hi' => by
            have := fil0.1 h i hi'
            simp at this
            omega
          rw [if_pos (by omega)]
          refine hQ _ _ ⟨fun z => by simp at z, ?_⟩
          rintro ⟨ns, e, _, hn⟩
          have := iD_inj ((D.tup.inj e).trans (nD_iD ns))
          subst this
          refine absurd (fun i hi' => ?_) hr
          obtain ⟨n, hn', rfl⟩ := List.mem_map.1 hi'
          exact ⟨by omega, hn n hn'⟩
      · have e0 : ¬ (ds.filter fun d => !D.isInt d).length = 0 := fun h => hi fun d hd => by simpa using fil0.1 h d hd
        rw [if_pos (by omega)]
        refine hQ _ _ ⟨fun z => by simp at z, ?_⟩
        rintro ⟨ns, e, _, hn⟩
        have := D.tup.inj e
        subst this
        refine absurd (fun d hd => ?_) hi
        obtain ⟨n, _, rfl⟩ := List.mem_map.1 hd
        rfl
  | _ =>
    trivial
    simp only [nv, D.isFz, true_and, Bool.not_false, if_true]
    exact hQ _ _ ⟨fun z => by simp at z, fun ⟨_, e, _⟩ => by simp at e⟩
end K01
end LS
namespace HD
open PySem L2
theorem seq_setE (i : Nat) (t : DT) (u : DTS) (Ex : DX) (E : DEnds) (env : Env') : sSeq (sSetE i t) u Ex E env = t Ex env fun x env1 => frzD env1 x fun d env2 => u Ex E (env2.set i (.ext d)) := rfl
theorem seq_set (i : Nat) (t : DT) (u : DTS) (Ex : DX) (E : DEnds) (env : Env') : sSeq (sSet i t) u Ex E env = t Ex env fun x env1 => retD env1 x fun r env2 => u Ex E (env2.set i r) := rfl
theorem seq_drop (t : DT) (u : DTS) (Ex : DX) (E : DEnds) (env : Env') : sSeq (sDrop t) u Ex E env = t Ex env fun _ env1 => u Ex E env1 := rfl
theorem seq_asg (t : DT) (g : DTG) (u : DTS) (Ex : DX) (E : DEnds) (env : Env') : sSeq (sAsg t g) u Ex E env = t Ex env fun x env1 => frzD env1 x fun d env2 => g d env2 fun env3 => u Ex E env3 := rfl
theorem seq_if (c : DTT) (t v : DTS) (u : DTS) (Ex : DX) (E : DEnds) (env : Env') : sSeq (sIf c t v) u Ex E env = c Ex env fun b env1 => if b = true then t Ex { E with nx := fun env1 => u Ex E env1 } env1 else v Ex { E with nx := fun env1 => u Ex E env1 } env1 := rfl
theorem seq_for (ti : DTI) (g : DTG) (b : DTS) (u : DTS) (Ex : DX) (E : DEnds) (env : Env') : sSeq (sFor ti g b) u Ex E env = ti Ex env fun items keep env1 => forD g b keep Ex { E with nx := fun env1 => u Ex E env1 } items env1 := rfl
theorem dv0 (d : D) (r : Env') (Ex : DX) (Q : Sl → Env' → Prop) : dVar 0 Ex (.ext d :: r) Q = Q (.ext d) (.ext d :: r) := rfl
theorem dw0 (a : Addr) (ds : List D) (r : Env') (Ex : DX) (Q : Sl → Env' → Prop) : dVar 0 Ex (.lst a ds :: r) Q = Q (.al 0 a) (.lst a ds :: r) := rfl
theorem dv1 (s0 : Sl) (d : D) (r : Env') (Ex : DX) (Q : Sl → Env' → Prop) : dVar 1 Ex (s0 :: .ext d :: r) Q = Q (.ext d) (s0 :: .ext d :: r) := rfl
theorem dw1 (s0 : Sl) (a : Addr) (ds : List D) (r : Env') (Ex : DX) (Q : Sl → Env' → Prop) : dVar 1 Ex (s0 :: .lst a ds :: r) Q = Q (.al 1 a) (s0 :: .lst a ds :: r) := rfl
theorem dv2 (s0 s1 : Sl) (d : D) (r : Env') (Ex : DX) (Q : Sl → Env' → Prop) : dVar 2 Ex (s0 :: s1 :: .ext d :: r) Q = Q (.ext d) (s0 :: s1 :: .ext d :: r) := rfl
theorem dw2 (s0 s1 : Sl) (a : Addr) (ds : List D) (r : Env') (Ex : DX) (Q : Sl → Env' → Prop) : dVar 2 Ex (s0 :: s1 :: .lst a ds :: r) Q = Q (.al 2 a) (s0 :: s1 :: .lst a ds :: r) := rfl
theorem dv3 (s0 s1 s2 : Sl) (d : D) (r : Env') (Ex : DX) (Q : Sl → Env' → Prop) : dVar 3 Ex (s0 :: s1 :: s2 :: .ext d :: r) Q = Q (.ext d) (s0 :: s1 :: s2 :: .ext d :: r) := rfl
theorem dw3 (s0 s1 s2 : Sl) (a : Addr) (ds : List D) (r : Env') (Ex : DX) (Q : Sl → Env' → Prop) : dVar 3 Ex (s0 :: s1 :: s2 :: .lst a ds :: r) Q = Q (.al 3 a) (s0 :: s1 :: s2 :: .lst a ds :: r) := rfl
theorem dv4 (s0 s1 s2 s3 : Sl) (d : D) (r : Env') (Ex : DX) (Q : Sl → Env' → Prop) : dVar 4 Ex (s0 :: s1 :: s2 :: s3 :: .ext d :: r) Q = Q (.ext d) (s0 :: s1 :: s2 :: s3 :: .ext d :: r) := rfl
theorem dw4 (s0 s1 s2 s3 : Sl) (a : Addr) (ds : List D) (r : Env') (Ex : DX) (Q : Sl → Env' → Prop) : dVar 4 Ex (s0 :: s1 :: s2 :: s3 :: .lst a ds :: r) Q = Q (.al 4 a) (s0 :: s1 :: s2 :: s3 :: .lst a ds :: r) := rfl
theorem dv5 (s0 s1 s2 s3 s4 : Sl) (d : D) (r : Env') (Ex : DX) (Q : Sl → Env' → Prop) : dVar 5 Ex (s0 :: s1 :: s2 :: s3 :: s4 :: .ext d :: r) Q = Q (.ext d) (s0 :: s1 :: s2 :: s3 :: s4 :: .ext d :: r) := rfl
theorem dw5 (s0 s1 s2 s3 s4 : Sl) (a : Addr) (ds : List D) (r : Env') (Ex : DX) (Q : Sl → Env' → Prop) : dVar 5 Ex (s0 :: s1 :: s2 :: s3 :: s4 :: .lst a ds :: r) Q = Q (.al 5 a) (s0 :: s1 :: s2 :: s3 :: s4 :: .lst a ds :: r) := rfl
theorem dv6 (s0 s1 s2 s3 s4 s5 : Sl) (d : D) (r : Env') (Ex : DX) (Q : Sl → Env' → Prop) : dVar 6 Ex (s0 :: s1 :: s2 :: s3 :: s4 :: s5 :: .ext d :: r) Q = Q (.ext d) (s0 :: s1 :: s2 :: s3 :: s4 :: s5 :: .ext d :: r) := rfl
theorem dw6 (s0 s1 s2 s3 s4 s5 : Sl) (a : Addr) (ds : List D) (r : Env') (Ex : DX) (Q : Sl → Env' → Prop) : dVar 6 Ex (s0 :: s1 :: s2 :: s3 :: s4 :: s5 :: .lst a ds :: r) Q = Q (.al 6 a) (s0 :: s1 :: s2 :: s3 :: s4 :: s5 :: .lst a ds :: r) := rfl
theorem dv7 (s0 s1 s2 s3 s4 s5 s6 : Sl) (d : D) (r : Env') (Ex : DX) (Q : Sl → Env' → Prop) : dVar 7 Ex (s0 :: s1 :: s2 :: s3 :: s4 :: s5 :: s6 :: .ext d :: r) Q = Q (.ext d) (s0 :: s1 :: s2 :: s3 :: s4 :: s5 :: s6 :: .ext d :: r) := rfl
theorem dw7 (s0 s1 s2 s3 s4 s5 s6 : Sl) (a : Addr) (ds : List D) (r : Env') (Ex : DX) (Q : Sl → Env' → Prop) : dVar 7 Ex (s0 :: s1 :: s2 :: s3 :: s4 :: s5 :: s6 :: .lst a ds :: r) Q = Q (.al 7 a) (s0 :: s1 :: s2 :: s3 :: s4 :: s5 :: s6 :: .lst a ds :: r) := rfl
theorem dv8 (s0 s1 s2 s3 s4 s5 s6 s7 : Sl) (d : D) (r : Env') (Ex : DX) (Q : Sl → Env' → Prop) : dVar 8 Ex (s0 :: s1 :: s2 :: s3 :: s4 :: s5 :: s6 :: s7 :: .ext d :: r) Q = Q (.ext d) (s0 :: s1 :: s2 :: s3 :: s4 :: s5 :: s6 :: s7 :: .ext d :: r) := rfl
theorem dw8 (s0 s1 s2 s3 s4 s5 s6 s7 : Sl) (a : Addr) (ds : List D) (r : Env') (Ex : DX) (Q : Sl → Env' → Prop) : dVar 8 Ex (s0 :: s1 :: s2 :: s3 :: s4 :: s5 :: s6 :: s7 :: .lst a ds :: r) Q = Q (.al 8 a) (s0 :: s1 :: s2 :: s3 :: s4 :: s5 :: s6 :: s7 :: .lst a ds :: r) := rfl
theorem dv9 (s0 s1 s2 s3 s4 s5 s6 s7 s8 : Sl) (d : D) (r : Env') (Ex : DX) (Q : Sl → Env' → Prop) : dVar 9 Ex (s0 :: s1 :: s2 :: s3 :: s4 :: s5 :: s6 :: s7 :: s8 :: .ext d :: r) Q = Q (.ext d) (s0 :: s1 :: s2 :: s3 :: s4 :: s5 :: s6 :: s7 :: s8 :: .ext d :: r) := rfl
theorem dw9 (s0 s1 s2 s3 s4 s5 s6 s7 s8 : Sl) (a : Addr) (ds : List D) (r : Env') (Ex : DX) (Q : Sl → Env' → Prop) : dVar 9 Ex (s0 :: s1 :: s2 :: s3 :: s4 :: s5 :: s6 :: s7 :: s8 :: .lst a ds :: r) Q = Q (.al 9 a) (s0 :: s1 :: s2 :: s3 :: s4 :: s5 :: s6 :: s7 :: s8 :: .lst a ds :: r) := rfl
theorem dv10 (s0 s1 s2 s3 s4 s5 s6 s7 s8 s9 : Sl) (d : D) (r : Env') (Ex : DX) (Q : Sl → Env' → Prop) : dVar 10 Ex (s0 :: s1 :: s2 :: s3 :: s4 :: s5 :: s6 :: s7 :: s8 :: s9 :: .ext d :: r) Q = Q (.ext d) (s0 :: s1 :: s2 :: s3 :: s4 :: s5 :: s6 :: s7 :: s8 :: s9 :: .ext d :: r) := rfl
theorem dw10 (s0 s1 s2 s3 s4 s5 s6 s7 s8 s9 : Sl) (a : Addr) (ds : List D) (r : Env') (Ex : DX) (Q : Sl → Env' → Prop) : dVar 10 Ex (s0 :: s1 :: s2 :: s3 :: s4 :: s5 :: s6 :: s7 :: s8 :: s9 :: .lst a ds :: r) Q = Q (.al 10 a) (s0 :: s1 :: s2 :: s3 :: s4 :: s5 :: s6 :: s7 :: s8 :: s9 :: .lst a ds :: r) := rfl
theorem dv11 (s0 s1 s2 s3 s4 s5 s6 s7 s8 s9 s10 : Sl) (d : D) (r : Env') (Ex : DX) (Q : Sl → Env' → Prop) : dVar 11 Ex (s0 :: s1 :: s2 :: s3 :: s4 :: s5 :: s6 :: s7 :: s8 :: s9 :: s10 :: .ext d :: r) Q = Q (.ext d) (s0 :: s1 :: s2 :: s3 :: s4 :: s5 :: s6 :: s7 :: s8 :: s9 :: s10 :: .ext d :: r) := rfl
theorem dw11 (s0 s1 s2 s3 s4 s5 s6 s7 s8 s9 s10 : Sl) (a : Addr) (ds : List D) (r : Env') (Ex : DX) (Q : Sl → Env' → Prop) : dVar 11 Ex (s0 :: s1 :: s2 :: s3 :: s4 :: s5 :: s6 :: s7 :: s8 :: s9 :: s10 :: .lst a ds :: r) Q = Q (.al 11 a) (s0 :: s1 :: s2 :: s3 :: s4 :: s5 :: s6 :: s7 :: s8 :: s9 :: s10 :: .lst a ds :: r) := rfl
theorem dv12 (s0 s1 s2 s3 s4 s5 s6 s7 s8 s9 s10 s11 : Sl) (d : D) (r : Env') (Ex : DX) (Q : Sl → Env' → Prop) : dVar 12 Ex (s0 :: s1 :: s2 :: s3 :: s4 :: s5 :: s6 :: s7 :: s8 :: s9 :: s10 :: s11 :: .ext d :: r) Q = Q (.ext d) (s0 :: s1 :: s2 :: s3 :: s4 :: s5 :: s6 :: s7 :: s8 :: s9 :: s10 :: s11 :: .ext d :: r) := rfl
theorem dw12 (s0 s1 s2 s3 s4 s5 s6 s7 s8 s9 s10 s11 : Sl) (a : Addr) (ds : List D) (r : Env') (Ex : DX) (Q : Sl → Env' → Prop) : dVar 12 Ex (s0 :: s1 :: s2 :: s3 :: s4 :: s5 :: s6 :: s7 :: s8 :: s9 :: s10 :: s11 :: .lst a ds :: r) Q = Q (.al 12 a) (s0 :: s1 :: s2 :: s3 :: s4 :: s5 :: s6 :: s7 :: s8 :: s9 :: s10 :: s11 :: .lst a ds :: r) := rfl
theorem dv13 (s0 s1 s2 s3 s4 s5 s6 s7 s8 s9 s10 s11 s12 : Sl) (d : D) (r : Env') (Ex : DX) (Q : Sl → Env' → Prop) : dVar 13 Ex (s0 :: s1 :: s2 :: s3 :: s4 :: s5 :: s6 :: s7 :: s8 :: s9 :: s10 :: s11 :: s12 :: .ext d :: r) Q = Q (.ext d) (s0 :: s1 :: s2 :: s3 :: s4 :: s5 :: s6 :: s7 :: s8 :: s9 :: s10 :: s11 :: s12 :: .ext d :: r) := rfl
theorem dw13 (s0 s1 s2 s3 s4 s5 s6 s7 s8 s9 s10 s11 s12 : Sl) (a : Addr) (ds : List D) (r : Env') (Ex : DX) (Q : Sl → Env' → Prop) : dVar 13 Ex (s0 :: s1 :: s2 :: s3 :: s4 :: s5 :: s6 :: s7 :: s8 :: s9 :: s10 :: s11 :: s12 :: .lst a ds :: r) Q = Q (.al 13 a) (s0 :: s1 :: s2 :: s3 :: s4 :: s5 :: s6 :: s7 :: s8 :: s9 :: s10 :: s11 :: s12 :: .lst a ds :: r) := rfl
theorem dv14 (s0 s1 s2 s3 s4 s5 s6 s7 s8 s9 s10 s11 s12 s13 : Sl) (d : D) (r : Env') (Ex : DX) (Q : Sl → Env' → Prop) : dVar 14 Ex (s0 :: s1 :: s2 :: s3 :: s4 :: s5 :: s6 :: s7 :: s8 :: s9 :: s10 :: s11 :: s12 :: s13 :: .ext d :: r) Q = Q (.ext d) (s0 :: s1 :: s2 :: s3 :: s4 :: s5 :: s6 :: s7 :: s8 :: s9 :: s10 :: s11 :: s12 :: s13 :: .ext d :: r) := rfl
theorem dw14 (s0 s1 s2 s3 s4 s5 s6 s7 s8 s9 s10 s11 s12 s13 : Sl) (a : Addr) (ds : List D) (r : Env') (Ex : DX) (Q : Sl → Env' → Prop) : dVar 14 Ex (s0 :: s1 :: s2 :: s3 :: s4 :: s5 :: s6 :: s7 :: s8 :: s9 :: s10 :: s11 :: s12 :: s13 :: .lst a ds :: r) Q = Q (.al 14 a) (s0 :: s1 :: s2 :: s3 :: s4 :: s5 :: s6 :: s7 :: s8 :: s9 :: s10 :: s11 :: s12 :: s13 :: .lst a ds :: r) := rfl
theorem dv15 (s0 s1 s2 s3 s4 s5 s6 s7 s8 s9 s10 s11 s12 s13 s14 : Sl) (d : D) (r : Env') (Ex : DX) (Q : Sl → Env' → Prop) : dVar 15 Ex (s0 :: s1 :: s2 :: s3 :: s4 :: s5 :: s6 :: s7 :: s8 :: s9 :: s10 :: s11 :: s12 :: s13 :: s14 :: .ext d :: r) Q = Q (.ext d) (s0 :: s1 :: s2 :: s3 :: s4 :: s5 :: s6 :: s7 :: s8 :: s9 :: s10 :: s11 :: s12 :: s13 :: s14 :: .ext d :: r) := rfl
theorem dw15 (s0 s1 s2 s3 s4 s5 s6 s7 s8 s9 s10 s11 s12 s13 s14 : Sl) (a : Addr) (ds : List D) (r : Env') (Ex : DX) (Q : Sl → Env' → Prop) : dVar 15 Ex (s0 :: s1 :: s2 :: s3 :: s4 :: s5 :: s6 :: s7 :: s8 :: s9 :: s10 :: s11 :: s12 :: s13 :: s14 :: .lst a ds :: r) Q = Q (.al 15 a) (s0 :: s1 :: s2 :: s3 :: s4 :: s5 :: s6 :: s7 :: s8 :: s9 :: s10 :: s11 :: s12 :: s13 :: s14 :: .lst a ds :: r) := rfl
theorem dv16 (s0 s1 s2 s3 s4 s5 s6 s7 s8 s9 s10 s11 s12 s13 s14 s15 : Sl) (d : D) (r : Env') (Ex : DX) (Q : Sl → Env' → Prop) : dVar 16 Ex (s0 :: s1 :: s2 :: s3 :: s4 :: s5 :: s6 :: s7 :: s8 :: s9 :: s10 :: s11 :: s12 :: s13 :: s14 :: s15 :: .ext d :: r) Q = Q (.ext d) (s0 :: s1 :: s2 :: s3 :: s4 :: s5 :: s6 :: s7 :: s8 :: s9 :: s10 :: s11 :: s12 :: s13 :: s14 :: s15 :: .ext d :: r) := rfl
theorem dw16 (s0 s1 s2 s3 s4 s5 s6 s7 s8 s9 s10 s11 s12 s13 s14 s15 : Sl) (a : Addr) (ds : List D) (r : Env') (Ex : DX) (Q : Sl → Env' → Prop) : dVar 16 Ex (s0 :: s1 :: s2 :: s3 :: s4 :: s5 :: s6 :: s7 :: s8 :: s9 :: s10 :: s11 :: s12 :: s13 :: s14 :: s15 :: .lst a ds :: r) Q = Q (.al 16 a) (s0 :: s1 :: s2 :: s3 :: s4 :: s5 :: s6 :: s7 :: s8 :: s9 :: s10 :: s11 :: s12 :: s13 :: s14 :: s15 :: .lst a ds :: r) := rfl
theorem dv17 (s0 s1 s2 s3 s4 s5 s6 s7 s8 s9 s10 s11 s12 s13 s14 s15 s16 : Sl) (d : D) (r : Env') (Ex : DX) (Q : Sl → Env' → Prop) : dVar 17 Ex (s0 :: s1 :: s2 :: s3 :: s4 :: s5 :: s6 :: s7 :: s8 :: s9 :: s10 :: s11 :: s12 :: s13 :: s14 :: s15 :: s16 :: .ext d :: r) Q = Q (.ext d) (s0 :: s1 :: s2 :: s3 :: s4 :: s5 :: s6 :: s7 :: s8 :: s9 :: s10 :: s11 :: s12 :: s13 :: s14 :: s15 :: s16 :: .ext d :: r) := rfl
theorem dw17 (s0 s1 s2 s3 s4 s5 s6 s7 s8 s9 s10 s11 s12 s13 s14 s15 s16 : Sl) (a : Addr) (ds : List D) (r : Env') (Ex : DX) (Q : Sl → Env' → Prop) : dVar 17 Ex (s0 :: s1 :: s2 :: s3 :: s4 :: s5 :: s6 :: s7 :: s8 :: s9 :: s10 :: s11 :: s12 :: s13 :: s14 :: s15 :: s16 :: .lst a ds :: r) Q = Q (.al 17 a) (s0 :: s1 :: s2 :: s3 :: s4 :: s5 :: s6 :: s7 :: s8 :: s9 :: s10 :: s11 :: s12 :: s13 :: s14 :: s15 :: s16 :: .lst a ds :: r) := rfl
theorem dv18 (s0 s1 s2 s3 s4 s5 s6 s7 s8 s9 s10 s11 s12 s13 s14 s15 s16 s17 : Sl) (d : D) (r : Env') (Ex : DX) (Q : Sl → Env' → Prop) : dVar 18 Ex (s0 :: s1 :: s2 :: s3 :: s4 :: s5 :: s6 :: s7 :: s8 :: s9 :: s10 :: s11 :: s12 :: s13 :: s14 :: s15 :: s16 :: s17 :: .ext d :: r) Q = Q (.ext d) (s0 :: s1 :: s2 :: s3 :: s4 :: s5 :: s6 :: s7 :: s8 :: s9 :: s10 :: s11 :: s12 :: s13 :: s14 :: s15 :: s16 :: s17 :: .ext d :: r) := rfl
theorem dw18 (s0 s1 s2 s3 s4 s5 s6 s7 s8 s9 s10 s11 s12 s13 s14 s15 s16 s17 : Sl) (a : Addr) (ds : List D) (r : Env') (Ex : DX) (Q : Sl → Env' → Prop) : dVar 18 Ex (s0 :: s1 :: s2 :: s3 :: s4 :: s5 :: s6 :: s7 :: s8 :: s9 :: s10 :: s11 :: s12 :: s13 :: s14 :: s15 :: s16 :: s17 :: .lst a ds :: r) Q = Q (.al 18 a) (s0 :: s1 :: s2 :: s3 :: s4 :: s5 :: s6 :: s7 :: s8 :: s9 :: s10 :: s11 :: s12 :: s13 :: s14 :: s15 :: s16 :: s17 :: .lst a ds :: r) := rfl
theorem dv19 (s0 s1 s2 s3 s4 s5 s6 s7 s8 s9 s10 s11 s12 s13 s14 s15 s16 s17 s18 : Sl) (d : D) (r : Env') (Ex : DX) (Q : Sl → Env' → Prop) : dVar 19 Ex (s0 :: s1 :: s2 :: s3 :: s4 :: s5 :: s6 :: s7 :: s8 :: s9 :: s10 :: s11 :: s12 :: s13 :: s14 :: s15 :: s16 :: s17 :: s18 :: .ext d :: r) Q = Q (.ext d) (s0 :: s1 :: s2 :: s3 :: s4 :: s5 :: s6 :: s7 :: s8 :: s9 :: s10 :: s11 :: s12 :: s13 :: s14 :: s15 :: s16 :: s17 :: s18 :: .ext d :: r) := rfl
theorem dw19 (s0 s1 s2 s3 s4 s5 s6 s7 s8 s9 s10 s11 s12 s13 s14 s15 s16 s17 s18 : Sl) (a : Addr) (ds : List D) (r : Env') (Ex : DX) (Q : Sl → Env' → Prop) : dVar 19 Ex (s0 :: s1 :: s2 :: s3 :: s4 :: s5 :: s6 :: s7 :: s8 :: s9 :: s10 :: s11 :: s12 :: s13 :: s14 :: s15 :: s16 :: s17 :: s18 :: .lst a ds :: r) Q = Q (.al 19 a) (s0 :: s1 :: s2 :: s3 :: s4 :: s5 :: s6 :: s7 :: s8 :: s9 :: s10 :: s11 :: s12 :: s13 :: s14 :: s15 :: s16 :: s17 :: s18 :: .lst a ds :: r) := rfl
end HD
namespace HD
open PySem PyProof.Rows L2
section
variable {G : GG} {N : List Str} {sc : SC} {k : Nat} {a b : Expr} {ta tb : DT} {p p2 pos pos2 : Pos}
def dListZip (ta tb : DT) : DT := fun Ex env Q => ta Ex env fun x env1 => tb Ex env1 fun y env2 => seqD env2 x fun xs _ => seqD env2 y fun ys _ => ∀ a, Q (.lst a ((xs.zip ys).map fun p => D.tk [p.1, p.2])) env2
end
end HD
namespace HD
open PySem PyProof.Rows L2
theorem retD_reg (env : Env') (a : D) (cs : List (Addr × OC)) (q : Sl → Env' → Prop) : retD env (.reg a cs) q = q (.reg a cs) env := rfl
def nestC (a : Addr) (xs : List (Addr × List D)) : List (Addr × OC) := (a, .lst (xs.map fun p => .val (.ref p.1))) :: xs.map fun p => (p.1, .lst p.2)
abbrev nestS (a : Addr) (xs : List (Addr × List D)) : Sl := .reg (.val (.ref a)) (nestC a xs)
section
variable {K : PySem.W.Frag} {e : Ent} {env : Env'} {T : Tmp} {F : Hp} {σ : L2.St} {H : Hp}
theorem Holds.writeR {i : Nat} {sl sl' : Sl} {b : Addr} {o : HO} (h : Holds K e env T F σ H) (hi : env[i]? = some sl) (hb : b ∈ sl.owned) (own : sl'.owned = sl.owned) (ok : ∀ v, SlOk K F H v sl → SlOk K F (upd H b o) v sl') (hu : sl ≠ .un) : Holds K e (env.set i sl') T F σ (upd H b o) := by
  obtain ⟨A, B, e1, e2⟩ := splitE hi
  have own' : ownedE (env.set i sl') = ownedE env := by rw [e1, e2, own]
  have mb : b ∈ ownedE env := mem_ownedE hi hb
  have mm : b ∈ ownedE env ++ ownedT T := List.mem_append_left _ mb
  obtain ⟨Fn, _⟩ := h.ownedH b mm
  refine ⟨fun c o' q => ?_, by rw [List.length_set]; exact h.len, fun j s q => ?_, fun p hp => (h.temps p hp).write fun m => ?_, by rw [own']; exact h.nd, h.s1, fun c o' q n => ?_, by rw [own']; exact h.s3⟩
  · have nb : c ≠ b := fun z => by
      rw [z, Fn] at q
      cases q
    rw [upd_ne nb]
    exact h.fh c o' q
  · rw [List.getElem?_set] at q
    split at q
    · rename_i ij
      subst ij
      split at q
      · cases q
        right
        rcases h.slots i _ hi with z | ⟨v, hv, q1⟩
        · exact absurd z hu
        · exact ⟨v, hv, ok v q1⟩
      · cases q
    · rename_i ij
      rcases h.slots j s q with z | ⟨v, hv, ok'⟩
      · exact .inl z
      · exact .inr ⟨v, hv, ok'.write fun m => ij (owned_two h.nd hi q hb m)⟩
  · exact (List.nodup_append.mp h.nd).2.2 b mb b (List.mem_flatMap.mpr ⟨p, hp, m⟩) rfl
  · have nb : c ≠ b := fun z => by
      subst z
      rcases h.s3 c mm with y | y
      · exact n y
      · rw [q] at y
        cases y
    rw [upd_ne nb]
    exact h.s2 c o' q n
end
section
variable {G : GG} {N : List Str} {sc : SC} {k : Nat} {a b : Expr} {ta tb : DT} {apos cpos spos py pos : Pos} {x : Str}
def dNApp (i : Nat) (tI te : DT) : DT := fun Ex env Q => (∃ a0 xs0, env[i]? = some (nestS a0 xs0)) ∧ tI Ex env fun z env1 => match z with
  | .ext (.int n) => ∃ a1 xs b ds, env1[i]? = some (nestS a1 xs) ∧ atI xs n = some (b, ds) ∧ te Ex env1 fun y env2 => frzD env2 y fun d env3 =>
      ∃ a2 xs' j ds', env3[i]? = some (nestS a2 xs') ∧ xs'[j]? = some (b, ds') ∧ ds'.length < sizeLine ∧ Q (.ext .non) (env3.set i (nestS a2 (xs'.set j (b, ds' ++ [d]))))
  | _ => False
end
section
variable {K : PySem.W.Frag} {e : Ent} {env : Env'} {T : Tmp} {F : Hp} {σ : L2.St} {H H' : Hp}
theorem SlOk.eqOn {v : V} {sl : Sl} (h : ∀ c ∈ sl.owned, H' c = H c) (ok : SlOk K F H v sl) : SlOk K F H' v sl := by
  cases sl with
  | un => trivial
  | ext d => exact ok
  | al i a => exact ok
  | lst a ds =>
    obtain ⟨h1, h2, vs, h3, h4⟩ := ok
    exact ⟨h1, h2, vs, by rw [h a (List.mem_singleton.mpr rfl)]; exact h3, h4⟩
  | ar i a => exact ok
  | reg a cs =>
    obtain ⟨h1, h2, h3⟩ := ok
    refine ⟨h1, h2, fun p hp => ?_⟩
    obtain ⟨n, o, ho, okc⟩ := h3 p hp
    exact ⟨n, o, by rw [h p.1 (List.mem_map.mpr ⟨p, hp, rfl⟩)]; exact ho, okc⟩
theorem Holds.retop {v : V} {sl sl' : Sl} (h : Holds K e env ((v, sl) :: T) F σ H) (hH : ∀ c, c ∉ sl'.owned → H' c = H c) (new : ∀ c ∈ sl'.owned, c ∈ sl.owned ∨ H c = none) (ok : SlOk K F H' v sl') : Holds K e env ((v, sl') :: T) F σ H' := by
  have old := h.ownedH
  have nd := h.nd
  have nd1 : (ownedE env ++ (sl.owned ++ ownedT T)).Nodup := nd
  obtain ⟨n1, n2, n3⟩ := List.nodup_append.mp nd1
  obtain ⟨n4, n5, n6⟩ := List.nodup_append.mp n2
  have outE : ∀ c ∈ ownedE env, c ∉ sl'.owned := fun c hc m => by
    rcases new c m with z | z
    · exact n3 c hc c (List.mem_append_left _ z) rfl
    · obtain ⟨_, o, q⟩ := old c (List.mem_append_left _ hc)
      rw [z] at q
      cases q
  have outT : ∀ c ∈ ownedT T, c ∉ sl'.owned := fun c hc m => by
    rcases new c m with z | z
    · exact n6 c z c hc rfl
    · obtain ⟨_, o, q⟩ := old c (List.mem_append_right _ (List.mem_append_right _ hc))
      rw [z] at q
      cases q
  have hA : ∀ c o, e.H0 c = some o → c ∉ e.A0 → c ∉ sl'.owned := fun c o q n m => by
    rcases new c m with z | z
    · rcases h.s3 c (List.mem_append_right _ (List.mem_append_left _ z)) with y | y
      · exact n y
      · rw [q] at y
        cases y
    · rw [(h.s2 c o q n).1] at z
      cases z
  refine ⟨fun c o q => ?_, h.len, fun j s q => ?_, fun p hp => ?_, ?_, h.s1, fun c o q n => ?_, fun c hc => ?_⟩
  · have nc : c ∉ sl'.owned := fun m => by
      rcases new c m with z | z
      · rw [(old c (List.mem_append_right _ (List.mem_append_left _ z))).1] at q
        cases q
      · rw [h.fh _ _ q] at z
        cases z
    rw [hH c nc]
    exact h.fh c o q
  · rcases h.slots j s q with z | ⟨w, hw, okj⟩
    · exact .inl z
    · exact .inr ⟨w, hw, okj.eqOn fun c hc => hH c (outE c (mem_ownedE q hc))⟩
  · rcases List.mem_cons.mp hp with rfl | hp
    · exact ok
    · exact (h.temps p (List.mem_cons_of_mem _ hp)).eqOn fun c hc => hH c (outT c (List.mem_flatMap.mpr ⟨p, hp, hc⟩))
  · show (ownedE env ++ (sl'.owned ++ ownedT T)).Nodup
    refine List.nodup_append.mpr ⟨n1, List.nodup_append.mpr ⟨ok.ndo, n5, fun c hc d hd z => outT d hd (z ▸ hc)⟩, fun c hc d hd z => ?_⟩
    rcases List.mem_append.mp hd with hd | hd
    · exact outE c hc (z ▸ hd)
    · exact n3 c hc d (List.mem_append_right _ hd) z
  · obtain ⟨q1, q2⟩ := h.s2 c o q n
    exact ⟨by rw [hH c (hA c o q n)]; exact q1, q2⟩
  · have hc' : c ∈ ownedE env ++ (sl'.owned ++ ownedT T) := hc
    rcases List.mem_append.mp hc' with hc | hc
    · exact h.s3 c (List.mem_append_left _ hc)
    · rcases List.mem_append.mp hc with hc | hc
      · rcases new c hc with z | z
        · exact h.s3 c (List.mem_append_right _ (List.mem_append_left _ z))
        · cases q : e.H0 c with
          | none => exact .inr rfl
          | some o =>
            by_cases hA' : c ∈ e.A0
            · exact .inl hA'
            · exact absurd hc (hA c o q hA')
      · exact h.s3 c (List.mem_append_right _ (List.mem_append_right _ hc))
end
def sSeal (i : Nat) (t : DTS) : DTS := fun Ex E env => ∃ a xs, env[i]? = some (nestS a xs) ∧ t Ex E (env.set i (.ext (.lst (xs.map fun p => .lst p.2))))
def emp (bs : List Addr) : List (Addr × List D) := bs.map fun b => (b, [])
def dNest (ti : DTI) (i : Nat) : DT := fun Ex env Q => ti Ex env fun items keep env1 => keep (env1.set i .un) ∧ items.length ≤ sizeLine ∧ ∀ a (bs : List Addr), bs.length = items.length → Q (nestS a (emp bs)) (env1.set i .un)
end HD
namespace HD
open PySem PyProof.Rows L2
theorem nodup_le {α : Type} [DecidableEq α] : ∀ {l m : List α}, l.Nodup → (∀ x ∈ l, x ∈ m) → l.length ≤ m.length
  | [], _, _, _ => Nat.zero_le _
  | x :: l, m, nd, h => by
    obtain ⟨n1, n2⟩ := List.nodup_cons.mp nd
    have hx := h x List.mem_cons_self
    have ih := nodup_le (m := m.erase x) n2 fun y hy => by
      have ne : y ≠ x := fun e => n1 (e ▸ hy)
      exact (List.mem_erase_of_ne ne).mpr (h y (List.mem_cons_of_mem _ hy))
    rw [List.length_erase_of_mem hx] at ih
    have : 0 < m.length := List.length_pos_of_mem hx
    rw [List.length_cons]
    omega
theorem nodup_of_len {α : Type} [DecidableEq α] : ∀ {m l : List α}, l.Nodup → (∀ x, x ∈ l ↔ x ∈ m) → l.length = m.length → m.Nodup
  | [], _, _, _, _ => List.nodup_nil
  | x :: m, l, nd, h, hl => by
    have hx : x ∈ l := (h x).mpr List.mem_cons_self
    have hne : x ∉ m := fun hm => by
      have := nodup_le (m := m) nd fun y hy => by
        rcases List.mem_cons.mp ((h y).mp hy) with rfl | hy
        · exact hm
        · exact hy
      rw [List.length_cons] at hl
      omega
    refine List.nodup_cons.mpr ⟨hne, nodup_of_len (l := l.erase x) (nd.erase x) (fun y => ?_) ?_⟩
    · rw [nd.mem_erase_iff, h y, List.mem_cons]
      constructor
      · rintro ⟨h1, h2 | h2⟩
        · exact absurd h2 h1
        · exact h2
      · intro h1
        exact ⟨fun e => hne (e ▸ h1), .inr h1⟩
    · rw [List.length_erase_of_mem hx, hl]
      rfl
def rLenSet (w : World) : List V → Hp → VK → Prop := fun vs H Q => ∃ (a : Addr) (S : Int → Bool) (n : Nat), vs = [V.ref a] ∧ H a = some (SetO w a S n) ∧ n < 4000 ∧ ∀ l : List Int, l.Nodup → l.length = n → (∀ k : Int, k ∈ l ↔ S k = true) → Q (.int (n : Nat)) H
theorem cr_lenSet {X : Cx} : CallR X (.builtin "len") (rLenSet X.w) := by
  intro pins s σ H vs us Q I r h
  obtain ⟨a, S, n, rfl, ha, hn4, q⟩ := h
  have R := setO_get I ha
  rw [Vals.ref1 r]
  obtain ⟨o, es, ep, t, ho, hex, hd, g, nd, hm, hb, hf, hn, hr, hl⟩ := R
  refine call_len_set ho hex hd hf (by omega) ⟨.int (n : Nat), H, I.tok _, ⟨_, by rw [← hn]⟩, q _ nd (by rw [List.length_map, Array.length_toList]; exact hn) fun k => (hm k).symm⟩
section
variable {G : GG} {N : List Str} {sc : SC} {k : Nat} {a : Expr} {ta : DT} {p p2 pos pos2 : Pos}
def dLenSet (t : DT) : DT := fun Ex env Q => t Ex env fun x env1 => wd env1 x fun d => match d with
  | .tup ds => ∃ ns : List Int, ds = ns.map D.int ∧ ns.length < 3000 ∧ ∀ m : Nat, (m = ns.length ↔ ns.Nodup) → Q (.ext (.int (m : Nat))) env1
  | _ => False
theorem de_lenset (ha : DE G N sc k a ta) (hm : G.mg "len" = none) (hm2 : G.mg "set" = none) (hg : GlS sc "len" := by rfl) (hg2 : GlS sc "set" := by rfl) (n1 : NoStar a [] := by intro _; rfl) (n2 : NoStar (.Call (.Name "set" p2) [a] [] pos2) [] := by intro _; rfl) (hp1 : ∀ env, (backTo pos (starEach [] env)).any (·.1) = false := by intro _; rfl) (hp2 : ∀ env, (backTo pos2 (starEach [] env)).any (·.1) = false := by intro _; rfl) :
    DE G N sc k (.Call (.Name "len" p) [.Call (.Name "set" p2) [a] [] pos2] [] pos) (dLenSet ta) := ⟨fun W => by
  obtain ⟨te, p1, i1⟩ := ha.ex W
  refine ⟨tCB (rLenSet G.w) (tCons (tCB (rSetT G.K G.w) (tCons te tNil)) tNil), fun X S => ?_, fun e Ex hl env T F σ H Q R hh ht hR => ?_⟩
  · have c1 := cr_lenSet (X := X)
    have c2 := cr_setT (X := X) S.calm
    rw [S.w] at c1
    rw [S.w, S.K] at c2
    exact pe_callB c1 (S.gl hg) (by rw [S.mg]; exact hm) (by decide +kernel) (pa_cons (pe_callTy c2 (S.gl hg2) (by rw [S.mg]; exact hm2) (by decide +kernel) (pa_cons (p1 X S) pa_nil (n1 _)) (by decide) (by decide) (n1 _) (hp2 _)) pa_nil (n2 _)) (by decide) (by decide) (n2 _) (hp1 _)
  · refine i1 e Ex hl env T F σ H _ _ hh ht fun v H1 F1 env1 x hh1 q1 => ?_
    obtain ⟨d, rd, q2⟩ := hh1.wd (v := v) (sl := x) List.mem_cons_self q1
    cases d with
    | tup ds =>
      obtain ⟨ns, rfl, hl64, q⟩ := q2
      obtain ⟨c, vs, rfl, e1, _, r1⟩ := rd.tup hh1.fh
      have z := r1.ints
      subst z
      refine ⟨c, ns, rfl, e1, Nat.lt_of_lt_of_le (Nat.add_lt_add_right hl64 1) (by decide), fun p' cn hn hc => ?_⟩
      refine ⟨p', _, cn, rfl, upd_same, by omega, fun l nd hlen hmem => ?_⟩
      have aft := (hh1.pop.done hR).more (o := SetO G.w p' (fun j => decide (j ∈ ns)) cn) hh1.fh hn
      have hmem' : ∀ x, x ∈ l ↔ x ∈ ns := fun x => (hmem x).trans decide_eq_true_iff
      refine aft.int (Grow.loose hh1.fh hn).fh (q cn ⟨fun e => nodup_of_len nd hmem' (by rw [hlen, e]), fun h => ?_⟩)
      rw [← hlen]
      exact Nat.le_antisymm (nodup_le nd fun x hx => (hmem' x).1 hx) (nodup_le h fun x hx => (hmem' x).2 hx)
    | _ => exact q2.elim⟩
end
end HD
namespace HD
open PySem PyProof.Rows L2
def fSum2 : List D → (Sl → Prop) → Prop
  | [.lst ds], Q => ∃ ns : List Int, ds = ns.map D.int ∧ Q (.ext (.int ns.sum))
  | [.tup ds], Q => ∃ ns : List Int, ds = ns.map D.int ∧ Q (.ext (.int ns.sum))
  | _, _ => False
end HD
namespace HD
open PySem PyProof.Rows L2
section
variable {κ β : Type} [DecidableEq κ]
def luK (kvs : List (κ × β)) (k : κ) : Option β := (kvs.find? fun kv => decide (kv.1 = k)).map (·.2)
def ptK (kvs : List (κ × β)) (k : κ) (v : β) : List (κ × β) := if kvs.any (fun kv => decide (kv.1 = k)) then kvs.map (fun kv => if kv.1 = k then (kv.1, v) else kv) else kvs ++ [(k, v)]
def drK (kvs : List (κ × β)) (k : κ) : List (κ × β) := kvs.filter fun kv => decide (kv.1 ≠ k)
theorem luK_cons (p : κ × β) (r : List (κ × β)) (k : κ) : luK (p :: r) k = if p.1 = k then some p.2 else luK r k := by
  unfold luK
  by_cases e : p.1 = k
  · simp [List.find?_cons, e]
  · simp [List.find?_cons, e]
theorem luK_isSome (kvs : List (κ × β)) (k : κ) : (luK kvs k).isSome = decide (k ∈ kvs.map (·.1)) := by
  induction kvs with
  | nil => rfl
  | cons p r ih =>
    rw [luK_cons]
    by_cases e : p.1 = k
    · rw [if_pos e]; simp [e]
    · rw [if_neg e, ih]
      simp [Ne.symm e]
theorem any_keys (kvs : List (κ × β)) (k : κ) : (kvs.any fun kv => decide (kv.1 = k)) = (luK kvs k).isSome := by
  induction kvs with
  | nil => rfl
  | cons p r ih =>
    rw [List.any_cons, luK_cons, ih]
    by_cases e : p.1 = k <;> simp [e]
theorem ptK_new {kvs : List (κ × β)} {k : κ} {v : β} (h : luK kvs k = none) : ptK kvs k v = kvs ++ [(k, v)] := by
  unfold ptK
  rw [any_keys, h]
  rfl
end
section
variable {K : PySem.W.Frag} {F : Hp} {κ : Type} [DecidableEq κ]
def Ents (K : PySem.W.Frag) (F : Hp) (kvs : List (κ × D)) (vs : List (κ × V)) : Prop := vs.map (·.1) = kvs.map (·.1) ∧ Reps K F (kvs.map (·.2)) (vs.map (·.2))
theorem Ents.nil : Ents (κ := κ) K F [] [] := ⟨rfl, rfl⟩
theorem Ents.cons {k : κ} {d : D} {v : V} {kvs : List (κ × D)} {vs : List (κ × V)} (h : Rep K F d v) (t : Ents K F kvs vs) : Ents K F ((k, d) :: kvs) ((k, v) :: vs) :=
  ⟨by rw [List.map_cons, List.map_cons, t.1], .cons h t.2⟩
theorem Ents.inv {p : κ × D} {kvs : List (κ × D)} {vs : List (κ × V)} (h : Ents K F (p :: kvs) vs) : ∃ v r, vs = (p.1, v) :: r ∧ Rep K F p.2 v ∧ Ents K F kvs r := by
  obtain ⟨h1, h2⟩ := h
  cases vs with
  | nil => cases h1
  | cons q r =>
    rw [List.map_cons, List.map_cons] at h1
    injection h1 with e1 e2
    rw [List.map_cons, List.map_cons] at h2
    obtain ⟨v, r', e3, r1, r2⟩ := h2
    injection e3 with e4 e5
    subst e5
    exact ⟨q.2, r, by rw [← e1], by rw [e4]; exact r1, e2, r2⟩
theorem Ents.emp {vs : List (κ × V)} (h : Ents K F ([] : List (κ × D)) vs) : vs = [] := List.map_eq_nil_iff.1 h.1
theorem Ents.length {kvs : List (κ × D)} {vs : List (κ × V)} (h : Ents K F kvs vs) : kvs.length = vs.length := by
  have := congrArg List.length h.1
  rw [List.length_map, List.length_map] at this
  exact this.symm
theorem Ents.lu (k : κ) : ∀ {kvs : List (κ × D)} {vs : List (κ × V)}, Ents K F kvs vs → (∀ d, luK kvs k = some d → ∃ v, luK vs k = some v ∧ Rep K F d v) ∧ (luK vs k).isSome = (luK kvs k).isSome
  | [], vs, h => by
    have e := h.emp
    subst e
    exact ⟨fun d z => (by cases z), rfl⟩
  | p :: kvs, vs, h => by
    obtain ⟨v, r, rfl, r1, r2⟩ := h.inv
    obtain ⟨i1, i2⟩ := Ents.lu k r2
    rw [luK_cons, luK_cons]
    show (∀ d, _ = some d → ∃ v', (if p.1 = k then some v else luK r k) = some v' ∧ _) ∧ (if p.1 = k then some v else luK r k).isSome = _
    by_cases e : p.1 = k
    · rw [if_pos e, if_pos e]
      exact ⟨fun d z => by cases z; exact ⟨v, rfl, r1⟩, rfl⟩
    · rw [if_neg e, if_neg e]
      exact ⟨i1, i2⟩
theorem Ents.app : ∀ {kvs kvs' : List (κ × D)} {vs vs' : List (κ × V)}, Ents K F kvs vs → Ents K F kvs' vs' → Ents K F (kvs ++ kvs') (vs ++ vs') := fun h g =>
  ⟨by rw [List.map_append, List.map_append, h.1, g.1], by rw [List.map_append, List.map_append]; exact h.2.append g.2⟩
theorem Ents.repl (k : κ) {d : D} {v : V} (hd : Rep K F d v) : ∀ {kvs : List (κ × D)} {vs : List (κ × V)}, Ents K F kvs vs → Ents K F (kvs.map fun kv => if kv.1 = k then (kv.1, d) else kv) (vs.map fun kv => if kv.1 = k then (kv.1, v) else kv)
  | [], vs, h => by
    have e := h.emp
    subst e
    exact .nil
  | p :: kvs, vs, h => by
    obtain ⟨u, r, rfl, r1, r2⟩ := h.inv
    have i := Ents.repl k hd r2
    rw [List.map_cons, List.map_cons]
    by_cases e : p.1 = k
    · rw [if_pos e, if_pos e]
      exact .cons hd i
    · rw [if_neg e, if_neg e]
      exact .cons r1 i
theorem Ents.put (k : κ) {d : D} {v : V} (hd : Rep K F d v) {kvs : List (κ × D)} {vs : List (κ × V)} (h : Ents K F kvs vs) : Ents K F (ptK kvs k d) (ptK vs k v) := by
  unfold ptK
  rw [any_keys, any_keys, (h.lu k).2]
  cases (luK kvs k).isSome with
  | true => exact h.repl k hd
  | false => exact h.app (.cons hd .nil)
end
abbrev dkS (a : Addr) (kvs : List (Key × D)) : Sl := .reg (.val (.ref a)) [(a, .dk kvs)]
abbrev dkD (kvs : List (Key × D)) : D := .dk (kvs.map (·.1)) (kvs.map (·.2))
def kD : Key → D
  | .inl i => .int i
  | .inr x => .str x
theorem kD_rep {K : PySem.W.Frag} {F : Hp} (k : Key) : Rep K F (kD k) (kV k) := by
  cases k <;> rfl
theorem kD_of {K : PySem.W.Frag} {F : Hp} {k : Key} {v : V} (h : Rep K F (kD k) v) : v = kV k := by
  cases k <;> exact h
theorem dk_ok {K : PySem.W.Frag} {F H : Hp} {v : V} {a : Addr} {kvs : List (Key × D)} : SlOk K F H v (dkS a kvs) ↔ v = .ref a ∧ F a = none ∧ ∃ vs, H a = some (.dK vs) ∧ Ents K F kvs vs := by
  constructor
  · rintro ⟨h1, _, h3⟩
    obtain ⟨n, o, ho, vs, rfl, r1, r2⟩ := h3 (a, .dk kvs) List.mem_cons_self
    exact ⟨h1, n, vs, ho, r1, r2⟩
  · rintro ⟨h1, h2, vs, h3, h4, h5⟩
    refine ⟨h1, List.pairwise_singleton _ _, fun p hp => ?_⟩
    rw [List.mem_singleton.mp hp]
    exact ⟨h2, _, h3, vs, rfl, h4, h5⟩
def dkAt (env : Env') (i : Nat) (kvs : List (Key × D)) : Prop := (∃ a, env[i]? = some (dkS a kvs)) ∨ env[i]? = some (.ext (dkD kvs))
theorem Holds.dkAt {K : PySem.W.Frag} {e : Ent} {env : Env'} {T : Tmp} {F : Hp} {σ : L2.St} {H : Hp} {i : Nat} {kvs : List (Key × D)} (h : Holds K e env T F σ H) (w : HD.dkAt env i kvs) : ∃ a vs, σ[i]? = some (some (.ref a)) ∧ Rd H a (.dK vs) ∧ Ents K F kvs vs := by
  rcases w with ⟨a, w⟩ | w
  · rcases h.slots i _ w with z | ⟨v, hv, ok⟩
    · cases z
    obtain ⟨rfl, _, vs, h1, h2⟩ := dk_ok.1 ok
    exact ⟨a, vs, hv, .inl h1, h2⟩
  · rcases h.slots i _ w with z | ⟨v, hv, ok⟩
    · cases z
    obtain ⟨a, od, vs, rfl, h1, h2, h3⟩ := ok
    exact ⟨a, vs, hv, .inr ⟨od, h.fh _ _ h1⟩, h2, h3⟩
theorem rd_dget {H : Hp} {a : Addr} {vs : List (Key × V)} (h : Rd H a (.dK vs)) (k : Key) : DGet H a (kV k) (luK vs k) := .inl ⟨vs, k, h, rfl, rfl⟩
section
variable {G : GG} {N : List Str} {sc : SC} {k : Nat} {a b : Expr} {ta tb : DT} {py pos spos apos cpos : Pos} {x : Str}
theorem Sit.u1 {W : WX} {X : Cx} (S : Sit G N sc W k X) : X.A.units + 1 < cLine := by have := S.units; omega
def dDIn (neg : Bool) (i : Nat) (t : DT) : DT := fun Ex env Q => t Ex env fun x env1 => ∃ key kvs, x = .ext (kD key) ∧ dkAt env1 i kvs ∧ Q (.ext (.bl (neg != (luK kvs key).isSome))) env1
theorem im_dnotin {K : PySem.W.Frag} {W : WX} {te : TE} {t : DT} (i : Nat) (i1 : Im K W te t) : Im K W (tDNotIn te (tVar i)) (dDIn true i t) := fun e Ex hl env T F σ H Q R hh ht hR => by
  refine i1 e Ex hl env T F σ H _ _ hh ht fun u H1 F1 env1 z hh1 q1 => ?_
  obtain ⟨key, kvs, rfl, w, q⟩ := q1
  have eu : u = kV key := kD_of (hh1.temps (u, .ext (kD key)) List.mem_cons_self)
  subst eu
  obtain ⟨ad, vs, hs, rd, en⟩ := hh1.dkAt w
  refine ⟨.ref ad, hs, ad, _, rfl, rd_dget rd key, ?_⟩
  rw [(en.lu key).2]
  have hv := hR (.bl (true != (luK kvs key).isSome)) H1 F1 env1 (.ext (.bl (true != (luK kvs key).isSome))) (hh1.pop.pushE rfl) q
  rw [Bool.true_bne] at hv
  exact hv
theorem dt_dnotin (i : Nat) (h : DE G N sc k a ta) (hv : VisV N sc i x := by exact ⟨rfl, by first | exact Or.inl rfl | exact Or.inr (Or.inl rfl) | exact Or.inr (Or.inr rfl), by decide, by decide⟩) : DTe G N sc k (.Compare a [.NotIn] [.Name x py] pos) (dTest (dDIn true i ta)) := ⟨fun W => by
  obtain ⟨te, p1, i1⟩ := h.ex W
  exact ⟨tB (tDNotIn te (tVar i)), fun X S => pt_cmp (pc_dnotin S.u1 (p1 X S) (pe_var (by rw [S.nms]; exact hv.1) (S.vis hv.2.1) hv.2.2.1 hv.2.2.2)) rfl, imT_of (im_dnotin i i1) fun _ _ _ h => h⟩⟩
def dDGet (i : Nat) (t : DT) : DT := fun Ex env Q => (∃ kvs, dkAt env i kvs) ∧ t Ex env fun x env1 => ∃ key kvs d, x = .ext (kD key) ∧ dkAt env1 i kvs ∧ luK kvs key = some d ∧ Q (.ext d) env1
def sPutD (i : Nat) (tk tv : DT) : DTS := fun Ex E env => tv Ex env fun y env0 => frzD env0 y fun d env1 => (∃ a kvs, env1[i]? = some (dkS a kvs)) ∧ tk Ex env1 fun x env2 => ∃ a kvs key, env2[i]? = some (dkS a kvs) ∧ x = .ext (kD key) ∧ kvs.length < sizeLine ∧ E.nx (env2.set i (dkS a (ptK kvs key d)))
theorem Holds.dkW {K : PySem.W.Frag} {e : Ent} {env : Env'} {T : Tmp} {F : Hp} {σ : L2.St} {H : Hp} {i : Nat} {ad : Addr} {kvs kvs' : List (Key × D)} {vs' : List (Key × V)} (h : Holds K e env T F σ H) (hi : env[i]? = some (dkS ad kvs)) (hr : Ents K F kvs' vs') : Holds K e (env.set i (dkS ad kvs')) T F σ (upd H ad (.dK vs')) := by
  refine h.writeR hi (List.mem_singleton.mpr rfl) rfl (fun v ok => ?_) (fun z => by cases z)
  obtain ⟨h1, h2, _⟩ := dk_ok.1 ok
  exact dk_ok.2 ⟨h1, h2, vs', upd_same, hr⟩
theorem ds_dput (i : Nat) (hi : DE G N sc k a ta) (hb : DE G N sc k b tb) (hsw : ∀ env, swapsWith b (some (.Subscript (.Name x py) a spos)) pos.line env = pure false := by intro _; rfl) (hv : VisV N sc i x := by exact ⟨rfl, by first | exact Or.inl rfl | exact Or.inr (Or.inl rfl) | exact Or.inr (Or.inr rfl), by decide, by decide⟩) :
    DS G N sc k (.Assign [.Subscript (.Name x py) a spos] b pos) (sPutD i ta tb) := ⟨fun W => by
  obtain ⟨te, p1, i1⟩ := hi.ex W
  obtain ⟨tf, p2, i2⟩ := hb.ex W
  refine ⟨L2.sDPut (tVar i) te tf, fun X S => ps_dput S.u1 (pe_var (by rw [S.nms]; exact hv.1) (S.vis hv.2.1) hv.2.2.1 hv.2.2.2) (p1 X S) (p2 X S) (hsw _), fun e Ex hl env F σ H E Dn hh ht ok => ?_⟩
  refine i2 e Ex hl env [] F σ H _ _ hh ht fun v H1 F1 env1 y hh1 q1 => ?_
  obtain ⟨d, F2, env2, _, hh2, rd, ⟨a0, kvs0, w0⟩, q2⟩ := hh1.frz1 q1
  obtain ⟨a0', _, hs0, _⟩ := hh2.dkAt (.inl ⟨a0, w0⟩)
  refine ⟨_, hs0, ?_⟩
  refine i1 e Ex hl env2 _ F2 σ H1 _ _ (hh2.pushE rd) q2 fun u H3 F3 env3 z hh3 q3 => ?_
  obtain ⟨a1, kvs, key, w1, rfl, hz, q⟩ := q3
  have eu : u = kV key := kD_of (hh3.temps (u, .ext (kD key)) List.mem_cons_self)
  subst eu
  have rd3 : Rep G.K F3 d v := hh3.temps (v, .ext d) (List.mem_cons_of_mem _ List.mem_cons_self)
  rcases hh3.slots i _ w1 with z | ⟨v1, hv1, ok1⟩
  · cases z
  obtain ⟨rfl, _, vs, hH, en⟩ := dk_ok.1 ok1
  rw [hs0] at hv1
  cases hv1
  exact ⟨a0', _, rfl, DPut.k hH (by rw [← en.length]; exact hz), ok.nx _ F3 σ _ ((hh3.bare.dkW w1 (en.put key rd3))) q⟩⟩
def dDNew : DT := fun _ env Q => ∀ a, Q (dkS a []) env
def dDOne (tk tv : DT) : DT := fun Ex env Q => tk Ex env fun x env1 => tv Ex env1 fun y env2 => ∃ key, x = .ext (kD key) ∧ frzD env2 y fun d env3 => ∀ a, Q (dkS a [(key, d)]) env3
theorem de_done (hi : DE G N sc k a ta) (hb : DE G N sc k b tb) : DE G N sc k (.Dict [some a] [b] pos) (dDOne ta tb) := ⟨fun W => by
  obtain ⟨te, p1, i1⟩ := hi.ex W
  obtain ⟨tf, p2, i2⟩ := hb.ex W
  refine ⟨tDisp [(te, tf)], fun X S => pe_disp (pps_cons (p1 X S) (p2 X S) pps_nil) rfl rfl (by simp) (by show 1 ≤ 15; decide), fun e Ex hl env T F σ H Q R hh ht hR p hp => ?_⟩
  have h0 : Holds G.K e env ((V.ref p, dkS p []) :: T) F σ (upd H p (.dK [])) := hh.push (Grow.loose hh.fh hp) (dk_ok.2 ⟨rfl, hh.fh.free hp, [], upd_same, .nil⟩) fun c hc => by
    rw [List.mem_singleton.mp hc]
    exact hp
  refine i1 e Ex hl env _ F σ _ _ _ h0 ht fun u H1 F1 env1 z hh1 q1 => ?_
  refine i2 e Ex hl env1 _ F1 σ H1 _ _ hh1 q1 fun w H2 F2 env2 y hh2 q2 => ?_
  obtain ⟨key, rfl, q2⟩ := q2
  obtain ⟨d, F3, env3, _, hh3, rd, q3⟩ := hh2.frz1 q2
  have eu : u = kV key := kD_of (hh3.temps (u, .ext (kD key)) List.mem_cons_self)
  subst eu
  have hh4 := hh3.pop
  obtain ⟨_, _, vs, hH, en⟩ := dk_ok.1 (hh4.temps (V.ref p, dkS p []) List.mem_cons_self)
  have ev := en.emp
  subst ev
  refine ⟨hH, [(key, w)], rfl, (by show 1 ≤ 15; decide), hR _ _ F3 env3 (dkS p [(key, d)]) (hh4.retop (fun c hc => ?_) (fun c hc => .inl hc) (dk_ok.2 ⟨rfl, ?_, [(key, w)], upd_same, .cons rd .nil⟩)) (q3 p)⟩
  · exact upd_ne fun z => hc (by rw [z]; exact List.mem_singleton.mpr rfl)
  · exact (hh4.ownedH p (List.mem_append_right _ (List.mem_append_left _ (List.mem_singleton.mpr rfl)))).1⟩
end
section
variable {K : PySem.W.Frag} {e : Ent} {env : Env'} {T : Tmp} {F : Hp} {σ : L2.St} {H : Hp}
theorem Holds.lock {i : Nat} {a : Addr} {c : OC} {o o' : HO} {d : D} (h : Holds K e env T F σ H) (hi : env[i]? = some (.reg (.val (.ref a)) [(a, c)])) (hr : Rep K (upd F a o') d (.ref a)) : Holds K e (env.set i (.ext d)) T (upd F a o') σ (upd H a o') ∧ Same F (upd F a o') := by
  have ma : a ∈ ownedE env := mem_ownedE hi (List.mem_singleton.mpr rfl)
  have mm : a ∈ ownedE env ++ ownedT T := List.mem_append_left _ ma
  obtain ⟨Fn, _⟩ := h.ownedH a mm
  have sm : Same F (upd F a o') := fun b q hq => by
    rw [upd_ne (ne_of_none hq Fn)]
    exact hq
  have keep : ∀ {w : V} {sl : Sl}, a ∉ sl.owned → SlOk K F H w sl → SlOk K (upd F a o') (upd H a o') w sl := fun {w sl} n ok => by
    cases sl with
    | un => trivial
    | ext d => exact Rep.same sm ok
    | al j b => exact ok
    | lst b ds =>
      obtain ⟨rfl, q, us, hv, hr⟩ := ok
      have nb : b ≠ a := fun z => n (by rw [z]; exact List.mem_singleton.mpr rfl)
      exact ⟨rfl, by rw [upd_ne nb]; exact q, us, by rw [upd_ne nb]; exact hv, hr.same sm⟩
    | ar j b => exact ok
    | reg b cs =>
      obtain ⟨rd, nd, hc⟩ := ok
      refine ⟨Rep.same sm rd, nd, fun p hp => ?_⟩
      obtain ⟨q, o1, ho, okc⟩ := hc p hp
      have nb : p.1 ≠ a := fun z => n (by rw [← z]; exact List.mem_map.mpr ⟨p, hp, rfl⟩)
      exact ⟨by rw [upd_ne nb]; exact q, o1, by rw [upd_ne nb]; exact ho, okc.same sm⟩
  obtain ⟨A, B, e1, e2⟩ := splitE hi
  have sub : (ownedE (env.set i (.ext d)) ++ ownedT T).Sublist (ownedE env ++ ownedT T) := by
    rw [e2, e1]
    exact ((List.Sublist.refl _).append (List.sublist_append_right _ _)).append (List.Sublist.refl _)
  refine ⟨⟨fun b q hq => ?_, by rw [List.length_set]; exact h.len, fun j sl q => ?_, fun p hp => keep (fun m => ?_) (h.temps p hp), h.nd.sublist sub, h.s1.trans sm, fun b q hq n => ?_, fun b hb => h.s3 b (sub.subset hb)⟩, sm⟩
  · by_cases nb : b = a
    · subst nb
      rw [upd_same] at hq ⊢
      exact hq
    · rw [upd_ne nb] at hq ⊢
      exact h.fh b q hq
  · rw [List.getElem?_set] at q
    split at q
    · rename_i ij
      subst ij
      split at q
      · cases q
        right
        rcases h.slots i _ hi with z | ⟨v, hv, ok⟩
        · cases z
        obtain ⟨rfl, _⟩ := ok
        exact ⟨_, hv, hr⟩
      · cases q
    · rename_i ij
      rcases h.slots j sl q with z | ⟨v, hv, ok⟩
      · exact .inl z
      · exact .inr ⟨v, hv, keep (fun m => ij (owned_two h.nd hi q (List.mem_singleton.mpr rfl) m)) ok⟩
  · exact (List.nodup_append.mp h.nd).2.2 a ma a (List.mem_flatMap.mpr ⟨p, hp, m⟩) rfl
  · have nb : b ≠ a := fun z => by
      subst z
      rcases h.s3 b mm with y | y
      · exact n y
      · rw [hq] at y
        cases y
    rw [upd_ne nb, upd_ne nb]
    exact h.s2 b q hq n
end
def tKnown (t : TS) : TS := fun D σ H => ∃ d u, H d = some u ∧ Mut (some u) ∧ ∀ od, t D σ (upd H d (.frz od u))
theorem ps_known {X : Cx} {st : Stmt} {t : TS} (h : PS X st t) : PS X st (tKnown t) := by
  refine ⟨fun pins s σ H D I hw => ?_⟩
  obtain ⟨d, u, hd, mu, q⟩ := hw
  obtain ⟨od, I1⟩ := I.lock hd mu
  exact h.run pins s σ _ D I1 (q od)
def sSealD (i : Nat) (t : DTS) : DTS := fun Ex E env => ∃ a kvs, env[i]? = some (dkS a kvs) ∧ t Ex E (env.set i (.ext (dkD kvs)))
theorem ds_sealD {G : GG} {N : List Str} {sc : SC} {k : Nat} {st : Stmt} {t : DTS} (i : Nat) (h : DS G N sc k st t) : DS G N sc k st (sSealD i t) := ⟨fun W => by
  obtain ⟨ts, p1, i1⟩ := h.ex W
  refine ⟨tKnown ts, fun X S => ps_known (p1 X S), fun e Ex hl env F σ H E Dn hh ht ok => ?_⟩
  obtain ⟨a, kvs, hi, ht⟩ := ht
  rcases hh.slots i _ hi with z | ⟨v, hv, okv⟩
  · cases z
  obtain ⟨rfl, hF, vs, hH, en⟩ := dk_ok.1 okv
  refine ⟨a, .dK vs, hH, True.intro, fun od => ?_⟩
  have sm : Same F (upd F a (.frz od (.dK vs))) := fun b q hq => by
    rw [upd_ne (ne_of_none hq hF)]
    exact hq
  exact i1 e Ex hl _ _ σ _ E Dn (hh.lock (o := .dK vs) (o' := .frz od (.dK vs)) (d := dkD kvs) hi ⟨a, od, vs, rfl, upd_same, en.1, en.2.same sm⟩).1 ht ok⟩
def keyS (x : Sl) (q : List Key → Prop) : Prop := match x with
  | .ext (.dk ks _) => q ks
  | _ => False
theorem keyS_dk (ks : List Key) (ds : List D) (q : List Key → Prop) : keyS (.ext (.dk ks ds)) q = q ks := rfl
def dKeys (t : DT) : DTI := fun Ex env Q => t Ex env fun x env1 => keyS x fun ks => Q (ks.map kD) (fun _ => True) env1
theorem di_keys {G : GG} {N : List Str} {sc : SC} {k : Nat} {tg a : Expr} {ta : DT} (h : DE G N sc k a ta) : DI G N sc k tg a (dKeys ta) := ⟨fun W => by
  obtain ⟨te, p1, i1⟩ := h.ex W
  refine ⟨iKeys te, fun X S => pi_keys (p1 X S), fun e Ex hl env T F σ H Q R hh ht hR => ?_⟩
  refine i1 e Ex hl env T F σ H _ _ hh ht fun v H1 F1 env1 x hh1 q1 => ?_
  cases x with
  | ext d =>
    cases d with
    | dk ks ds =>
      obtain ⟨ad, od, vs, ev, hF, hk, hr⟩ := hh1.temps (v, .ext (.dk ks ds)) List.mem_cons_self
      refine ⟨ad, od, ev, .inl ⟨vs, hh1.fh _ _ hF, hR _ H1 F1 env1 _ _ hh1.pop ?_ q1⟩⟩
      intro e' env' T' F' σ' H' j hh' sm _
      have hH : H' ad = some (.frz od (.dK vs)) := hh'.fh _ _ (sm _ _ hF)
      have hl' : vs.length = ks.length := by rw [← hk, List.length_map]
      refine ⟨fun hj => ⟨hH, by rw [hl', ← hj, List.length_map]; exact Nat.le_refl _⟩, fun d hd => ?_⟩
      rw [List.getElem?_map] at hd
      cases hkj : ks[j]? with
      | none => rw [hkj] at hd; cases hd
      | some key =>
        rw [hkj] at hd
        cases hd
        have hj : j < ks.length := (List.getElem?_eq_some_iff.1 hkj).1
        refine ⟨⟨hH, by omega⟩, fun x2 H2 hy => ?_⟩
        obtain ⟨rfl, k2, v2, hkv, rfl⟩ := hy
        have : ks[j]? = some k2 := by rw [← hk, List.getElem?_map, hkv]; rfl
        rw [hkj] at this
        cases this
        exact ⟨F', Grow.refl hh'.fh, kD_rep key⟩
    | _ => exact q1.elim
  | _ => exact q1.elim⟩
end HD
namespace PySem.AutoSeq1
theorem ext_tup (l : Addr) (xs : Array Value) (n : Nat) (b : Addr) (ys : Array Value) (m : Nat) (sl : Array (Option Value)) (h0 : ¬(!xs.isEmpty && Builtin.List.listTooLong (xs.size + ys.size)) = true) (h1 : xs.size ≤ sizeLine) (h2 : xs.size + ys.size ≤ sizeLine + 1) :
    Meets (Builtin.«list.extend» ⟨[.ref l, .ref b], []⟩) (fun _ R s => s.heap.get? l = some { cls := .type "list", dict := none, data := .seq xs n, slots := #[] } ∧ s.heap.get? b = some { cls := .type "tuple", dict := none, data := .seq ys m, slots := sl } ∧ R (.ok (.ret Value.none)) { s with heap := s.heap.update l (Obj.mapSeq fun x => x ++ ys), toks := s.toks }) :=
  .of_wp fun prog w A R s h => by
    obtain ⟨hp, gs, dr, tk, os⟩ := s
    obtain ⟨hl, hb, h⟩ := h
    have g1 := idx_int
    have g2 := sub_tuple_tuple
    have g3 := sub_list_list
    have g4 := sub_tuple_list
    have g5 := sub_list_tuple
    have hz : (xs ++ ys).size ≤ sizeLine + 1 := by
      rw [Array.size_append]
      exact h2
    wp_walk using (wpAny_updateSeq hl rfl (hz := h1) (_hz' := hz)), wpAny_loadPart' hl, wpAny_loadPart' hb
    exact ⟨_, rfl, h⟩
end PySem.AutoSeq1
namespace HD
open PySem PyProof.Rows L2
def rExtT (K : PySem.W.Frag) : V → List V → Hp → VK → Prop := fun x vs H Q => ∃ l b xs zs, x = .ref l ∧ vs = [.ref b] ∧ H l = some (.lst xs) ∧ TupD K H b zs ∧ xs.length + zs.length ≤ sizeLine ∧ Q .non (upd H l (.lst (xs ++ zs)))
theorem mt_extT {X : Cx} : MtM X "list.extend" (rExtT X.K) := by
  intro pins s σ H x vs v us Q I rx rv h
  obtain ⟨l, b, xs, zs, rfl, rfl, hH, hB, hz, q⟩ := h
  cases rx
  obtain ⟨u, rfl, ru⟩ := rv.one
  cases ru
  obtain ⟨z, its, n, r, hl, e⟩ := I.lstM hH
  obtain ⟨its2, r2, ⟨ob, e2, ec, m, ed⟩, z2⟩ := I.tuple hB.sq
  obtain ⟨ob', e3, en⟩ := hB.noDict I
  rw [e2] at e3
  cases e3
  have hl2 := r2.length
  have hsz : its.toArray.size + its2.toArray.size ≤ sizeLine := by rw [List.size_toArray, List.size_toArray]; omega
  have hlong : ¬ (!its.toArray.isEmpty && Builtin.List.listTooLong (its.toArray.size + its2.toArray.size)) = true := extend_door hsz
  obtain ⟨cls, dict, data, slots⟩ := ob
  cases ec
  cases ed
  cases en
  refine call_meets F.slot_list_extend ⟨_, e, rfl⟩ F.entry_list_extend (F.args_list_extend_2 _ _)
    (AutoSeq1.ext_tup l its.toArray n b its2.toArray m slots hlong (by rw [List.size_toArray]; omega) (by omega)) ⟨e, e2, ?_⟩
  refine ⟨.non, _, I.lset (its' := its ++ its2) hH e (by simp) (r.append r2) ?_, rfl, q⟩
  rw [List.length_append]
  omega
section
variable {G : GG} {N : List Str} {sc : SC} {k : Nat} {b : Expr} {tb : DT} {apos cpos py : Pos} {x : Str}
def dExtT (i : Nat) (t : DT) : DT := fun Ex env Q => (∃ a ds, env[i]? = some (.lst a ds)) ∧ t Ex env fun x env1 => ∃ a ds es, x = .ext (.tup es) ∧ env1[i]? = some (.lst a ds) ∧ ds.length + es.length ≤ sizeLine ∧ Q (.ext .non) (env1.set i (.lst a (ds ++ es)))
theorem de_extT (i : Nat) (hb : DE G N sc k b tb) (hw : FewArgs (.Name x py) "extend" b [] cpos := by intro _; exact ⟨rfl, rfl, rfl, rfl⟩) (hv : VisV N sc i x := by exact ⟨rfl, by first | exact Or.inl rfl | exact Or.inr (Or.inl rfl) | exact Or.inr (Or.inr rfl), by decide, by decide⟩) (hline : (apos.endLine == cpos.line) = true := by rfl) :
    DE G N sc k (.Call (.Attribute (.Name x py) "extend" apos) [b] [] cpos) (dExtT i tb) := ⟨fun W => by
  obtain ⟨tf, p2, i2⟩ := hb.ex W
  refine ⟨tBM G.K "list" (rExtT G.K) (tVar i) (tCons tf tNil), fun X S => ?_, fun e Ex hl env T F σ H Q R hh ht hR => ?_⟩
  · obtain ⟨hbase, hfew, hs, hplain⟩ := hw X.env
    rw [← S.K]
    exact pe_bm PySem.F.plainAttrs_list PySem.F.slot_list_extend PySem.F.type_list_extend mt_extT (pe_var (by rw [S.nms]; exact hv.1) (S.vis hv.2.1) hv.2.2.1 hv.2.2.2) (pa_cons (p2 X S) pa_nil hs) hbase hfew hline hs hplain
  · obtain ⟨⟨c, ds0, hc⟩, ht⟩ := ht
    rcases hh.slots i _ hc with z | ⟨v0, hv0, e0, _, us0, hu0, _⟩
    · cases z
    subst e0
    refine ⟨_, hv0, .inl ⟨rfl, us0, SqL.of hu0⟩, ?_⟩
    refine i2 e Ex hl env T F σ H _ _ hh ht fun u H2 F2 env2 y hh2 q2 => ?_
    obtain ⟨c1, ds, es, rfl, hc1, hz, q⟩ := q2
    rcases hh2.slots i _ hc1 with z | ⟨v1, hv1, e1, _, us, hu, rr⟩
    · cases z
    subst e1
    rw [hv0] at hv1
    cases hv1
    obtain ⟨ct, zs, eu, ht, rt⟩ := hh2.temps (u, .ext (.tup es)) List.mem_cons_self
    subst eu
    show rExtT G.K (.ref c) [.ref ct] H2 R
    exact ⟨c, ct, us, zs, rfl, rfl, hu, TupD.same hh2.fh ht, by rw [← rr.length, ← rt.length]; exact hz, hR .non _ F2 _ (.ext .non) ((hh2.pop.write hc1 (rr.append rt)).pushE rfl) q⟩⟩
end
theorem seq_putD (i : Nat) (tk tv : DT) (u : DTS) (Ex : DX) (E : DEnds) (env : Env') : sSeq (sPutD i tk tv) u Ex E env = sPutD i tk tv Ex { E with nx := fun env1 => u Ex E env1 } env := rfl
theorem seq_sealD (i : Nat) (t u : DTS) (Ex : DX) (E : DEnds) (env : Env') : sSeq (sSealD i t) u Ex E env = sSealD i t Ex { E with nx := fun env1 => u Ex E env1 } env := rfl
end HD
namespace LS
open PySem L2 HD PM
def D.svS : Nat → D → Bool
  | _, .non => true
  | _, .bl _ => true
  | _, .int i => decide (i.natAbs < 10 ^ 60)
  | _, .str x => x.cps.toList.all fun c => decide (c < 16 ^ 8)
  | k + 1, .lst ds => ds.all (D.svS k)
  | k + 1, .tup ds => ds.all (D.svS k)
  | _, _ => false
structure Dc (k n : Nat) (d : D) : Prop where
  pl : D.pl k d = true
  sv : D.svS k d = true
  bk : d.py.bulk ≤ n
structure Dcs (k n : Nat) (ds : List D) : Prop where
  pl : ∀ d ∈ ds, D.pl k d = true
  sv : ∀ d ∈ ds, D.svS k d = true
  bk : PyData.bulkAll (D.pys ds) ≤ n
theorem Dc.int {k n : Nat} {i : Int} (h : i.natAbs < 10 ^ 60 := by decide +kernel) : Dc k n (.int i) := ⟨by cases k <;> rfl, by cases k <;> simp [D.svS, h], Nat.zero_le _⟩
theorem Dc.nat {k n m : Nat} (h : m < 2 ^ 64) : Dc k n (.int (m : Nat)) := Dc.int (by rw [Int.natAbs_natCast]; exact Nat.lt_of_lt_of_le h (by decide))
theorem Dcs.len {k n : Nat} {ds : List D} (h : Dcs k n ds) : ds.length ≤ n := by
  refine Nat.le_trans ?_ h.bk
  clear h
  induction ds with
  | nil => exact Nat.zero_le _
  | cons d ds ih => simp only [D.pys, PyData.bulkAll, List.length_cons]; omega
theorem Dcs.nil {k n : Nat} : Dcs k n [] := ⟨by simp, by simp, Nat.zero_le _⟩
theorem Dcs.cons {k n m : Nat} {d : D} {ds : List D} (h : Dc k n d) (t : Dcs k m ds) : Dcs k (n + 1 + m) (d :: ds) :=
  ⟨fun e he => by
    rcases List.mem_cons.1 he with rfl | he
    · exact h.pl
    · exact t.pl e he, fun e he => by
    rcases List.mem_cons.1 he with rfl | he
    · exact h.sv
    · exact t.sv e he, by have := h.bk; have := t.bk; simp only [D.pys, PyData.bulkAll]; omega⟩
theorem Dcs.mono {k n m : Nat} {ds : List D} (h : Dcs k n ds) (hn : n ≤ m) : Dcs k m ds := ⟨h.pl, h.sv, Nat.le_trans h.bk hn⟩
theorem Dc.tup {k n : Nat} {ds : List D} (h : Dcs k n ds) (hn : n ≤ 100000 := by omega) : Dc (k + 1) n (.tup ds) :=
  ⟨by rw [D.pl, Bool.and_eq_true, List.all_eq_true, decide_eq_true_eq]; exact ⟨Nat.le_trans h.len hn, h.pl⟩, by rw [D.svS, List.all_eq_true]; exact h.sv, h.bk⟩
theorem Dc.lst {k n : Nat} {ds : List D} (h : Dcs k n ds) (hn : n ≤ 100000 := by omega) : Dc (k + 1) n (.lst ds) :=
  ⟨by rw [D.pl, Bool.and_eq_true, List.all_eq_true, decide_eq_true_eq]; exact ⟨Nat.le_trans h.len hn, h.pl⟩, by rw [D.svS, List.all_eq_true]; exact h.sv, h.bk⟩
theorem Dcs.nats {k : Nat} {l : List Nat} (h : ∀ n ∈ l, n < 2 ^ 64) : Dcs k l.length (nD l) := ⟨fun e he => by
    obtain ⟨n, hn, rfl⟩ := List.mem_map.1 he
    exact (Dc.nat (k := k) (n := 0) (h n hn)).pl, fun e he => by
    obtain ⟨n, hn, rfl⟩ := List.mem_map.1 he
    exact (Dc.nat (k := k) (n := 0) (h n hn)).sv, by rw [bulks_nD]; exact Nat.le_refl _⟩
theorem atI_mem {α : Type} {xs : List α} {r : Int} (h0 : 0 ≤ r) (h1 : r < xs.length) : ∃ x, atI xs r = some x ∧ x ∈ xs := by
  have hl : r.toNat < xs.length := by omega
  exact ⟨xs[r.toNat], atI_int h0 (List.getElem?_eq_getElem hl), List.getElem_mem hl⟩
theorem allMem {P : D → Prop} {x : D} {xs : List D} (h : P x) (t : ∀ y ∈ xs, P y) : ∀ y ∈ x :: xs, P y := fun y hy => by
  rcases List.mem_cons.1 hy with rfl | hy
  · exact h
  · exact t y hy
theorem allNil {P : D → Prop} : ∀ y ∈ ([] : List D), P y := by simp
theorem Dc.t2 {k n n' m : Nat} {d e : D} (h : Dc k n d) (h' : Dc k n' e) (hm : n + n' + 2 ≤ m := by omega) (hm2 : m ≤ 100000 := by omega) : Dc (k + 1) m (.tup [d, e]) := Dc.tup ((Dcs.cons h (Dcs.cons h' (Dcs.nil (n := 0)))).mono (by omega)) hm2
end LS
namespace PM
def tieB (gs : List (List Nat)) (a b : Nat) : Bool := (a != b) && gs.any fun ns => decide (a ∈ ns) && decide (b ∈ ns)
theorem tieB_iff {gs : List (List Nat)} {a b : Nat} : tieB gs a b = true ↔ a ≠ b ∧ ∃ ns ∈ gs, a ∈ ns ∧ b ∈ ns := by
  unfold tieB
  simp
def nb (n : Nat) (gs : List (List Nat)) (a : Nat) : List Nat := (List.range n).filter (tieB gs a)
theorem mem_nb {n : Nat} {gs : List (List Nat)} {a b : Nat} : b ∈ nb n gs a ↔ b < n ∧ tieB gs a b = true := by
  unfold nb
  rw [List.mem_filter, List.mem_range]
inductive Rch (n : Nat) (gs : List (List Nat)) (T : List Nat) (x : Nat) : Nat → Prop where
  | base : Rch n gs T x x
  | step {y z : Nat} : Rch n gs T x y → (y = x ∨ y ∈ T) → z ∈ nb n gs y → Rch n gs T x z
open Classical in
noncomputable def bagN (n : Nat) (gs : List (List Nat)) (T : List Nat) (x : Nat) : List Nat := (List.range n).filter fun z => decide (z ∉ T) && decide (Rch n gs T x z)
theorem mem_bag {n : Nat} {gs : List (List Nat)} {T : List Nat} {x z : Nat} : z ∈ bagN n gs T x ↔ z < n ∧ z ∉ T ∧ Rch n gs T x z := by
  unfold bagN
  rw [List.mem_filter, List.mem_range]
  simp
theorem rising_filter {l : List Nat} (p : Nat → Bool) (h : Rising l) : Rising (l.filter p) := List.Pairwise.filter p h
theorem rising_range (n : Nat) : Rising (List.range n) := List.pairwise_lt_range
theorem bag_rising (n : Nat) (gs : List (List Nat)) (T : List Nat) (x : Nat) : Rising (bagN n gs T x) := by
  unfold bagN
  exact rising_filter _ (rising_range n)
theorem Rch.closed {n : Nat} {gs : List (List Nat)} {T : List Nat} {x : Nat} {P : Nat → Prop} (h0 : P x) (hc : ∀ y, P y → (y = x ∨ y ∈ T) → ∀ z ∈ nb n gs y, P z) {z : Nat} (h : Rch n gs T x z) : P z := by
  induction h with
  | base => exact h0
  | step _ h1 h2 ih => exact hc _ ih h1 _ h2
theorem Rch.mono {n : Nat} {gs : List (List Nat)} {T T' : List Nat} (hT : ∀ t ∈ T, t ∈ T') {x z : Nat} (h : Rch n gs T x z) : Rch n gs T' x z := by
  induction h with
  | base => exact .base
  | step _ h1 h2 ih => exact .step ih (h1.imp id (hT _)) h2
theorem bag_perm {n : Nat} {gs : List (List Nat)} {T T' : List Nat} (h : ∀ t, t ∈ T ↔ t ∈ T') (x : Nat) : bagN n gs T x = bagN n gs T' x := by
  refine rising_ext (bag_rising ..) (bag_rising ..) fun z => ?_
  rw [mem_bag, mem_bag, h z]
  exact ⟨fun ⟨a, b, c⟩ => ⟨a, b, c.mono fun t => (h t).1⟩, fun ⟨a, b, c⟩ => ⟨a, b, c.mono fun t => (h t).2⟩⟩
end PM
namespace LS
open PySem L2 HD PM
local macro_rules | `(tactic| trivial) => `(tactic| try simp -dsimp only [↓sIf, ↓sRet, ↓retD_ext, ↓retD_lst, ↓retD_al, ↓sSet, ↓sSetE, ↓sAsg, ↓sDrop, ↓sNext, ↓sFor, ↓sRetN, ↓sCont, ↓sBreak, ↓dTest, ↓dOp, ↓dVar_w, ↓dC, ↓dCons, ↓dNil, ↓dTup, ↓dLst, ↓frzDs, ↓frzD_ext, ↓frzD_lst, ↓frzD_al, ↓wd_ext, ↓wd_lst, ↓wd_al, ↓wds, ↓AtS_ext, ↓AtS_lst, ↓AtL, ↓fAdd, ↓fSub, ↓fMul, ↓fDiv, ↓fMod, ↓fPow, ↓fCmp, ↓fIn, ↓fEq_ii, ↓fEq_ss, ↓fEq_bb, ↓fEq_tt, ↓fEq_ll, ↓fNe_ii, ↓fNe_ss, ↓fNe_bb, ↓fNe_tt, ↓fNe_ll, ↓fIx_l, ↓fIx_t, ↓fIx_k, ↓fIx_f, ↓GetS_some, ↓NatS_some, ↓fSl, ↓fIsN, ↓fNotN, ↓D.knN, ↓dNot, ↓dAnd, ↓dOr, ↓dAndV_w, ↓dOrV_w, ↓dNotV, ↓dIf, ↓dNeg, ↓dChain_w, ↓BlS_bl, ↓dCall_w, ↓dCallJ_w, ↓anyAl, ↓frozs, ↓froz, ↓gSet, ↓gTupD, ↓gsCons, ↓gsNil, ↓dSeq, ↓seqD_tup, ↓seqD_elst, ↓seqD_lst, ↓seqD_al, ↓dRange1, ↓dRange2, ↓dZip, ↓dCB, ↓dLc, ↓dYes, ↓dNoPart, ↓dPart, ↓dSl, ↓fLen, ↓fMin, ↓fMax, ↓fSum, ↓fAll, ↓fAny, ↓fSorted, ↓fTuple, ↓fList, ↓dRg1, ↓dRg2, ↓dLstRg, ↓dTupRg, ↓dIndex, ↓fIdx, ↓dAppend_w, ↓dExtend_w, ↓extD_lst, ↓dPopAt_w, ↓popD_int, ↓dPop_w, ↓mutD_w, ↓sSetItem_w, ↓setD_int, ↓dSortSet, ↓dTable_w, ↓wipeE, finals1, finals2, finals3, finals4, finals5, finals6, fin1_ext, fin1_lst, List.getElem?_cons_zero, List.getElem?_cons_succ, List.getElem?_nil, List.set_cons_zero, List.set_cons_succ, List.cons_append, List.nil_append, List.append_nil, List.replicate_succ, List.replicate_zero, List.map_cons, List.map_nil, List.length_cons, List.length_nil, true_and, and_true, ite_true, ite_false, if_true, if_false, Bool.false_eq_true, decide_eq_true_eq, Sl.plain, D.isSq, eq_self_iff_true, forall_const, reduceIte, true_or, or_true, atI_0, atI_1, atI_2, atI_3, ixN_0, ixN_1, ixN_2, AtS_ext, AtS_lst, FzS_lst, FzS_ext, GetS_some, NatS_some, ↓fIsi1, ↓fIsi2, BoolS_some, HD.kb_non_tuple, HD.kb_non_list, HD.kb_non_bool, HD.kb_non_int, HD.kb_non_str, HD.kb_bl_tuple, HD.kb_bl_list, HD.kb_bl_bool, HD.kb_bl_int, HD.kb_bl_str, HD.kb_int_tuple, HD.kb_int_list, HD.kb_int_bool, HD.kb_int_int, HD.kb_int_str, HD.kb_str_tuple, HD.kb_str_list, HD.kb_str_bool, HD.kb_str_int, HD.kb_str_str, HD.kb_lst_tuple, HD.kb_lst_list, HD.kb_lst_bool, HD.kb_lst_int, HD.kb_lst_str, HD.kb_tup_tuple, HD.kb_tup_list, HD.kb_tup_bool, HD.kb_tup_int, HD.kb_tup_str, ↓sFz_w, ↓FzS_lst, ↓FzS_ext, ↓dSortSetL, ↓fAbs, ↓fInt, ↓fRepr, ↓fLtT, ↓sRaise, ↓sTryKeep, ↓dCallV_w, ↓dMeth, ↓fCount, ↓fSplit, ↓seq_setE, ↓seq_set, ↓seq_drop, ↓seq_asg, ↓seq_if, ↓seq_for, ↓dStep, ↓fStep, ↓fMulT, ↓fIsB, ↓fNotB, ↓sPar, ↓dEnum, ↓dListZip, ↓dNest, ↓sSeal, ↓dNApp, ↓retD_reg, ↓dLenSet, ↓fSum2, ↓seq_putD, ↓seq_sealD, ↓dDIn, ↓dDGet, ↓sPutD, ↓dDNew, ↓dDOne, ↓sSealD, ↓dKeys, ↓keyS_dk, ↓dExtT])
local macro_rules | `(tactic| and_intros) => `(tactic| try simp -dsimp only [↓sIf, ↓sRet, ↓retD_ext, ↓retD_lst, ↓retD_al, ↓sSet, ↓sSetE, ↓sAsg, ↓sDrop, ↓sNext, ↓sFor, ↓sRetN, ↓sCont, ↓sBreak, ↓dTest, ↓dOp, ↓dC, ↓dCons, ↓dNil, ↓dTup, ↓dLst, ↓frzDs, ↓frzD_ext, ↓frzD_lst, ↓frzD_al, ↓wd_ext, ↓wd_lst, ↓wd_al, ↓wds, ↓AtS_ext, ↓AtS_lst, ↓AtL, ↓fAdd, ↓fSub, ↓fMul, ↓fDiv, ↓fMod, ↓fPow, ↓fCmp, ↓fIn, ↓fEq_ii, ↓fEq_ss, ↓fEq_bb, ↓fEq_tt, ↓fEq_ll, ↓fNe_ii, ↓fNe_ss, ↓fNe_bb, ↓fNe_tt, ↓fNe_ll, ↓fIx_l, ↓fIx_t, ↓fIx_k, ↓fIx_f, ↓GetS_some, ↓NatS_some, ↓fSl, ↓fIsN, ↓fNotN, ↓D.knN, ↓dNot, ↓dAnd, ↓dOr, ↓dAndV_w, ↓dOrV_w, ↓dNotV, ↓dIf, ↓dNeg, ↓dChain_w, ↓BlS_bl, ↓dCall_w, ↓dCallJ_w, ↓anyAl, ↓frozs, ↓froz, ↓gSet, ↓gTupD, ↓gsCons, ↓gsNil, ↓dSeq, ↓seqD_tup, ↓seqD_elst, ↓seqD_lst, ↓seqD_al, ↓dRange1, ↓dRange2, ↓dZip, ↓dCB, ↓dLc, ↓dYes, ↓dNoPart, ↓dPart, ↓dSl, ↓fLen, ↓fMin, ↓fMax, ↓fSum, ↓fAll, ↓fAny, ↓fSorted, ↓fTuple, ↓fList, ↓dRg1, ↓dRg2, ↓dLstRg, ↓dTupRg, ↓dIndex, ↓fIdx, ↓dAppend_w, ↓dExtend_w, ↓extD_lst, ↓dPopAt_w, ↓popD_int, ↓dPop_w, ↓mutD_w, ↓sSetItem_w, ↓setD_int, ↓dSortSet, ↓dTable_w, ↓wipeE, finals1, finals2, finals3, finals4, finals5, finals6, fin1_ext, fin1_lst, List.getElem?_cons_zero, List.getElem?_cons_succ, List.getElem?_nil, List.set_cons_zero, List.set_cons_succ, List.cons_append, List.nil_append, List.append_nil, List.replicate_succ, List.replicate_zero, List.map_cons, List.map_nil, List.length_cons, List.length_nil, true_and, and_true, ite_true, ite_false, if_true, if_false, Bool.false_eq_true, decide_eq_true_eq, Sl.plain, D.isSq, eq_self_iff_true, forall_const, reduceIte, true_or, or_true, atI_0, atI_1, atI_2, atI_3, ixN_0, ixN_1, ixN_2, AtS_ext, AtS_lst, FzS_lst, FzS_ext, GetS_some, NatS_some, ↓fIsi1, ↓fIsi2, BoolS_some, HD.kb_non_tuple, HD.kb_non_list, HD.kb_non_bool, HD.kb_non_int, HD.kb_non_str, HD.kb_bl_tuple, HD.kb_bl_list, HD.kb_bl_bool, HD.kb_bl_int, HD.kb_bl_str, HD.kb_int_tuple, HD.kb_int_list, HD.kb_int_bool, HD.kb_int_int, HD.kb_int_str, HD.kb_str_tuple, HD.kb_str_list, HD.kb_str_bool, HD.kb_str_int, HD.kb_str_str, HD.kb_lst_tuple, HD.kb_lst_list, HD.kb_lst_bool, HD.kb_lst_int, HD.kb_lst_str, HD.kb_tup_tuple, HD.kb_tup_list, HD.kb_tup_bool, HD.kb_tup_int, HD.kb_tup_str, ↓sFz_w, ↓FzS_lst, ↓FzS_ext, ↓dSortSetL, ↓fAbs, ↓fInt, ↓fRepr, ↓fLtT, ↓sRaise, ↓sTryKeep, ↓dCallV_w, ↓dMeth, ↓fCount, ↓fSplit, ↓seq_setE, ↓seq_set, ↓seq_drop, ↓seq_asg, ↓seq_if, ↓seq_for, ↓dStep, ↓fStep, ↓fMulT, ↓fIsB, ↓fNotB, ↓sPar, ↓dEnum, ↓dListZip, ↓dNest, ↓sSeal, ↓dNApp, ↓retD_reg, ↓dLenSet, ↓fSum2, ↓seq_putD, ↓seq_sealD, ↓dDIn, ↓dDGet, ↓sPutD, ↓dDNew, ↓dDOne, ↓sSealD, ↓dKeys, ↓keyS_dk, ↓dExtT, ↓dv0, ↓dw0, ↓dv1, ↓dw1, ↓dv2, ↓dw2, ↓dv3, ↓dw3, ↓dv4, ↓dw4, ↓dv5, ↓dw5, ↓dv6, ↓dw6, ↓dv7, ↓dw7, ↓dv8, ↓dw8, ↓dv9, ↓dw9, ↓dv10, ↓dw10, ↓dv11, ↓dw11, ↓dv12, ↓dw12, ↓dv13, ↓dw13, ↓dv14, ↓dw14, ↓dv15, ↓dw15, ↓dv16, ↓dw16, ↓dv17, ↓dw17, ↓dv18, ↓dw18, ↓dv19, ↓dw19])
abbrev gsOf (ps : List Part) : List (List Nat) := ps.map fun p => p.ns
abbrev tiDs (n : Nat) (gs : List (List Nat)) : List D := (List.range n).map fun a => D.lst (nD (nb n gs a))
structure NsOk (S : List Nat) (ps : List Part) : Prop where
  few : S.length ≤ 24
  many : ps.length ≤ 1000
  ok : ∀ p ∈ ps, Rising p.ns ∧ ∀ n ∈ p.ns, n < S.length
def sp_ties_of : DSpec := fun args Q _ => ∃ (S : List Nat) (ps : List Part), args = [.ext (dSh S ps)] ∧ NsOk S ps ∧ ∀ a fin, Q (.lst a (tiDs S.length (gsOf ps))) fin
def b1_ties_of : DTS :=
    (sIf (dTest (dOp (fIn false) (dVar 2) (dOp fIx (dVar 4) (dC (.int 0))))) (sDrop (dExtT 3 (dOp fIx (dVar 4) (dC (.int 0))))) sNext)
def e2_ties_of : DT :=
    (dVar 5)
def k3_ties_of : DTS :=
    (sDrop (dAppend 1 (dLc (dRange1 (dCons (dCB fLen (dCons (dOp fIx (dVar 0) (dC (.int 0))) dNil)) dNil)) (gSet 5) (dAnd (dTest (dOp fNe (dVar 5) (dVar 2))) (dTest (dOp (fIn false) (dVar 5) (dVar 3)))) e2_ties_of [5])))
def b4_ties_of : DTS :=
    (sSeq (sSet 3 (dLst dNil))
    (sSeq (sFor (dSeq (dOp fIx (dVar 0) (dC (.int 1)))) (gSet 4) b1_ties_of)
    k3_ties_of))
def k5_ties_of : DTS :=
    (sRet (dVar 1))
def t_ties_of : DTS :=
    (sSeq (sSet 1 (dLst dNil))
    (sSeq (sFor (dRange1 (dCons (dCB fLen (dCons (dOp fIx (dVar 0) (dC (.int 0))) dNil)) dNil)) (gSet 2) b4_ties_of)
    k5_ties_of))
def nearL (x : Nat) (ps : List Part) : List Nat := ((ps.filter fun p => decide (x ∈ p.ns)).map fun p => p.ns).flatten
theorem mem_nearL {x y : Nat} {ps : List Part} : y ∈ nearL x ps ↔ ∃ p ∈ ps, x ∈ p.ns ∧ y ∈ p.ns := by
  unfold nearL
  simp only [List.mem_flatten, List.mem_map, List.mem_filter]
  constructor
  · rintro ⟨l, ⟨p, ⟨h1, h2⟩, rfl⟩, h3⟩
    exact ⟨p, h1, by simpa using h2, h3⟩
  · rintro ⟨p, h1, h2, h3⟩
    exact ⟨p.ns, ⟨p, ⟨h1, by simpa using h2⟩, rfl⟩, h3⟩
theorem nearL_snoc (x : Nat) (ps : List Part) (p : Part) : nearL x (ps ++ [p]) = nearL x ps ++ if x ∈ p.ns then p.ns else [] := by
  unfold nearL
  rw [List.filter_append, List.map_append, List.flatten_append]
  by_cases h : x ∈ p.ns <;> simp [h]
theorem nearL_len {x n : Nat} {ps : List Part} (h : ∀ p ∈ ps, p.ns.length ≤ n) : (nearL x ps).length ≤ ps.length * n := by
  induction ps with
  | nil => simp [nearL]
  | cons p ps ih =>
    have i := ih fun q hq => h q (List.mem_cons_of_mem _ hq)
    have hp := h p List.mem_cons_self
    have e : nearL x (p :: ps) = (if x ∈ p.ns then p.ns else []) ++ nearL x ps := by
      unfold nearL
      by_cases hx : x ∈ p.ns <;> simp [hx]
    rw [e, List.length_append, List.length_cons, Nat.succ_mul]
    split
    · omega
    · simp; omega
theorem nb_near {n x : Nat} {ps : List Part} : nb n (gsOf ps) x = (List.range n).filter fun y => (y != x) && decide (y ∈ nearL x ps) := by
  unfold nb
  refine List.filter_congr fun y _ => ?_
  rw [Bool.eq_iff_iff, tieB_iff]
  simp only [Bool.and_eq_true, bne_iff_ne, decide_eq_true_eq, mem_nearL]
  constructor
  · rintro ⟨h, ns, hm, h2⟩
    obtain ⟨p, hp, rfl⟩ := List.mem_map.1 hm
    exact ⟨fun z => h z.symm, p, hp, h2⟩
  · rintro ⟨h, p, hp, h2⟩
    exact ⟨fun z => h z.symm, p.ns, List.mem_map.2 ⟨p, hp, rfl⟩, h2⟩
theorem m_ties_of : Meets t_ties_of 1 5 sp_ties_of := by
  rintro args Qd Xd ⟨S, ps, rfl, ok, hQ⟩
  show t_ties_of _ _ [_, .un, .un, .un, .un, .un]
  unfold t_ties_of
  and_intros
  refine ⟨Nat.zero_le _, fun a1 => ?_⟩
  have h24 := ok.few
  have hnl : ∀ p ∈ ps, p.ns.length ≤ 24 := fun p hp => Nat.le_trans (rising_len (ok.ok p hp).1 (ok.ok p hp).2) h24
  rw [nD_len, rgD_nat]
  refine ⟨⟨by omega, by omega⟩, ?_⟩
  refine for_ind (fun x : Nat => D.int (x : Nat)) (fun xs env => ∃ (pre : List Nat) (u2 u3 u4 : Sl), env = [.ext (dSh S ps), .lst a1 (pre.map fun a => D.lst (nD (nb S.length (gsOf ps) a))), u2, u3, u4, .un] ∧ List.range S.length = pre ++ xs) ?_ ?_ (List.range S.length) _ ⟨[], _, _, _, rfl, rfl⟩
  · rintro env ⟨pre, u2, u3, u4, rfl, he⟩
    refine ⟨True.intro, ?_⟩
    rw [List.append_nil] at he
    subst he
    unfold k5_ties_of
    and_intros
    exact hQ _ _
  rintro x xs env N ⟨pre, u2, u3, u4, rfl, he⟩ hN
  have hlen := congrArg List.length he
  rw [List.length_range, List.length_append, List.length_cons] at hlen
  have hx : x < S.length := List.mem_range.1 (by rw [he]; simp)
  refine ⟨True.intro, ?_⟩
  unfold b4_ties_of
  and_intros
  refine ⟨Nat.zero_le _, fun a3 => ?_⟩
  trivial
  refine for_ind (fun p : Part => dP p) (fun qs env => ∃ (pr : List Part) (u4 : Sl), env = [.ext (dSh S ps), .lst a1 (pre.map fun a => D.lst (nD (nb S.length (gsOf ps) a))), dI (x : Nat), .lst a3 (nD (nearL x pr)), u4, .un] ∧ ps = pr ++ qs) ?_ ?_ ps _ ⟨[], _, rfl, rfl⟩
  · rintro env ⟨pr, u4, rfl, hp⟩
    refine ⟨True.intro, ?_⟩
    rw [List.append_nil] at hp
    subst hp
    unfold k3_ties_of
    and_intros
    rw [nD_len, rgD_nat]
    refine ⟨⟨by omega, by omega⟩, ?_⟩
    refine lc_filter (fun y : Nat => D.int (y : Nat)) (fun y => .int (y : Nat)) (fun y => (y != x) && decide (y ∈ nearL x ps)) True.intro (List.range S.length) (by rw [List.length_range]; exact Nat.le_trans h24 (by decide)) (fun y hy R hR => ?_) fun b => ?_
    · unfold e2_ties_of
      trivial
      rw [isIn_nat]
      by_cases e : y = x
      · subst e
        rw [if_neg (by simp)]
        rw [if_neg (by simp)] at hR
        exact hR
      · rw [if_pos (by simpa using fun z : (y : Int) = x => e (by omega))]
        refine ⟨rfl, flat_nD _, ?_⟩
        by_cases hm : y ∈ nearL x ps
        · rw [if_pos (by simpa using hm)]
          rw [if_pos (by simp [e, hm])] at hR
          exact hR
        · rw [if_neg (by simpa using hm)]
          rw [if_neg (by simp [e, hm])] at hR
          exact hR
    trivial
    refine ⟨by rw [List.length_map]; exact Nat.lt_of_lt_of_le (by omega : pre.length < 100) (by decide), hN _ ⟨pre ++ [x], dI (x : Nat), .lst a3 (nD (nearL x ps)), u4, ?_, by rw [he]; simp⟩⟩
    rw [← nb_near, List.map_append]
    rfl
  rintro p qs env N' ⟨pr, u4, rfl, hp⟩ hN'
  refine ⟨True.intro, ?_⟩
  unfold b1_ties_of
  and_intros
  rw [isIn_nat]
  refine ⟨rfl, flat_nD _, ?_⟩
  have hpm : p ∈ ps := by rw [hp]; simp
  have hnear : (nearL x pr).length ≤ pr.length * 24 := nearL_len fun q hq => hnl q (by rw [hp]; exact List.mem_append_left _ hq)
  have hpl := congrArg List.length hp
  rw [List.length_append, List.length_cons] at hpl
  have hps := ok.many
  have hp24 := hnl p hpm
  by_cases hm : x ∈ p.ns
  · rw [if_pos (by simpa using hm)]
    refine ⟨⟨a3, _, rfl⟩, a3, _, _, rfl, rfl, ?_, hN' _ ⟨pr ++ [p], .ext (dP p), ?_, by rw [hp]; simp⟩⟩
    · rw [nD_len, nD_len]
      exact Nat.le_trans (by omega : _ ≤ 1000000) (by decide)
    · rw [nearL_snoc, if_pos hm, nD_app]
  · rw [if_neg (by simpa using hm)]
    exact hN' _ ⟨pr ++ [p], .ext (dP p), by rw [nearL_snoc, if_neg hm, List.append_nil], by rw [hp]; simp⟩
abbrev tiD (n : Nat) (gs : List (List Nat)) : D := .lst (tiDs n gs)
abbrev seenS (a : Addr) (l : List Nat) : Sl := dkS a (l.map fun s : Nat => ((.inl (s : Int) : Key), D.bl true))
def sp_bag_by : DSpec := fun args Q _ => ∃ (n : Nat) (gs : List (List Nat)) (T : List Nat) (Z : D) (x : Nat), args = [.ext (tiD n gs), .ext Z, dI (x : Nat)] ∧ SqN T Z ∧ n ≤ 24 ∧ x < n ∧ x ∉ T ∧ ∀ fin, Q (.ext (.tup (nD (bagN n gs T x)))) fin
def b1_bag_by : DTS :=
    (sIf (dTest (dDIn true 3 (dVar 6))) (sSeq (sPutD 3 (dVar 6) (dC (.bl true)))
    (sIf (dTest (dOp (fIn false) (dVar 6) (dVar 1))) (sDrop (dAppend 4 (dVar 6))) sNext)) sNext)
def b2_bag_by : DTS :=
    (sSeq (sSetE 5 (dPop 4))
    (sFor (dSeq (dOp fIx (dVar 0) (dVar 5))) (gSet 6) b1_bag_by))
def e3_bag_by : DT :=
    (dVar 7)
def k4_bag_by : DTS :=
    (sSealD 3 (sRet (dCB fTuple (dCons (dCB fSorted (dCons (dLc (dKeys (dVar 3)) (gSet 7) (dTest (dOp (fIn true) (dVar 7) (dVar 1))) e3_bag_by [7]) dNil)) dNil))))
def t_bag_by : DTS :=
    (sSeq (sSet 3 (dDOne (dVar 2) (dC (.bl true))))
    (sSeq (sSet 4 (dLst (dCons (dVar 2) dNil)))
    (sSeq (sWhile (dTest (dOp fNe (dVar 4) (dLst dNil))) b2_bag_by)
    k4_bag_by)))
theorem luK_seen (l : List Nat) (x : Nat) : (luK (l.map fun s : Nat => ((.inl (s : Int) : Key), D.bl true)) (.inl (x : Int))).isSome = decide (x ∈ l) := by
  rw [luK_isSome, List.map_map, Bool.eq_iff_iff]
  simp only [decide_eq_true_eq, List.mem_map, Function.comp_apply]
  constructor
  · rintro ⟨s, hs, e⟩
    have e : (s : Int) = x := Sum.inl.inj e
    have : s = x := by omega
    rw [← this]; exact hs
  · intro h; exact ⟨x, h, rfl⟩
theorem put_seen {l : List Nat} {x : Nat} (h : x ∉ l) : ptK (l.map fun s : Nat => ((.inl (s : Int) : Key), D.bl true)) (.inl (x : Int)) (.bl true) = (l ++ [x]).map fun s : Nat => ((.inl (s : Int) : Key), D.bl true) := by
  rw [ptK_new, List.map_append]
  · rfl
  · have := luK_seen l x
    rw [decide_eq_false h] at this
    cases e : luK (l.map fun s : Nat => ((.inl (s : Int) : Key), D.bl true)) (.inl (x : Int)) with
    | none => rfl
    | some b => rw [e] at this; cases this
theorem nodup_le {n : Nat} : ∀ {l : List Nat}, l.Nodup → (∀ x ∈ l, x < n) → l.length ≤ n := by
  induction n with
  | zero =>
    intro l _ h
    cases l with
    | nil => exact Nat.le_refl _
    | cons x l => exact absurd (h x List.mem_cons_self) (Nat.not_lt_zero _)
  | succ n ih =>
    intro l nd h
    have := ih (nd.erase n) fun x hx => by
      obtain ⟨h1, h2⟩ := nd.mem_erase_iff.1 hx
      have := h x h2
      omega
    have e := List.length_erase (a := n) (l := l)
    rw [e] at this
    split at this <;> omega
theorem cmp_natsL (l : List Nat) : (D.lst (nD l)).cmp := pi_cmp (k := 1) (by decide) (by rw [D.pi]; exact pi_nats 0 l)
theorem cmp_natsT (l : List Nat) : (D.tup (nD l)).cmp := pi_cmp (k := 1) (by decide) (by rw [D.pi]; exact pi_nats 0 l)
theorem sorted_nats {l : List Nat} {ns : List Int} (nd : l.Nodup) (hp : ns.Perm (cI l)) (hs : ns.Pairwise (· ≤ ·)) : ∃ l' : List Nat, ns = cI l' ∧ Rising l' ∧ ∀ n, n ∈ l' ↔ n ∈ l := by
  have hpos : ∀ i ∈ ns, ∃ n : Nat, i = n := fun i hi => by
    obtain ⟨n, _, e⟩ := List.mem_map.1 (hp.mem_iff.1 hi)
    exact ⟨n, e.symm⟩
  have e : ns = cI (ns.map Int.toNat) := by
    rw [cI, List.map_map]
    refine (List.map_id' ns).symm.trans (List.map_congr_left fun i hi => ?_)
    obtain ⟨n, rfl⟩ := hpos i hi
    rfl
  have hp2 : (ns.map Int.toNat).Perm l := by
    have := hp.map Int.toNat
    rw [cI, List.map_map] at this
    have z : l.map (Int.toNat ∘ fun n : Nat => (n : Int)) = l := (List.map_congr_left fun _ _ => rfl).trans (List.map_id' l)
    rw [z] at this
    exact this
  exact ⟨ns.map Int.toNat, e, rising_of (by rw [e] at hs; exact hs) (hp2.symm.nodup nd), fun n => hp2.mem_iff⟩
structure Wk (n : Nat) (gs : List (List Nat)) (T : List Nat) (x : Nat) (seen W : List Nat) (P : Nat → Prop) : Prop where
  nd : seen.Nodup
  ok : ∀ s ∈ seen, s < n ∧ Rch n gs T x s
  xin : x ∈ seen
  sub : ∀ s ∈ W, s ∈ seen ∧ (s = x ∨ s ∈ T)
  cl : ∀ s ∈ seen, (s = x ∨ s ∈ T) → s ∉ W → P s → ∀ z ∈ nb n gs s, z ∈ seen
  wl : W.length ≤ seen.length
theorem m_bag_by : Meets t_bag_by 3 5 sp_bag_by := by
  rintro args Qd Xd ⟨n, gs, T, Z, x, rfl, hZ, h24, hx, hxT, hQ⟩
  show t_bag_by _ _ [_, _, _, .un, .un, .un, .un, .un]
  unfold t_bag_by
  and_intros
  refine ⟨.inl (x : Int), rfl, fun a3 => ?_⟩
  trivial
  refine ⟨by decide, fun a4 => ?_⟩
  refine ⟨fun m env => ∃ (seen W : List Nat) (u5 u6 : Sl), env = [.ext (tiD n gs), .ext Z, dI (x : Nat), seenS a3 seen, .lst a4 (nD W), u5, u6, .un] ∧ Wk n gs T x seen W (fun _ => True) ∧ m = (n - seen.length) + W.length, ⟨_, [x], [x], _, _, rfl, ?_, rfl⟩, ?_⟩
  · exact ⟨by simp, fun s hs => by rw [List.mem_singleton.1 hs]; exact ⟨hx, .base⟩, by simp, fun s hs => ⟨hs, .inl (List.mem_singleton.1 hs)⟩, fun s hs _ h => absurd hs h, Nat.le_refl _⟩
  rintro m env ⟨seen, W, u5, u6, rfl, wk, rfl⟩
  trivial
  refine ⟨Nat.zero_le _, cmp_natsL W, cmp_natsL [], ?_⟩
  rcases W.eq_nil_or_concat with rfl | ⟨W, y, rfl⟩
  · rw [if_neg (show ¬(!D.eqv (.lst (nD [])) (.lst [])) = true by rw [show D.eqv (.lst (nD [])) (.lst []) = true from eqv_refl (d := .lst []) (cmp_natsL [])]; decide)]
    unfold k4_bag_by
    and_intros
    refine ⟨a3, _, rfl, ?_⟩
    trivial
    have hall : ∀ z, Rch n gs T x z → z ∈ seen := fun z hz => hz.closed (P := (· ∈ seen)) wk.xin fun y hy h1 => wk.cl y hy h1 (by simp) True.intro
    have hk : (List.map (fun x : Key × D => x.1) (List.map (fun s : Nat => ((Sum.inl (s : Int) : Key), D.bl true)) seen)).map kD = seen.map fun s : Nat => D.int (s : Nat) := by
      rw [List.map_map, List.map_map]
      rfl
    rw [hk]
    have hsl := nodup_le wk.nd fun s hs => (wk.ok s hs).1
    refine lc_filter (fun s : Nat => D.int (s : Nat)) (fun s => .int (s : Nat)) (fun s => !decide (s ∈ T)) True.intro seen (Nat.le_trans (by omega : seen.length ≤ 100) (by decide)) (fun s hs R hR => ?_) fun b => ?_
    · unfold e3_bag_by
      rcases hZ with rfl | rfl
      · trivial
        rw [isIn_nat]
        exact ⟨rfl, flat_nD _, R_if rfl hR⟩
      · trivial
        rw [isIn_nat]
        exact ⟨rfl, flat_nD _, R_if rfl hR⟩
    trivial
    refine ⟨cI (seen.filter fun s => !decide (s ∈ T)), by rw [List.map_map]; rfl, fun ns' hp hs => ?_⟩
    obtain ⟨l', rfl, hr, hm⟩ := sorted_nats (wk.nd.filter _) hp hs
    have e : l' = bagN n gs T x := rising_ext hr (bag_rising ..) fun z => by
      rw [hm, List.mem_filter, mem_bag]
      constructor
      · rintro ⟨h1, h2⟩
        exact ⟨(wk.ok z h1).1, by simpa using h2, (wk.ok z h1).2⟩
      · rintro ⟨_, h2, h3⟩
        exact ⟨hall z h3, by simpa using h2⟩
    subst e
    rw [cI, List.map_map]
    exact hQ _
  · have hlast : (nD (W.concat y))[(nD (W.concat y)).length - 1]? = some (.int (y : Nat)) := by
      rw [List.concat_eq_append, nD_app, List.length_append]
      show (nD W ++ [D.int (y : Nat)])[(nD W).length + 1 - 1]? = _
      rw [Nat.add_sub_cancel, List.getElem?_append_right (Nat.le_refl _), Nat.sub_self]
      rfl
    rw [if_pos (by
      rw [List.concat_eq_append]
      cases W <;> rfl)]
    unfold b2_bag_by
    and_intros
    refine ⟨_, hlast, ?_⟩
    trivial
    have hdl : (nD (W.concat y)).dropLast = nD W := by
      rw [List.concat_eq_append, nD_app]
      exact List.dropLast_concat
    rw [hdl]
    obtain ⟨hys, hyt⟩ := wk.sub y (by simp)
    obtain ⟨hyn, hyr⟩ := wk.ok y hys
    refine ⟨_, atN (x := D.lst (nD (nb n gs y))) (by rw [List.getElem?_map, List.getElem?_range hyn]; rfl), ?_⟩
    trivial
    have hsl := nodup_le wk.nd fun s hs => (wk.ok s hs).1
    have hwl : (W.concat y).length = W.length + 1 := by simp
    rw [hwl]
    refine for_ind (fun z : Nat => D.int (z : Nat)) (fun zs env => ∃ (seen' W' : List Nat) (u6 : Sl), env = [.ext (tiD n gs), .ext Z, dI (x : Nat), seenS a3 seen', .lst a4 (nD W'), dI (y : Nat), u6, .un] ∧ Wk n gs T x seen' W' (fun s => s ≠ y) ∧ y ∈ seen' ∧ (∀ z ∈ nb n gs y, z ∈ seen' ∨ z ∈ zs) ∧ (∀ z ∈ zs, z ∈ nb n gs y) ∧ (n - seen'.length) + W'.length < n - seen.length + (W.length + 1)) ?_ ?_ (nb n gs y) _ ⟨seen, W, u6, rfl, ⟨wk.nd, wk.ok, wk.xin, fun s hs => wk.sub s (by simp [hs]), fun s hs h1 h2 h3 => wk.cl s hs h1 (by simp [h2, h3]) True.intro, by have := wk.wl; rw [hwl] at this; omega⟩, hys, fun z hz => .inr hz, fun z hz => hz, by omega⟩
    · rintro env ⟨seen', W', u6, rfl, wk', hy', hz, _, hm⟩
      refine ⟨True.intro, _, hm, seen', W', _, _, rfl, ⟨wk'.nd, wk'.ok, wk'.xin, wk'.sub, fun s hs h1 h2 _ => ?_, wk'.wl⟩, rfl⟩
      by_cases e : s = y
      · subst e
        intro z hzs
        exact (hz z hzs).resolve_right (by simp)
      · exact wk'.cl s hs h1 h2 e
    rintro z zs env N ⟨seen', W', u6, rfl, wk', hy', hz, hzs, hm⟩ hN
    refine ⟨True.intro, ?_⟩
    unfold b1_bag_by
    trivial
    refine ⟨.inl (z : Int), _, rfl, .inl ⟨a3, rfl⟩, ?_⟩
    rw [luK_seen]
    have hznb := hzs z List.mem_cons_self
    have hzn := (mem_nb.1 hznb).1
    have hsl' := nodup_le wk'.nd fun s hs => (wk'.ok s hs).1
    by_cases hzm : z ∈ seen'
    · rw [if_neg (by simp [hzm])]
      exact hN _ ⟨seen', W', _, rfl, wk', hy', fun w hw => (hz w hw).elim .inl fun h => (List.mem_cons.1 h).elim (fun e => .inl (by rw [e]; exact hzm)) .inr, fun w hw => hzs w (List.mem_cons_of_mem _ hw), hm⟩
    rw [if_pos (by simp [hzm])]
    trivial
    have hnew : (seen' ++ [z]).length ≤ n := nodup_le (List.nodup_append.2 ⟨wk'.nd, by simp, fun a ha b hb e => hzm (by rw [← List.mem_singleton.1 hb, ← e]; exact ha)⟩) fun s hs => by
      rcases List.mem_append.1 hs with h | h
      · exact (wk'.ok s h).1
      · rw [List.mem_singleton.1 h]; exact hzn
    have hzr : Rch n gs T x z := .step hyr hyt hznb
    have hl1 : (seen' ++ [z]).length = seen'.length + 1 := by simp
    refine ⟨⟨a3, _, rfl⟩, a3, _, .inl (z : Int), rfl, rfl, by rw [List.length_map]; exact Nat.lt_of_lt_of_le (by omega : seen'.length < 100) (by decide), ?_⟩
    rw [put_seen hzm]
    have wk2 : ∀ W2, (∀ s ∈ W2, (s ∈ W' ∨ s = z) ∧ (s = x ∨ s ∈ T)) → (∀ s ∈ W', s ∈ W2) → (z ∈ T → z ∈ W2) → W2.length ≤ W'.length + 1 → Wk n gs T x (seen' ++ [z]) W2 (fun s => s ≠ y) := fun W2 h1 h2 h3 h4 =>
      ⟨List.nodup_append.2 ⟨wk'.nd, by simp, fun a ha b hb e => hzm (by rw [← List.mem_singleton.1 hb, ← e]; exact ha)⟩, fun s hs => by
        rcases List.mem_append.1 hs with h | h
        · exact wk'.ok s h
        · rw [List.mem_singleton.1 h]; exact ⟨hzn, hzr⟩, List.mem_append_left _ wk'.xin, fun s hs => ⟨by
        rcases (h1 s hs).1 with h | h
        · exact List.mem_append_left _ (wk'.sub s h).1
        · rw [h]; simp, (h1 s hs).2⟩, fun s hs g1 g2 g3 w hw => by
        rcases List.mem_append.1 hs with h | h
        · exact List.mem_append_left _ (wk'.cl s h g1 (fun m => g2 (h2 s m)) g3 w hw)
        · rw [List.mem_singleton.1 h] at g1 g2
          rcases g1 with e | e
          · exact absurd (e ▸ wk'.xin) hzm
          · exact absurd (h3 e) g2, by rw [hl1]; have := wk'.wl; omega⟩
    have hz2 : ∀ w ∈ nb n gs y, w ∈ seen' ++ [z] ∨ w ∈ zs := fun w hw => (hz w hw).elim (fun h => .inl (List.mem_append_left _ h)) fun h => (List.mem_cons.1 h).elim (fun e => .inl (by rw [e]; simp)) .inr
    have hzs2 : ∀ w ∈ zs, w ∈ nb n gs y := fun w hw => hzs w (List.mem_cons_of_mem _ hw)
    have hwl' : W'.length ≤ 100 := by have := wk'.wl; omega
    have fin : if (D.int (z : Int)).isIn (nD T) = true then (nD W').length < sizeLine ∧ N [.ext (tiD n gs), .ext Z, dI (x : Nat), seenS a3 (seen' ++ [z]), .lst a4 (nD W' ++ [.int (z : Nat)]), dI (y : Nat), dI (z : Nat), .un] else N [.ext (tiD n gs), .ext Z, dI (x : Nat), seenS a3 (seen' ++ [z]), .lst a4 (nD W'), dI (y : Nat), dI (z : Nat), .un] := by
      rw [isIn_nat]
      by_cases hzT : z ∈ T
      · rw [if_pos (by simpa using hzT)]
        refine ⟨by rw [nD_len]; exact Nat.lt_of_le_of_lt hwl' (by decide), hN _ ⟨seen' ++ [z], W' ++ [z], _, by rw [nD_app]; rfl, wk2 (W' ++ [z]) (fun s hs => ?_) (fun s hs => List.mem_append_left _ hs) (fun _ => by simp) (by simp), List.mem_append_left _ hy', hz2, hzs2, ?_⟩⟩
        · rcases List.mem_append.1 hs with h | h
          · exact ⟨.inl h, (wk'.sub s h).2⟩
          · have e := List.mem_singleton.1 h
            exact ⟨.inr e, .inr (by rw [e]; exact hzT)⟩
        · rw [hl1, List.length_append, List.length_singleton]; omega
      · rw [if_neg (by simpa using hzT)]
        refine hN _ ⟨seen' ++ [z], W', _, rfl, wk2 W' (fun s hs => ⟨.inl hs, (wk'.sub s hs).2⟩) (fun s hs => hs) (fun h => absurd h hzT) (by omega), List.mem_append_left _ hy', hz2, hzs2, ?_⟩
        rw [hl1]; omega
    rcases hZ with rfl | rfl
    · exact ⟨rfl, flat_nD _, fin⟩
    · exact ⟨rfl, flat_nD _, fin⟩
end LS
namespace LS
open PySem L2 HD PM
local macro_rules | `(tactic| trivial) => `(tactic| try simp -dsimp only [↓sIf, ↓sRet, ↓retD_ext, ↓retD_lst, ↓retD_al, ↓sSet, ↓sSetE, ↓sAsg, ↓sDrop, ↓sNext, ↓sFor, ↓sRetN, ↓sCont, ↓sBreak, ↓dTest, ↓dOp, ↓dVar_w, ↓dC, ↓dCons, ↓dNil, ↓dTup, ↓dLst, ↓frzDs, ↓frzD_ext, ↓frzD_lst, ↓frzD_al, ↓wd_ext, ↓wd_lst, ↓wd_al, ↓wds, ↓AtS_ext, ↓AtS_lst, ↓AtL, ↓fAdd, ↓fSub, ↓fMul, ↓fDiv, ↓fMod, ↓fPow, ↓fCmp, ↓fIn, ↓fEq_ii, ↓fEq_ss, ↓fEq_bb, ↓fEq_tt, ↓fEq_ll, ↓fNe_ii, ↓fNe_ss, ↓fNe_bb, ↓fNe_tt, ↓fNe_ll, ↓fIx_l, ↓fIx_t, ↓fIx_k, ↓fIx_f, ↓GetS_some, ↓NatS_some, ↓fSl, ↓fIsN, ↓fNotN, ↓D.knN, ↓dNot, ↓dAnd, ↓dOr, ↓dAndV_w, ↓dOrV_w, ↓dNotV, ↓dIf, ↓dNeg, ↓dChain_w, ↓BlS_bl, ↓dCall_w, ↓dCallJ_w, ↓anyAl, ↓frozs, ↓froz, ↓gSet, ↓gTupD, ↓gsCons, ↓gsNil, ↓dSeq, ↓seqD_tup, ↓seqD_elst, ↓seqD_lst, ↓seqD_al, ↓dRange1, ↓dRange2, ↓dZip, ↓dCB, ↓dLc, ↓dYes, ↓dNoPart, ↓dPart, ↓dSl, ↓fLen, ↓fMin, ↓fMax, ↓fSum, ↓fAll, ↓fAny, ↓fSorted, ↓fTuple, ↓fList, ↓dRg1, ↓dRg2, ↓dLstRg, ↓dTupRg, ↓dIndex, ↓fIdx, ↓dAppend_w, ↓dExtend_w, ↓extD_lst, ↓dPopAt_w, ↓popD_int, ↓dPop_w, ↓mutD_w, ↓sSetItem_w, ↓setD_int, ↓dSortSet, ↓dTable_w, ↓wipeE, finals1, finals2, finals3, finals4, finals5, finals6, fin1_ext, fin1_lst, List.getElem?_cons_zero, List.getElem?_cons_succ, List.getElem?_nil, List.set_cons_zero, List.set_cons_succ, List.cons_append, List.nil_append, List.append_nil, List.replicate_succ, List.replicate_zero, List.map_cons, List.map_nil, List.length_cons, List.length_nil, true_and, and_true, ite_true, ite_false, if_true, if_false, Bool.false_eq_true, decide_eq_true_eq, Sl.plain, D.isSq, eq_self_iff_true, forall_const, reduceIte, true_or, or_true, atI_0, atI_1, atI_2, atI_3, ixN_0, ixN_1, ixN_2, AtS_ext, AtS_lst, FzS_lst, FzS_ext, GetS_some, NatS_some, ↓fIsi1, ↓fIsi2, BoolS_some, HD.kb_non_tuple, HD.kb_non_list, HD.kb_non_bool, HD.kb_non_int, HD.kb_non_str, HD.kb_bl_tuple, HD.kb_bl_list, HD.kb_bl_bool, HD.kb_bl_int, HD.kb_bl_str, HD.kb_int_tuple, HD.kb_int_list, HD.kb_int_bool, HD.kb_int_int, HD.kb_int_str, HD.kb_str_tuple, HD.kb_str_list, HD.kb_str_bool, HD.kb_str_int, HD.kb_str_str, HD.kb_lst_tuple, HD.kb_lst_list, HD.kb_lst_bool, HD.kb_lst_int, HD.kb_lst_str, HD.kb_tup_tuple, HD.kb_tup_list, HD.kb_tup_bool, HD.kb_tup_int, HD.kb_tup_str, ↓sFz_w, ↓FzS_lst, ↓FzS_ext, ↓dSortSetL, ↓fAbs, ↓fInt, ↓fRepr, ↓fLtT, ↓sRaise, ↓sTryKeep, ↓dCallV_w, ↓dMeth, ↓fCount, ↓fSplit, ↓seq_setE, ↓seq_set, ↓seq_drop, ↓seq_asg, ↓seq_if, ↓seq_for, ↓dStep, ↓fStep, ↓fMulT, ↓fIsB, ↓fNotB, ↓sPar, ↓dEnum, ↓dListZip, ↓dNest, ↓sSeal, ↓dNApp, ↓retD_reg, ↓dLenSet, ↓fSum2, ↓seq_putD, ↓seq_sealD, ↓dDIn, ↓dDGet, ↓sPutD, ↓dDNew, ↓dDOne, ↓sSealD, ↓dKeys, ↓keyS_dk, ↓dExtT])
local macro_rules | `(tactic| and_intros) => `(tactic| try simp -dsimp only [↓sIf, ↓sRet, ↓retD_ext, ↓retD_lst, ↓retD_al, ↓sSet, ↓sSetE, ↓sAsg, ↓sDrop, ↓sNext, ↓sFor, ↓sRetN, ↓sCont, ↓sBreak, ↓dTest, ↓dOp, ↓dC, ↓dCons, ↓dNil, ↓dTup, ↓dLst, ↓frzDs, ↓frzD_ext, ↓frzD_lst, ↓frzD_al, ↓wd_ext, ↓wd_lst, ↓wd_al, ↓wds, ↓AtS_ext, ↓AtS_lst, ↓AtL, ↓fAdd, ↓fSub, ↓fMul, ↓fDiv, ↓fMod, ↓fPow, ↓fCmp, ↓fIn, ↓fEq_ii, ↓fEq_ss, ↓fEq_bb, ↓fEq_tt, ↓fEq_ll, ↓fNe_ii, ↓fNe_ss, ↓fNe_bb, ↓fNe_tt, ↓fNe_ll, ↓fIx_l, ↓fIx_t, ↓fIx_k, ↓fIx_f, ↓GetS_some, ↓NatS_some, ↓fSl, ↓fIsN, ↓fNotN, ↓D.knN, ↓dNot, ↓dAnd, ↓dOr, ↓dAndV_w, ↓dOrV_w, ↓dNotV, ↓dIf, ↓dNeg, ↓dChain_w, ↓BlS_bl, ↓dCall_w, ↓dCallJ_w, ↓anyAl, ↓frozs, ↓froz, ↓gSet, ↓gTupD, ↓gsCons, ↓gsNil, ↓dSeq, ↓seqD_tup, ↓seqD_elst, ↓seqD_lst, ↓seqD_al, ↓dRange1, ↓dRange2, ↓dZip, ↓dCB, ↓dLc, ↓dYes, ↓dNoPart, ↓dPart, ↓dSl, ↓fLen, ↓fMin, ↓fMax, ↓fSum, ↓fAll, ↓fAny, ↓fSorted, ↓fTuple, ↓fList, ↓dRg1, ↓dRg2, ↓dLstRg, ↓dTupRg, ↓dIndex, ↓fIdx, ↓dAppend_w, ↓dExtend_w, ↓extD_lst, ↓dPopAt_w, ↓popD_int, ↓dPop_w, ↓mutD_w, ↓sSetItem_w, ↓setD_int, ↓dSortSet, ↓dTable_w, ↓wipeE, finals1, finals2, finals3, finals4, finals5, finals6, fin1_ext, fin1_lst, List.getElem?_cons_zero, List.getElem?_cons_succ, List.getElem?_nil, List.set_cons_zero, List.set_cons_succ, List.cons_append, List.nil_append, List.append_nil, List.replicate_succ, List.replicate_zero, List.map_cons, List.map_nil, List.length_cons, List.length_nil, true_and, and_true, ite_true, ite_false, if_true, if_false, Bool.false_eq_true, decide_eq_true_eq, Sl.plain, D.isSq, eq_self_iff_true, forall_const, reduceIte, true_or, or_true, atI_0, atI_1, atI_2, atI_3, ixN_0, ixN_1, ixN_2, AtS_ext, AtS_lst, FzS_lst, FzS_ext, GetS_some, NatS_some, ↓fIsi1, ↓fIsi2, BoolS_some, HD.kb_non_tuple, HD.kb_non_list, HD.kb_non_bool, HD.kb_non_int, HD.kb_non_str, HD.kb_bl_tuple, HD.kb_bl_list, HD.kb_bl_bool, HD.kb_bl_int, HD.kb_bl_str, HD.kb_int_tuple, HD.kb_int_list, HD.kb_int_bool, HD.kb_int_int, HD.kb_int_str, HD.kb_str_tuple, HD.kb_str_list, HD.kb_str_bool, HD.kb_str_int, HD.kb_str_str, HD.kb_lst_tuple, HD.kb_lst_list, HD.kb_lst_bool, HD.kb_lst_int, HD.kb_lst_str, HD.kb_tup_tuple, HD.kb_tup_list, HD.kb_tup_bool, HD.kb_tup_int, HD.kb_tup_str, ↓sFz_w, ↓FzS_lst, ↓FzS_ext, ↓dSortSetL, ↓fAbs, ↓fInt, ↓fRepr, ↓fLtT, ↓sRaise, ↓sTryKeep, ↓dCallV_w, ↓dMeth, ↓fCount, ↓fSplit, ↓seq_setE, ↓seq_set, ↓seq_drop, ↓seq_asg, ↓seq_if, ↓seq_for, ↓dStep, ↓fStep, ↓fMulT, ↓fIsB, ↓fNotB, ↓sPar, ↓dEnum, ↓dListZip, ↓dNest, ↓sSeal, ↓dNApp, ↓retD_reg, ↓dLenSet, ↓fSum2, ↓seq_putD, ↓seq_sealD, ↓dDIn, ↓dDGet, ↓sPutD, ↓dDNew, ↓dDOne, ↓sSealD, ↓dKeys, ↓keyS_dk, ↓dExtT, ↓dv0, ↓dw0, ↓dv1, ↓dw1, ↓dv2, ↓dw2, ↓dv3, ↓dw3, ↓dv4, ↓dw4, ↓dv5, ↓dw5, ↓dv6, ↓dw6, ↓dv7, ↓dw7, ↓dv8, ↓dw8, ↓dv9, ↓dw9, ↓dv10, ↓dw10, ↓dv11, ↓dw11, ↓dv12, ↓dw12, ↓dv13, ↓dw13, ↓dv14, ↓dw14, ↓dv15, ↓dw15, ↓dv16, ↓dw16, ↓dv17, ↓dw17, ↓dv18, ↓dw18, ↓dv19, ↓dw19])
def OrderD (many : Int) (d : D) : Prop := ∃ ns : List Nat, d = .tup (nD ns) ∧ ns.Nodup ∧ ∀ n ∈ ns, (n : Int) < many
def ShortT (d : D) : Prop := ∀ ds, d = .tup ds → ds.length < 3000
theorem cI_nodup {ns : List Nat} : (cI ns).Nodup ↔ ns.Nodup := by
  unfold cI List.Nodup
  rw [List.pairwise_map]
  constructor
  · intro h; exact h.imp fun {a b} z e => z (by rw [e])
  · intro h; exact h.imp fun {a b} z e => z (by omega)
def sp_is_order : DSpec := fun args Q _ => ∃ (many : Int) (d : D) (k : Nat), args = [dI many, .ext d] ∧ D.pl k d = true ∧ ShortT d ∧ ∀ (b : Bool) fin, (b = true ↔ OrderD many d) → Q (.ext (.bl b)) fin
def e1_is_order : DT :=
    (dAndV (dCall sp_is_whole (dCons (dVar 2) dNil)) (dChain (fCmp fun i j => decide (i ≤ j)) (fCmp fun i j => decide (i < j)) (dC (.int 0)) (dVar 2) (dVar 0)))
def k2_is_order : DTS :=
    (sRet (dOp fEq (dLenSet (dVar 1)) (dCB fLen (dCons (dVar 1) dNil))))
def t_is_order : DTS :=
    (sSeq (sIf (dOr (dNot (dTest (dCB fIsi (dCons (dVar 1) (dCons (dC (.val (.ty "tuple"))) dNil))))) (dNot (dTest (dCB fAll (dCons (dLc (dSeq (dVar 1)) (gSet 2) dYes e1_is_order [2]) dNil))))) (sRet (dC (.bl false))) sNext)
    k2_is_order)
theorem q1_is_order {Q : Sl → Env' → Prop} {many : Int} {s1 : Sl} {k : Nat} (ds : List D) : ∀ acc : List Bool, (∀ d ∈ ds, D.pl k d = true) → acc.length + ds.length ≤ 200000 → (∀ b, Q (.lst b ((acc ++ ds.map (inR many)).map D.bl)) [dI many, s1, .un]) →
    lcD (gSet 2) dYes e1_is_order [2] (fun _ => True) Q ds (acc.map D.bl) [dI many, s1, .un] := by
  induction ds with
  | nil => intro acc _ _ hQ; exact ⟨True.intro, fun b => by simpa using hQ b⟩
  | cons d ds ih =>
    intro acc hp hl hQ
    rw [List.length_cons] at hl
    rw [lcD]
    unfold e1_is_order
    trivial
    refine ⟨by rw [List.length_map]; exact Nat.lt_of_le_of_lt (by omega : acc.length ≤ 200000) (by decide), d, k, rfl, hp d List.mem_cons_self, fun fin => ?_⟩
    trivial
    have next : ∀ b : Bool, b = inR many d → lcD (gSet 2) dYes e1_is_order [2] (fun _ => True) Q ds (acc.map D.bl ++ [.bl b]) [dI many, s1, .un] := by
      intro b hb
      have := ih (acc ++ [b]) (fun e he => hp e (List.mem_cons_of_mem _ he)) (by rw [List.length_append, List.length_singleton]; omega) (fun a => by rw [hb]; simpa using hQ a)
      rw [List.map_append] at this
      exact this
    cases d with
    | int i =>
      rw [if_pos (show D.isInt (.int i) = true from rfl)]
      trivial
      split
      · refine next _ ?_
        rename_i h0
        simp [inR, h0]
      · refine next _ ?_
        rename_i h0
        simp [inR, h0]
    | _ =>
      rw [if_neg (by simp [D.isInt])]
      exact next _ rfl
theorem m_is_order : Meets t_is_order 2 1 sp_is_order := by
  rintro args Qd Xd ⟨many, d, k, rfl, hp, hsh, hQ⟩
  have nv := pl_noVal k d hp
  show t_is_order _ _ [_, _, .un]
  unfold t_is_order
  cases d with
  | val _ => cases k <;> simp [D.pl] at hp
  | fz _ => cases k <;> simp [D.pl] at hp
  | tk _ => cases k <;> simp [D.pl] at hp
  | exc _ => cases k <;> simp [D.pl] at hp
  | glo _ => cases k <;> simp [D.pl] at hp
  | dk _ _ => cases k <;> simp [D.pl] at hp
  | dt _ _ => cases k <;> simp [D.pl] at hp
  | tup ds =>
    cases k with
    | zero => simp [D.pl] at hp
    | succ k =>
      rw [D.pl, Bool.and_eq_true, List.all_eq_true, decide_eq_true_eq] at hp
      trivial
      simp only [nv, D.isFz, true_and, Bool.not_true, Bool.false_eq_true, if_false]
      refine q1_is_order (k := k) ds [] hp.2 (by simp; omega) fun b => ?_
      trivial
      refine ⟨ds.map (inR many), rfl, ?_⟩
      have ea : (ds.map (inR many)).all id = ds.all (inR many) := by rw [List.all_map]; rfl
      rw [ea]
      by_cases h : ds.all (inR many) = true
      · rw [h, if_neg (by simp)]
        obtain ⟨ns, rfl, hns⟩ := all_inR h
        have hl := hsh _ rfl
        rw [nD_len] at *
        unfold k2_is_order
        trivial
        refine ⟨cI ns, (iD_nat ns).symm, by rw [List.length_map]; exact hl, fun m hm => ?_⟩
        trivial
        rw [nD_len]
        refine hQ _ _ ?_
        rw [List.length_map, cI_nodup] at hm
        rw [beq_iff_eq]
        constructor
        · intro e
          exact ⟨ns, rfl, hm.1 (by omega), hns⟩
        · rintro ⟨ns', e, nd, _⟩
          have e' : ns = ns' := nD_inj (D.tup.inj e)
          subst e'
          rw [hm.2 nd]
      · have hf : ds.all (inR many) = false := by simpa using h
        rw [hf, if_pos (by simp)]
        refine hQ _ _ ⟨fun z => by simp at z, ?_⟩
        rintro ⟨ns, e, _, hn⟩
        have e := D.tup.inj e
        subst e
        exact absurd (inR_all hn) h
  | _ =>
    trivial
    simp only [nv, D.isFz, true_and, Bool.not_false, if_true]
    exact hQ _ _ ⟨fun z => by simp at z, fun ⟨_, e, _⟩ => by simp at e⟩
def sp_need_order : DSpec := fun args Q X => ∃ (many : Int) (d : D) (k : Nat), args = [dI many, .ext d] ∧ D.pl k d = true ∧ ShortT d ∧ (OrderD many d → ∀ fin, Q (.ext .non) fin) ∧ (¬ OrderD many d → ∀ fin, X "NoName" fin)
def t_need_order : DTS :=
    (sIf (dNot (dTest (dCall sp_is_order (dCons (dVar 0) (dCons (dVar 1) dNil))))) (sRaise "NoName") sNext)
theorem m_need_order : Meets t_need_order 2 0 sp_need_order := by
  rintro args Qd Xd ⟨many, d, k, rfl, hp, hs, hQ, hX⟩
  show t_need_order _ _ [_, _]
  unfold t_need_order
  trivial
  refine ⟨many, d, k, rfl, hp, hs, fun b fin hb => ?_⟩
  trivial
  by_cases hn : OrderD many d
  · rw [hb.2 hn, if_neg (by simp)]
    exact hQ hn _
  · rw [if_pos (by cases b with
      | true => exact absurd (hb.1 rfl) hn
      | false => rfl)]
    exact hX hn _
noncomputable def bagsN (n : Nat) (gs : List (List Nat)) (o : List Nat) : List (List Nat) := (List.range o.length).map fun k => bagN n gs (o.take k) (o.getD k 0)
def sp_bags_of : DSpec := fun args Q X => ∃ (S : List Nat) (ps : List Part) (d : D) (k : Nat), args = [.ext (dSh S ps), .ext d] ∧ NsOk S ps ∧ D.pl k d = true ∧ ShortT d ∧
  (∀ ns : List Nat, d = .tup (nD ns) → ns.Nodup → (∀ m ∈ ns, m < S.length) → ∀ a fin, Q (.lst a (fD (bagsN S.length (gsOf ps) ns))) fin) ∧ (¬ OrderD S.length d → ∀ fin, X "NoName" fin)
def e1_bags_of : DT :=
    (dCall sp_bag_by (dCons (dVar 2) (dCons (dSl (dVar 1) dNoPart (dPart (dVar 3))) (dCons (dOp fIx (dVar 1) (dVar 3)) dNil))))
def t_bags_of : DTS :=
    (sSeq (sDrop (dCall sp_need_order (dCons (dCB fLen (dCons (dOp fIx (dVar 0) (dC (.int 0))) dNil)) (dCons (dVar 1) dNil))))
    (sSeq (sSetE 2 (dCall sp_ties_of (dCons (dVar 0) dNil)))
    (sRet (dLc (dRange1 (dCons (dCB fLen (dCons (dVar 1) dNil)) dNil)) (gSet 3) dYes e1_bags_of [3]))))
theorem nD_take (l : List Nat) (k : Nat) : (nD l).take k = nD (l.take k) := List.map_take.symm
theorem m_bags_of : Meets t_bags_of 2 2 sp_bags_of := by
  rintro args Qd Xd ⟨S, ps, d, k, rfl, ok, hk, hs, hQ, hX⟩
  have h24 := ok.few
  show t_bags_of _ _ [_, _, .un, .un]
  unfold t_bags_of
  and_intros
  rw [nD_len]
  refine ⟨_, d, k, rfl, hk, hs, fun hn fin => ?_, fun hn fin => hX hn _⟩
  obtain ⟨ns, rfl, nd, hl⟩ := hn
  have hl : ∀ m ∈ ns, m < S.length := fun m hm => by have := hl m hm; omega
  have hnl := nodup_le nd hl
  trivial
  refine ⟨S, ps, rfl, ok, fun a fin => ?_⟩
  trivial
  rw [nD_len, rgD_nat]
  refine ⟨⟨by omega, by omega⟩, ?_⟩
  refine lc_map (fun i : Nat => D.int (i : Nat)) (fun i => .tup (nD (bagN S.length (gsOf ps) (ns.take i) (ns.getD i 0)))) True.intro (List.range ns.length) (by rw [List.length_range]; exact Nat.le_trans (by omega : _ ≤ 100) (by decide)) (fun i hi R hR => ?_) fun b => ?_
  · have hi := List.mem_range.1 hi
    unfold e1_bags_of
    trivial
    refine ⟨_, atN (getD_at hi), ?_⟩
    trivial
    have hgm : ns.getD i 0 ∈ ns := by
      rw [List.getD_eq_getElem?_getD, List.getElem?_eq_getElem hi]
      exact List.getElem_mem hi
    refine ⟨S.length, gsOf ps, ns.take i, _, ns.getD i 0, rfl, .inl (by rw [cut_take _ i (by rw [nD_len]; omega), nD_take]), h24, hl _ hgm, fun hm => ?_, fun fin => ?_⟩
    · obtain ⟨j, hj, e⟩ := List.getElem_of_mem hm
      rw [List.length_take] at hj
      rw [List.getElem_take, List.getD_eq_getElem?_getD, List.getElem?_eq_getElem hi] at e
      have := (List.getElem_inj nd).1 e
      omega
    · trivial
      exact hR
  trivial
  have := hQ ns rfl nd hl b [.ext (dSh S ps), .ext (.tup (nD ns))]
  unfold bagsN fD at this
  rw [List.map_map] at this
  exact this
end LS
namespace HD
open PySem PyProof.Rows L2
section
variable {prog : Program} {w : World} {A : Around} {E : Value → Shared → Prop} {s : Shared}
theorem collect_tup {l : Addr} {vs : List Value} {Q : List Value → Shared → Prop} (hl : IsTup s.heap l vs.toArray)
    (h : Q vs { s with heap := (s.heap.push (seqObj "list" #[] 0)).update s.heap.objs.size (Obj.mapSeq (· ++ vs.toArray)) }) (hsz : vs.length ≤ sizeLine) :
    wpAny (model prog w) A (collect (.ref l)) Q E s := by
  obtain ⟨o, ho, hc, n, hd⟩ := id hl
  unfold collect
  refine wpAny_bind (wpAny_runValue (codeAny_builtin entry_proto_collect' ?_))
  show wpAny _ _ (do again (.builtin "list.__iadd__" ⟨[← newList [], .ref l], []⟩)) _ _ s
  refine wpAny_bind (wpAny_newList (wpAny_pure ⟨Code.quiet_builtin _ (by decide +kernel), codeAny_builtin entry_list_iadd' ?_⟩))
  show wpAny _ _ (Builtin.List.listExtendWith (.ref s.heap.objs.size) (.ref l) (.ref s.heap.objs.size)) _ _ { s with heap := s.heap.push (seqObj "list" #[] 0) }
  unfold Builtin.List.listExtendWith
  have ho' : (s.heap.push (seqObj "list" #[] 0)).get? l = some o := Heap.get?_push_of_some _ ho
  refine wpAny_bind (wpAny_typeOf (T := "tuple") ⟨o, ho', hc⟩ ?_)
  have ht : (Value.type "tuple" == Value.type "tuple") = true := by rfl
  rw [if_pos (by rw [ht]; simp)]
  refine wpAny_bind (listItems_at ho' hd ?_)
  refine wpAny_bind (listItems_at (xs := #[]) (n := 0) (Heap.get?_push_size _ rfl) rfl ?_)
  rw [if_neg (by simp)]
  refine wpAny_bind (listUpdate_at (xs := #[]) (n := 0) (Heap.get?_push_size _ rfl) rfl ?_ (Nat.zero_le _) (by show (#[] ++ vs.toArray).size ≤ sizeLine + 1; simp only [Array.size_append, List.size_toArray, List.length_nil]; omega))
  refine wpAny_pure ?_
  show wpAny (model prog w) A (do
      let o ← load s.heap.objs.size
      match o.data with
      | .seq xs _ => pure xs.toList
      | _ => unsupported "internal:collect") Q E { s with heap := (s.heap.push (seqObj "list" #[] 0)).update s.heap.objs.size (Obj.mapSeq (· ++ vs.toArray)) }
  refine wpAny_bind (wpAny_load (get?_update_seq (Heap.get?_push_size _ rfl) _) ?_)
  show wpAny _ _ (pure ((#[] : Array Value) ++ vs.toArray).toList) Q E _
  rw [show ((#[] : Array Value) ++ vs.toArray).toList = vs by simp]
  exact wpAny_pure h
open SrtO in
theorem sorted_ordT {l : Addr} {vs : List Value} {ltv : Value → Value → Bool} {Q : Value → Shared → Prop} (O : Swo ltv) (hl : IsTup s.heap l vs.toArray) (hz : vs.length ≤ sizeLine)
    (hS : 2 ≤ vs.length → ∀ (h₁ : Heap) (a : Addr), h₁.get? a = some (seqObj "list" vs.toArray 0) → (∀ b o, s.heap.get? b = some o → b ≠ a ∧ h₁.get? b = some o) → SortableO prog w A.in1.in1 { s with heap := h₁ } a vs ltv)
    (h : ∀ out : List Value, Srtd ltv out → Stb ltv out vs → Q (.ref (s.heap.objs.size + 1)) { s with heap := sortedAll s.heap vs out.toArray }) :
    wpAny (model prog w) A (call (.builtin "sorted") [.ref l]) Q E s := by
  refine Calls.call_function_entry kind_sorted plain_sorted entry_sorted (args_sorted1 _) ?_
  unfold Builtin.«sorted»
  refine wpAny_bind (m := checkCount "sorted" 1 1 _) (wpAny_pure ?_)
  refine wpAny_bind (collect_tup hl ?_ hz)
  refine wpAny_bind (wpAny_newList ?_ hz)
  have hsz : ((s.heap.push (seqObj "list" #[] 0)).update s.heap.objs.size (Obj.mapSeq (· ++ vs.toArray))).objs.size = s.heap.objs.size + 1 := by
    rw [Heap.size_update, size_push']
  have hoL : (((s.heap.push (seqObj "list" #[] 0)).update s.heap.objs.size (Obj.mapSeq (· ++ vs.toArray))).push (seqObj "list" vs.toArray 0)).get? (s.heap.objs.size + 1) = some (seqObj "list" vs.toArray 0) := by
    rw [← hsz]; exact Heap.get?_push_size _ rfl
  have keep : ∀ b o, s.heap.get? b = some o → b ≠ s.heap.objs.size + 1 ∧ (((s.heap.push (seqObj "list" #[] 0)).update s.heap.objs.size (Obj.mapSeq (· ++ vs.toArray))).push (seqObj "list" vs.toArray 0)).get? b = some o := fun b o q => by
    have hlt : b < s.heap.objs.size := Heap.lt_size q
    refine ⟨Nat.ne_of_lt (Nat.lt_succ_of_lt hlt), Heap.get?_push_of_some _ ?_⟩
    rw [Heap.get?_update_ne _ _ _ _ (Nat.ne_of_lt hlt)]
    exact Heap.get?_push_of_some _ q
  show wpAny _ _ _ _ _ { s with heap := ((s.heap.push (seqObj "list" #[] 0)).update s.heap.objs.size (Obj.mapSeq (· ++ vs.toArray))).push (seqObj "list" vs.toArray 0) }
  rw [hsz]
  refine wpAny_bind (wpAny_holding (wpAny_call_entry slot_list_sort ⟨_, hoL, rfl⟩ entry_list_sort (list_sort_ord O hoL hz (fun h2 => hS h2 _ _ hoL keep) fun out hs hb => ⟨_, rfl, ?_⟩) (args_list_sort _)))
  exact wpAny_pure ⟨_, rfl, h out hs hb⟩
end
def rSortT (K : PySem.W.Frag) : List V → Hp → VK → Prop := fun vs H Q => ∃ (a : Addr) (ns : List Int), vs = [V.ref a] ∧ SqT K H a (ns.map V.int) ∧
  ∀ (ns' : List Int) (p : Addr), ns'.Perm ns → ns'.Pairwise (· ≤ ·) → H p = none → Q (.ref p) (upd H p (.lst (ns'.map V.int)))
theorem cr_sortT {X : Cx} : CallR X (.builtin "sorted") (rSortT X.K) := by
  intro pins s σ H vs us Q I r h
  obtain ⟨a, ns, rfl, hs, q⟩ := h
  obtain ⟨its, rv, hl, hz⟩ := I.tuple hs
  rw [Vals.ref1 r]
  have hi := rv.ints
  refine sorted_ordT SrtO.swo_int hl (by rw [← rv.length]; exact hz) (fun h2 h₁ a' _ _ => SrtO.ints_sortable hi h2) fun out h1 h2 => ?_
  obtain ⟨k1, k2, k3⟩ := SrtO.ints_out hi h1 h2
  obtain ⟨ep, he'⟩ := PyProof.Rows.sortedAll_at s.heap its out.toArray
  have hlen : ((out.map SrtO.iv).map V.int).length ≤ sizeLine := by
    rw [List.length_map, k2.length_eq]
    rw [List.length_map] at hz
    exact hz
  exact ⟨.ref _, upd H (s.heap.objs.size + 1) (.lst ((out.map SrtO.iv).map V.int)), I.laid (t' := s.toks) (fun _ _ => PyProof.Rows.sortedAll_old) (Nat.le_succ _) ⟨hlen, out, ep, vals_of_ints k1, he'⟩, rfl, q _ _ k2 k3 (I.hok.fresh (Nat.le_succ _))⟩
def fSortT : List D → (Sl → Prop) → Prop
  | [.tup ds], Q => ∃ ns : List Int, ds = ns.map D.int ∧ ∀ (ns' : List Int) (a : Addr), ns'.Perm ns → ns'.Pairwise (· ≤ ·) → Q (.lst a (ns'.map D.int))
  | _, _ => False
theorem b_sortT : BR "sorted" fSortT := ⟨fun _ _ K => rSortT K, fun _ _ K F H vs ds Q R fh hr hf ha => by
    unfold fSortT at hf
    split at hf
    · obtain ⟨v, rfl, r⟩ := hr.one
      obtain ⟨ns, rfl, q⟩ := hf
      obtain ⟨a, vs, rfl, e1, _, r1⟩ := r.tup fh
      have z := r1.ints
      subst z
      exact ⟨a, ns, rfl, e1, fun ns' p h1 h2 n => ha.lst fh n (Reps.of_ints ns') (q ns' p h1 h2)⟩
    · exact hf.elim, fun X _ _ => cr_sortT⟩
end HD
namespace HD
open PySem PyProof.Rows L2
open PySem.W (AlikeAll minD dataLt min_list_data readsAll_at keyToks keyToksAll)
def rMinD (K : PySem.W.Frag) : List V → Hp → VK → Prop := fun vs H Q => ∃ (a : Addr) (us : List V) (x : PyData) (xs : List PyData), vs = [V.ref a] ∧ SqL K H a us ∧ DpAll K H us (x :: xs) ∧ AlikeAll (x :: xs) ∧ PyData.depthAll (x :: xs) ≤ 60 ∧
  ∀ (i : Nat) (v : V), us[i]? = some v → (x :: xs).getD i .none = minD x xs → Q v H
theorem vals_at : ∀ {xs : List V} {us : List Value}, Vals xs us → ∀ (i : Nat) (u : Value), us[i]? = some u → ∃ v, xs[i]? = some v ∧ RelV v u
  | _, _, .nil, i, u, h => by simp at h
  | _, _, .cons r rs, 0, u, h => by
    cases h
    exact ⟨_, rfl, r⟩
  | _, _, .cons r rs, i + 1, u, h => vals_at rs i u h
theorem cr_minD {X : Cx} (hc : X.calm = true) (hu : X.A.units + 64 < cLine) : CallR X (.builtin "min") (rMinD X.K) := by
  intro pins s σ H vs us Q I r h
  obtain ⟨a, ys, x, xs, rfl, hs, hd, ha, hdp, q⟩ := h
  obtain ⟨its, rv, hl, _⟩ := I.list hs
  rw [Vals.ref1 r]
  obtain ⟨as, hr⟩ := Dp.readsAll I _ _ _ hd rv
  have hr' : ReadsAll s.heap its.toArray.toList (x :: xs) as := by rw [List.toList_toArray]; exact hr
  refine min_list_data (I.ok.hd hc) hl.isList hr' ha (by omega) fun i v h' tk bs hv hm hk => ?_
  have hv' : its[i]? = some v := by
    rw [List.getElem?_toArray] at hv
    exact hv
  obtain ⟨y, hy, ry⟩ := vals_at rv i v hv'
  obtain ⟨bs', rb, _⟩ := readsAll_at hr i v hv'
  have e := (reads_det (fun b o e _ => hk b o e) rb hm).1
  refine ⟨y, H, I.kept hk, ry, q i y hy e.symm⟩
abbrev pD (p : Int × Int) : D := .tup [.int p.1, .int p.2]
def lxP (p q : Int × Int) : Prop := p.1 < q.1 ∨ (p.1 = q.1 ∧ p.2 ≤ q.2)
def fMinP : List D → (Sl → Prop) → Prop
  | [.lst ds], Q => ∃ ps : List (Int × Int), ds = ps.map pD ∧ ps ≠ [] ∧ ∀ p ∈ ps, (∀ q ∈ ps, lxP p q) → Q (.ext (pD p))
  | _, _ => False
end HD
namespace HD
open PySem PyProof.Rows L2
section
variable {G : GG} {N : List Str} {sc : SC} {k : Nat} {b : Expr} {tb : DT} {apos cpos py : Pos} {x : Str}
def dRemove (i : Nat) (t : DT) : DT := fun Ex env Q => (∃ a ds, env[i]? = some (.lst a ds)) ∧ t Ex env fun x env1 => ∃ (a : Addr) (ns : List Int) (n : Int) (j : Nat), x = .ext (.int n) ∧ env1[i]? = some (.lst a (ns.map D.int)) ∧ ns[j]? = some n ∧ (∀ m, m < j → ns[m]? ≠ some n) ∧ Q (.ext .non) (env1.set i (.lst a ((ns.eraseIdx j).map D.int)))
end
end HD
namespace LS
open PySem L2 HD PM
open K01 (sp_product m_product t_product)
local macro_rules | `(tactic| trivial) => `(tactic| try simp -dsimp only [↓sIf, ↓sRet, ↓retD_ext, ↓retD_lst, ↓retD_al, ↓sSet, ↓sSetE, ↓sAsg, ↓sDrop, ↓sNext, ↓sFor, ↓sRetN, ↓sCont, ↓sBreak, ↓dTest, ↓dOp, ↓dVar_w, ↓dC, ↓dCons, ↓dNil, ↓dTup, ↓dLst, ↓frzDs, ↓frzD_ext, ↓frzD_lst, ↓frzD_al, ↓wd_ext, ↓wd_lst, ↓wd_al, ↓wds, ↓AtS_ext, ↓AtS_lst, ↓AtL, ↓fAdd, ↓fSub, ↓fMul, ↓fDiv, ↓fMod, ↓fPow, ↓fCmp, ↓fIn, ↓fEq_ii, ↓fEq_ss, ↓fEq_bb, ↓fEq_tt, ↓fEq_ll, ↓fNe_ii, ↓fNe_ss, ↓fNe_bb, ↓fNe_tt, ↓fNe_ll, ↓fIx_l, ↓fIx_t, ↓fIx_k, ↓fIx_f, ↓GetS_some, ↓NatS_some, ↓fSl, ↓fIsN, ↓fNotN, ↓D.knN, ↓dNot, ↓dAnd, ↓dOr, ↓dAndV_w, ↓dOrV_w, ↓dNotV, ↓dIf, ↓dNeg, ↓dChain_w, ↓BlS_bl, ↓dCall_w, ↓dCallJ_w, ↓anyAl, ↓frozs, ↓froz, ↓gSet, ↓gTupD, ↓gsCons, ↓gsNil, ↓dSeq, ↓seqD_tup, ↓seqD_elst, ↓seqD_lst, ↓seqD_al, ↓dRange1, ↓dRange2, ↓dZip, ↓dCB, ↓dLc, ↓dYes, ↓dNoPart, ↓dPart, ↓dSl, ↓fLen, ↓fMin, ↓fMax, ↓fSum, ↓fAll, ↓fAny, ↓fSorted, ↓fTuple, ↓fList, ↓dRg1, ↓dRg2, ↓dLstRg, ↓dTupRg, ↓dIndex, ↓fIdx, ↓dAppend_w, ↓dExtend_w, ↓extD_lst, ↓dPopAt_w, ↓popD_int, ↓dPop_w, ↓mutD_w, ↓sSetItem_w, ↓setD_int, ↓dSortSet, ↓dTable_w, ↓wipeE, finals1, finals2, finals3, finals4, finals5, finals6, fin1_ext, fin1_lst, List.getElem?_cons_zero, List.getElem?_cons_succ, List.getElem?_nil, List.set_cons_zero, List.set_cons_succ, List.cons_append, List.nil_append, List.append_nil, List.replicate_succ, List.replicate_zero, List.map_cons, List.map_nil, List.length_cons, List.length_nil, true_and, and_true, ite_true, ite_false, if_true, if_false, Bool.false_eq_true, decide_eq_true_eq, Sl.plain, D.isSq, eq_self_iff_true, forall_const, reduceIte, true_or, or_true, atI_0, atI_1, atI_2, atI_3, ixN_0, ixN_1, ixN_2, AtS_ext, AtS_lst, FzS_lst, FzS_ext, GetS_some, NatS_some, ↓fIsi1, ↓fIsi2, BoolS_some, HD.kb_non_tuple, HD.kb_non_list, HD.kb_non_bool, HD.kb_non_int, HD.kb_non_str, HD.kb_bl_tuple, HD.kb_bl_list, HD.kb_bl_bool, HD.kb_bl_int, HD.kb_bl_str, HD.kb_int_tuple, HD.kb_int_list, HD.kb_int_bool, HD.kb_int_int, HD.kb_int_str, HD.kb_str_tuple, HD.kb_str_list, HD.kb_str_bool, HD.kb_str_int, HD.kb_str_str, HD.kb_lst_tuple, HD.kb_lst_list, HD.kb_lst_bool, HD.kb_lst_int, HD.kb_lst_str, HD.kb_tup_tuple, HD.kb_tup_list, HD.kb_tup_bool, HD.kb_tup_int, HD.kb_tup_str, ↓sFz_w, ↓FzS_lst, ↓FzS_ext, ↓dSortSetL, ↓fAbs, ↓fInt, ↓fRepr, ↓fLtT, ↓sRaise, ↓sTryKeep, ↓dCallV_w, ↓dMeth, ↓fCount, ↓fSplit, ↓seq_setE, ↓seq_set, ↓seq_drop, ↓seq_asg, ↓seq_if, ↓seq_for, ↓dStep, ↓fStep, ↓fMulT, ↓fIsB, ↓fNotB, ↓sPar, ↓dEnum, ↓dListZip, ↓dNest, ↓sSeal, ↓dNApp, ↓retD_reg, ↓dLenSet, ↓fSum2, ↓seq_putD, ↓seq_sealD, ↓dDIn, ↓dDGet, ↓sPutD, ↓dDNew, ↓dDOne, ↓sSealD, ↓dKeys, ↓keyS_dk, ↓dExtT, ↓fSortT, ↓fMinP, ↓dRemove])
local macro_rules | `(tactic| and_intros) => `(tactic| try simp -dsimp only [↓sIf, ↓sRet, ↓retD_ext, ↓retD_lst, ↓retD_al, ↓sSet, ↓sSetE, ↓sAsg, ↓sDrop, ↓sNext, ↓sFor, ↓sRetN, ↓sCont, ↓sBreak, ↓dTest, ↓dOp, ↓dC, ↓dCons, ↓dNil, ↓dTup, ↓dLst, ↓frzDs, ↓frzD_ext, ↓frzD_lst, ↓frzD_al, ↓wd_ext, ↓wd_lst, ↓wd_al, ↓wds, ↓AtS_ext, ↓AtS_lst, ↓AtL, ↓fAdd, ↓fSub, ↓fMul, ↓fDiv, ↓fMod, ↓fPow, ↓fCmp, ↓fIn, ↓fEq_ii, ↓fEq_ss, ↓fEq_bb, ↓fEq_tt, ↓fEq_ll, ↓fNe_ii, ↓fNe_ss, ↓fNe_bb, ↓fNe_tt, ↓fNe_ll, ↓fIx_l, ↓fIx_t, ↓fIx_k, ↓fIx_f, ↓GetS_some, ↓NatS_some, ↓fSl, ↓fIsN, ↓fNotN, ↓D.knN, ↓dNot, ↓dAnd, ↓dOr, ↓dAndV_w, ↓dOrV_w, ↓dNotV, ↓dIf, ↓dNeg, ↓dChain_w, ↓BlS_bl, ↓dCall_w, ↓dCallJ_w, ↓anyAl, ↓frozs, ↓froz, ↓gSet, ↓gTupD, ↓gsCons, ↓gsNil, ↓dSeq, ↓seqD_tup, ↓seqD_elst, ↓seqD_lst, ↓seqD_al, ↓dRange1, ↓dRange2, ↓dZip, ↓dCB, ↓dLc, ↓dYes, ↓dNoPart, ↓dPart, ↓dSl, ↓fLen, ↓fMin, ↓fMax, ↓fSum, ↓fAll, ↓fAny, ↓fSorted, ↓fTuple, ↓fList, ↓dRg1, ↓dRg2, ↓dLstRg, ↓dTupRg, ↓dIndex, ↓fIdx, ↓dAppend_w, ↓dExtend_w, ↓extD_lst, ↓dPopAt_w, ↓popD_int, ↓dPop_w, ↓mutD_w, ↓sSetItem_w, ↓setD_int, ↓dSortSet, ↓dTable_w, ↓wipeE, finals1, finals2, finals3, finals4, finals5, finals6, fin1_ext, fin1_lst, List.getElem?_cons_zero, List.getElem?_cons_succ, List.getElem?_nil, List.set_cons_zero, List.set_cons_succ, List.cons_append, List.nil_append, List.append_nil, List.replicate_succ, List.replicate_zero, List.map_cons, List.map_nil, List.length_cons, List.length_nil, true_and, and_true, ite_true, ite_false, if_true, if_false, Bool.false_eq_true, decide_eq_true_eq, Sl.plain, D.isSq, eq_self_iff_true, forall_const, reduceIte, true_or, or_true, atI_0, atI_1, atI_2, atI_3, ixN_0, ixN_1, ixN_2, AtS_ext, AtS_lst, FzS_lst, FzS_ext, GetS_some, NatS_some, ↓fIsi1, ↓fIsi2, BoolS_some, HD.kb_non_tuple, HD.kb_non_list, HD.kb_non_bool, HD.kb_non_int, HD.kb_non_str, HD.kb_bl_tuple, HD.kb_bl_list, HD.kb_bl_bool, HD.kb_bl_int, HD.kb_bl_str, HD.kb_int_tuple, HD.kb_int_list, HD.kb_int_bool, HD.kb_int_int, HD.kb_int_str, HD.kb_str_tuple, HD.kb_str_list, HD.kb_str_bool, HD.kb_str_int, HD.kb_str_str, HD.kb_lst_tuple, HD.kb_lst_list, HD.kb_lst_bool, HD.kb_lst_int, HD.kb_lst_str, HD.kb_tup_tuple, HD.kb_tup_list, HD.kb_tup_bool, HD.kb_tup_int, HD.kb_tup_str, ↓sFz_w, ↓FzS_lst, ↓FzS_ext, ↓dSortSetL, ↓fAbs, ↓fInt, ↓fRepr, ↓fLtT, ↓sRaise, ↓sTryKeep, ↓dCallV_w, ↓dMeth, ↓fCount, ↓fSplit, ↓seq_setE, ↓seq_set, ↓seq_drop, ↓seq_asg, ↓seq_if, ↓seq_for, ↓dStep, ↓fStep, ↓fMulT, ↓fIsB, ↓fNotB, ↓sPar, ↓dEnum, ↓dListZip, ↓dNest, ↓sSeal, ↓dNApp, ↓retD_reg, ↓dLenSet, ↓fSum2, ↓seq_putD, ↓seq_sealD, ↓dDIn, ↓dDGet, ↓sPutD, ↓dDNew, ↓dDOne, ↓sSealD, ↓dKeys, ↓keyS_dk, ↓dExtT, ↓fSortT, ↓fMinP, ↓dRemove, ↓dv0, ↓dw0, ↓dv1, ↓dw1, ↓dv2, ↓dw2, ↓dv3, ↓dw3, ↓dv4, ↓dw4, ↓dv5, ↓dw5, ↓dv6, ↓dw6, ↓dv7, ↓dw7, ↓dv8, ↓dw8, ↓dv9, ↓dw9, ↓dv10, ↓dw10, ↓dv11, ↓dw11, ↓dv12, ↓dw12, ↓dv13, ↓dw13, ↓dv14, ↓dw14, ↓dv15, ↓dw15, ↓dv16, ↓dw16, ↓dv17, ↓dw17, ↓dv18, ↓dw18, ↓dv19, ↓dw19])
def sp_room_by : DSpec := fun args Q _ => ∃ (S : List Nat) (ps : List Part) (B : List Nat), args = [.ext (dSh S ps), .ext (.tup (nD B))] ∧ SzOk S ∧ B.Nodup ∧ (∀ m ∈ B, m < S.length) ∧ ∀ fin, Q (dI (psz S B : Nat)) fin
def e1_room_by : DT :=
    (dOp fIx (dOp fIx (dVar 0) (dC (.int 0))) (dVar 2))
def t_room_by : DTS :=
    (sRet (dCall sp_product (dCons (dLc (dSeq (dVar 1)) (gSet 2) dYes e1_room_by [2]) dNil)))
theorem sz_pos {S : List Nat} (hS : SzOk S) {n : Nat} (h : n < S.length) : 0 < sz S n := hS.pos _ (sz_mem h)
theorem prodN_perm {a b : List Nat} (h : a.Perm b) : prodN a = prodN b := by
  induction h with
  | nil => rfl
  | cons x _ ih => show x * _ = x * _; rw [ih]
  | swap x y l => show y * (x * _) = x * (y * _); rw [Nat.mul_left_comm]
  | trans _ _ i1 i2 => rw [i1, i2]
theorem psz_perm {S a b : List Nat} (h : a.Perm b) : psz S a = psz S b := prodN_perm (h.map _)
theorem nd_rise {n : Nat} {B : List Nat} (nd : B.Nodup) (hl : ∀ m ∈ B, m < n) : ∃ R, Rising R ∧ R.Perm B ∧ ∀ m ∈ R, m < n := by
  refine ⟨(List.range n).filter fun m => decide (m ∈ B), rising_filter _ (rising_range _), ?_, fun m hm => List.mem_range.1 (List.mem_filter.1 hm).1⟩
  refine (List.perm_ext_iff_of_nodup (List.nodup_range.filter _) nd).2 fun m => ?_
  rw [List.mem_filter, List.mem_range, decide_eq_true_eq]
  exact ⟨fun h => h.2, fun h => ⟨hl m h, h⟩⟩
theorem psz_le_nd {S B : List Nat} (hS : SzOk S) (nd : B.Nodup) (hl : ∀ m ∈ B, m < S.length) : psz S B ≤ 4096 := by
  obtain ⟨R, h1, h2, h3⟩ := nd_rise nd hl
  rw [← psz_perm h2]
  exact Nat.le_trans (psz_le hS.pos h1 h3) hS.prod
theorem m_room_by : Meets t_room_by 2 1 sp_room_by := by
  rintro args Qd Xd ⟨S, ps, B, rfl, hS, nd, hl, hQ⟩
  show t_room_by _ _ [_, _, .un]
  unfold t_room_by
  and_intros
  have h24 := hS.few
  have hBl := nodup_le nd hl
  refine lc_map (fun m : Nat => D.int (m : Nat)) (fun m => .int (sz S m : Nat)) True.intro B (Nat.le_trans (by omega : _ ≤ 100) (by decide)) (fun m hm R hR => ?_) fun b => ?_
  · unfold e1_room_by
    trivial
    exact ⟨_, atN (getD_at (hl m hm)), hR⟩
  trivial
  have hz := psz_le_nd hS nd hl
  refine ⟨B.map (sz S), .inl (by rw [nD, List.map_map]; rfl), fun x hx => ?_, Nat.lt_of_le_of_lt hz (by decide), fun fin => ?_⟩
  · obtain ⟨m, hm, rfl⟩ := List.mem_map.1 hx
    exact sz_pos hS (hl m hm)
  trivial
  exact hQ _
end LS
namespace LS
open PySem L2 HD PM
local macro_rules | `(tactic| trivial) => `(tactic| try simp -dsimp only [↓sIf, ↓sRet, ↓retD_ext, ↓retD_lst, ↓retD_al, ↓sSet, ↓sSetE, ↓sAsg, ↓sDrop, ↓sNext, ↓sFor, ↓sRetN, ↓sCont, ↓sBreak, ↓dTest, ↓dOp, ↓dVar_w, ↓dC, ↓dCons, ↓dNil, ↓dTup, ↓dLst, ↓frzDs, ↓frzD_ext, ↓frzD_lst, ↓frzD_al, ↓wd_ext, ↓wd_lst, ↓wd_al, ↓wds, ↓AtS_ext, ↓AtS_lst, ↓AtL, ↓fAdd, ↓fSub, ↓fMul, ↓fDiv, ↓fMod, ↓fPow, ↓fCmp, ↓fIn, ↓fEq_ii, ↓fEq_ss, ↓fEq_bb, ↓fEq_tt, ↓fEq_ll, ↓fNe_ii, ↓fNe_ss, ↓fNe_bb, ↓fNe_tt, ↓fNe_ll, ↓fIx_l, ↓fIx_t, ↓fIx_k, ↓fIx_f, ↓GetS_some, ↓NatS_some, ↓fSl, ↓fIsN, ↓fNotN, ↓D.knN, ↓dNot, ↓dAnd, ↓dOr, ↓dAndV_w, ↓dOrV_w, ↓dNotV, ↓dIf, ↓dNeg, ↓dChain_w, ↓BlS_bl, ↓dCall_w, ↓dCallJ_w, ↓anyAl, ↓frozs, ↓froz, ↓gSet, ↓gTupD, ↓gsCons, ↓gsNil, ↓dSeq, ↓seqD_tup, ↓seqD_elst, ↓seqD_lst, ↓seqD_al, ↓dRange1, ↓dRange2, ↓dZip, ↓dCB, ↓dLc, ↓dYes, ↓dNoPart, ↓dPart, ↓dSl, ↓fLen, ↓fMin, ↓fMax, ↓fSum, ↓fAll, ↓fAny, ↓fSorted, ↓fTuple, ↓fList, ↓dRg1, ↓dRg2, ↓dLstRg, ↓dTupRg, ↓dIndex, ↓fIdx, ↓dAppend_w, ↓dExtend_w, ↓extD_lst, ↓dPopAt_w, ↓popD_int, ↓dPop_w, ↓mutD_w, ↓sSetItem_w, ↓setD_int, ↓dSortSet, ↓dTable_w, ↓wipeE, finals1, finals2, finals3, finals4, finals5, finals6, fin1_ext, fin1_lst, List.getElem?_cons_zero, List.getElem?_cons_succ, List.getElem?_nil, List.set_cons_zero, List.set_cons_succ, List.cons_append, List.nil_append, List.append_nil, List.replicate_succ, List.replicate_zero, List.map_cons, List.map_nil, List.length_cons, List.length_nil, true_and, and_true, ite_true, ite_false, if_true, if_false, Bool.false_eq_true, decide_eq_true_eq, Sl.plain, D.isSq, eq_self_iff_true, forall_const, reduceIte, true_or, or_true, atI_0, atI_1, atI_2, atI_3, ixN_0, ixN_1, ixN_2, AtS_ext, AtS_lst, FzS_lst, FzS_ext, GetS_some, NatS_some, ↓fIsi1, ↓fIsi2, BoolS_some, HD.kb_non_tuple, HD.kb_non_list, HD.kb_non_bool, HD.kb_non_int, HD.kb_non_str, HD.kb_bl_tuple, HD.kb_bl_list, HD.kb_bl_bool, HD.kb_bl_int, HD.kb_bl_str, HD.kb_int_tuple, HD.kb_int_list, HD.kb_int_bool, HD.kb_int_int, HD.kb_int_str, HD.kb_str_tuple, HD.kb_str_list, HD.kb_str_bool, HD.kb_str_int, HD.kb_str_str, HD.kb_lst_tuple, HD.kb_lst_list, HD.kb_lst_bool, HD.kb_lst_int, HD.kb_lst_str, HD.kb_tup_tuple, HD.kb_tup_list, HD.kb_tup_bool, HD.kb_tup_int, HD.kb_tup_str, ↓sFz_w, ↓FzS_lst, ↓FzS_ext, ↓dSortSetL, ↓fAbs, ↓fInt, ↓fRepr, ↓fLtT, ↓sRaise, ↓sTryKeep, ↓dCallV_w, ↓dMeth, ↓fCount, ↓fSplit, ↓seq_setE, ↓seq_set, ↓seq_drop, ↓seq_asg, ↓seq_if, ↓seq_for, ↓dStep, ↓fStep, ↓fMulT, ↓fIsB, ↓fNotB, ↓sPar, ↓dEnum, ↓dListZip, ↓dNest, ↓sSeal, ↓dNApp, ↓retD_reg, ↓dLenSet, ↓fSum2, ↓seq_putD, ↓seq_sealD, ↓dDIn, ↓dDGet, ↓sPutD, ↓dDNew, ↓dDOne, ↓sSealD, ↓dKeys, ↓keyS_dk, ↓dExtT])
local macro_rules | `(tactic| and_intros) => `(tactic| try simp -dsimp only [↓sIf, ↓sRet, ↓retD_ext, ↓retD_lst, ↓retD_al, ↓sSet, ↓sSetE, ↓sAsg, ↓sDrop, ↓sNext, ↓sFor, ↓sRetN, ↓sCont, ↓sBreak, ↓dTest, ↓dOp, ↓dC, ↓dCons, ↓dNil, ↓dTup, ↓dLst, ↓frzDs, ↓frzD_ext, ↓frzD_lst, ↓frzD_al, ↓wd_ext, ↓wd_lst, ↓wd_al, ↓wds, ↓AtS_ext, ↓AtS_lst, ↓AtL, ↓fAdd, ↓fSub, ↓fMul, ↓fDiv, ↓fMod, ↓fPow, ↓fCmp, ↓fIn, ↓fEq_ii, ↓fEq_ss, ↓fEq_bb, ↓fEq_tt, ↓fEq_ll, ↓fNe_ii, ↓fNe_ss, ↓fNe_bb, ↓fNe_tt, ↓fNe_ll, ↓fIx_l, ↓fIx_t, ↓fIx_k, ↓fIx_f, ↓GetS_some, ↓NatS_some, ↓fSl, ↓fIsN, ↓fNotN, ↓D.knN, ↓dNot, ↓dAnd, ↓dOr, ↓dAndV_w, ↓dOrV_w, ↓dNotV, ↓dIf, ↓dNeg, ↓dChain_w, ↓BlS_bl, ↓dCall_w, ↓dCallJ_w, ↓anyAl, ↓frozs, ↓froz, ↓gSet, ↓gTupD, ↓gsCons, ↓gsNil, ↓dSeq, ↓seqD_tup, ↓seqD_elst, ↓seqD_lst, ↓seqD_al, ↓dRange1, ↓dRange2, ↓dZip, ↓dCB, ↓dLc, ↓dYes, ↓dNoPart, ↓dPart, ↓dSl, ↓fLen, ↓fMin, ↓fMax, ↓fSum, ↓fAll, ↓fAny, ↓fSorted, ↓fTuple, ↓fList, ↓dRg1, ↓dRg2, ↓dLstRg, ↓dTupRg, ↓dIndex, ↓fIdx, ↓dAppend_w, ↓dExtend_w, ↓extD_lst, ↓dPopAt_w, ↓popD_int, ↓dPop_w, ↓mutD_w, ↓sSetItem_w, ↓setD_int, ↓dSortSet, ↓dTable_w, ↓wipeE, finals1, finals2, finals3, finals4, finals5, finals6, fin1_ext, fin1_lst, List.getElem?_cons_zero, List.getElem?_cons_succ, List.getElem?_nil, List.set_cons_zero, List.set_cons_succ, List.cons_append, List.nil_append, List.append_nil, List.replicate_succ, List.replicate_zero, List.map_cons, List.map_nil, List.length_cons, List.length_nil, true_and, and_true, ite_true, ite_false, if_true, if_false, Bool.false_eq_true, decide_eq_true_eq, Sl.plain, D.isSq, eq_self_iff_true, forall_const, reduceIte, true_or, or_true, atI_0, atI_1, atI_2, atI_3, ixN_0, ixN_1, ixN_2, AtS_ext, AtS_lst, FzS_lst, FzS_ext, GetS_some, NatS_some, ↓fIsi1, ↓fIsi2, BoolS_some, HD.kb_non_tuple, HD.kb_non_list, HD.kb_non_bool, HD.kb_non_int, HD.kb_non_str, HD.kb_bl_tuple, HD.kb_bl_list, HD.kb_bl_bool, HD.kb_bl_int, HD.kb_bl_str, HD.kb_int_tuple, HD.kb_int_list, HD.kb_int_bool, HD.kb_int_int, HD.kb_int_str, HD.kb_str_tuple, HD.kb_str_list, HD.kb_str_bool, HD.kb_str_int, HD.kb_str_str, HD.kb_lst_tuple, HD.kb_lst_list, HD.kb_lst_bool, HD.kb_lst_int, HD.kb_lst_str, HD.kb_tup_tuple, HD.kb_tup_list, HD.kb_tup_bool, HD.kb_tup_int, HD.kb_tup_str, ↓sFz_w, ↓FzS_lst, ↓FzS_ext, ↓dSortSetL, ↓fAbs, ↓fInt, ↓fRepr, ↓fLtT, ↓sRaise, ↓sTryKeep, ↓dCallV_w, ↓dMeth, ↓fCount, ↓fSplit, ↓seq_setE, ↓seq_set, ↓seq_drop, ↓seq_asg, ↓seq_if, ↓seq_for, ↓dStep, ↓fStep, ↓fMulT, ↓fIsB, ↓fNotB, ↓sPar, ↓dEnum, ↓dListZip, ↓dNest, ↓sSeal, ↓dNApp, ↓retD_reg, ↓dLenSet, ↓fSum2, ↓seq_putD, ↓seq_sealD, ↓dDIn, ↓dDGet, ↓sPutD, ↓dDNew, ↓dDOne, ↓sSealD, ↓dKeys, ↓keyS_dk, ↓dExtT, ↓dv0, ↓dw0, ↓dv1, ↓dw1, ↓dv2, ↓dw2, ↓dv3, ↓dw3, ↓dv4, ↓dw4, ↓dv5, ↓dw5, ↓dv6, ↓dw6, ↓dv7, ↓dw7, ↓dv8, ↓dw8, ↓dv9, ↓dw9, ↓dv10, ↓dw10, ↓dv11, ↓dw11, ↓dv12, ↓dw12, ↓dv13, ↓dw13, ↓dv14, ↓dw14, ↓dv15, ↓dw15, ↓dv16, ↓dw16, ↓dv17, ↓dw17, ↓dv18, ↓dw18, ↓dv19, ↓dw19])
def AllD (n : Nat) (d : D) : Prop := ∃ o : List Nat, d = .tup (nD o) ∧ o.Nodup ∧ (∀ m ∈ o, m < n) ∧ o.length = n
def sp_need_all : DSpec := fun args Q X => ∃ (n : Nat) (d : D) (k : Nat), args = [dI (n : Nat), .ext d] ∧ D.pl k d = true ∧ ShortT d ∧ (AllD n d → ∀ fin, Q (.ext .non) fin) ∧ (¬ AllD n d → ∀ fin, X "NoName" fin)
def t_need_all : DTS :=
    (sSeq (sDrop (dCall sp_need_order (dCons (dVar 0) (dCons (dVar 1) dNil))))
    (sIf (dTest (dOp fNe (dCB fLen (dCons (dVar 1) dNil)) (dVar 0))) (sRaise "NoName") sNext))
theorem m_need_all : Meets t_need_all 2 0 sp_need_all := by
  rintro args Qd Xd ⟨n, d, k, rfl, hk, hs, hQ, hX⟩
  show t_need_all _ _ [_, _]
  unfold t_need_all
  and_intros
  refine ⟨_, d, k, rfl, hk, hs, fun hn fin => ?_, fun hn fin => hX (fun ⟨o, e, h1, h2, _⟩ => hn ⟨o, e, h1, fun m hm => by have := h2 m hm; omega⟩) _⟩
  obtain ⟨o, rfl, nd, hl⟩ := hn
  trivial
  rw [nD_len]
  by_cases e : o.length = n
  · rw [if_neg (by simp [e])]
    exact hQ ⟨o, rfl, nd, fun m hm => by have := hl m hm; omega, e⟩ _
  · rw [if_pos (by simpa using fun z : (o.length : Int) = n => e (by omega))]
    refine hX (fun ⟨o', e', _, _, h⟩ => ?_) _
    have e' : o = o' := nD_inj (D.tup.inj e')
    subst e'
    exact e h
end LS
namespace LS
open PySem L2 HD PM
open K01 (isInt_all fil0 iD_inj pl_tup nD_iD)
local macro_rules | `(tactic| trivial) => `(tactic| try simp -dsimp only [↓sIf, ↓sRet, ↓retD_ext, ↓retD_lst, ↓retD_al, ↓sSet, ↓sSetE, ↓sAsg, ↓sDrop, ↓sNext, ↓sFor, ↓sRetN, ↓sCont, ↓sBreak, ↓dTest, ↓dOp, ↓dVar_w, ↓dC, ↓dCons, ↓dNil, ↓dTup, ↓dLst, ↓frzDs, ↓frzD_ext, ↓frzD_lst, ↓frzD_al, ↓wd_ext, ↓wd_lst, ↓wd_al, ↓wds, ↓AtS_ext, ↓AtS_lst, ↓AtL, ↓fAdd, ↓fSub, ↓fMul, ↓fDiv, ↓fMod, ↓fPow, ↓fCmp, ↓fIn, ↓fEq_ii, ↓fEq_ss, ↓fEq_bb, ↓fEq_tt, ↓fEq_ll, ↓fNe_ii, ↓fNe_ss, ↓fNe_bb, ↓fNe_tt, ↓fNe_ll, ↓fIx_l, ↓fIx_t, ↓fIx_k, ↓fIx_f, ↓GetS_some, ↓NatS_some, ↓fSl, ↓fIsN, ↓fNotN, ↓D.knN, ↓dNot, ↓dAnd, ↓dOr, ↓dAndV_w, ↓dOrV_w, ↓dNotV, ↓dIf, ↓dNeg, ↓dChain_w, ↓BlS_bl, ↓dCall_w, ↓dCallJ_w, ↓anyAl, ↓frozs, ↓froz, ↓gSet, ↓gTupD, ↓gsCons, ↓gsNil, ↓dSeq, ↓seqD_tup, ↓seqD_elst, ↓seqD_lst, ↓seqD_al, ↓dRange1, ↓dRange2, ↓dZip, ↓dCB, ↓dLc, ↓dYes, ↓dNoPart, ↓dPart, ↓dSl, ↓fLen, ↓fMin, ↓fMax, ↓fSum, ↓fAll, ↓fAny, ↓fSorted, ↓fTuple, ↓fList, ↓dRg1, ↓dRg2, ↓dLstRg, ↓dTupRg, ↓dIndex, ↓fIdx, ↓dAppend_w, ↓dExtend_w, ↓extD_lst, ↓dPopAt_w, ↓popD_int, ↓dPop_w, ↓mutD_w, ↓sSetItem_w, ↓setD_int, ↓dSortSet, ↓dTable_w, ↓wipeE, finals1, finals2, finals3, finals4, finals5, finals6, fin1_ext, fin1_lst, List.getElem?_cons_zero, List.getElem?_cons_succ, List.getElem?_nil, List.set_cons_zero, List.set_cons_succ, List.cons_append, List.nil_append, List.append_nil, List.replicate_succ, List.replicate_zero, List.map_cons, List.map_nil, List.length_cons, List.length_nil, true_and, and_true, ite_true, ite_false, if_true, if_false, Bool.false_eq_true, decide_eq_true_eq, Sl.plain, D.isSq, eq_self_iff_true, forall_const, reduceIte, true_or, or_true, atI_0, atI_1, atI_2, atI_3, ixN_0, ixN_1, ixN_2, AtS_ext, AtS_lst, FzS_lst, FzS_ext, GetS_some, NatS_some, ↓fIsi1, ↓fIsi2, BoolS_some, HD.kb_non_tuple, HD.kb_non_list, HD.kb_non_bool, HD.kb_non_int, HD.kb_non_str, HD.kb_bl_tuple, HD.kb_bl_list, HD.kb_bl_bool, HD.kb_bl_int, HD.kb_bl_str, HD.kb_int_tuple, HD.kb_int_list, HD.kb_int_bool, HD.kb_int_int, HD.kb_int_str, HD.kb_str_tuple, HD.kb_str_list, HD.kb_str_bool, HD.kb_str_int, HD.kb_str_str, HD.kb_lst_tuple, HD.kb_lst_list, HD.kb_lst_bool, HD.kb_lst_int, HD.kb_lst_str, HD.kb_tup_tuple, HD.kb_tup_list, HD.kb_tup_bool, HD.kb_tup_int, HD.kb_tup_str, ↓sFz_w, ↓FzS_lst, ↓FzS_ext, ↓dSortSetL, ↓fAbs, ↓fInt, ↓fRepr, ↓fLtT, ↓sRaise, ↓sTryKeep, ↓dCallV_w, ↓dMeth, ↓fCount, ↓fSplit, ↓seq_setE, ↓seq_set, ↓seq_drop, ↓seq_asg, ↓seq_if, ↓seq_for, ↓dStep, ↓fStep, ↓fMulT, ↓fIsB, ↓fNotB, ↓sPar, ↓dEnum, ↓dListZip, ↓dNest, ↓sSeal, ↓dNApp, ↓retD_reg, ↓dLenSet, ↓fSum2, ↓seq_putD, ↓seq_sealD, ↓dDIn, ↓dDGet, ↓sPutD, ↓dDNew, ↓dDOne, ↓sSealD, ↓dKeys, ↓keyS_dk, ↓dExtT, ↓fSortT, ↓fMinP, ↓dRemove])
local macro_rules | `(tactic| and_intros) => `(tactic| try simp -dsimp only [↓sIf, ↓sRet, ↓retD_ext, ↓retD_lst, ↓retD_al, ↓sSet, ↓sSetE, ↓sAsg, ↓sDrop, ↓sNext, ↓sFor, ↓sRetN, ↓sCont, ↓sBreak, ↓dTest, ↓dOp, ↓dC, ↓dCons, ↓dNil, ↓dTup, ↓dLst, ↓frzDs, ↓frzD_ext, ↓frzD_lst, ↓frzD_al, ↓wd_ext, ↓wd_lst, ↓wd_al, ↓wds, ↓AtS_ext, ↓AtS_lst, ↓AtL, ↓fAdd, ↓fSub, ↓fMul, ↓fDiv, ↓fMod, ↓fPow, ↓fCmp, ↓fIn, ↓fEq_ii, ↓fEq_ss, ↓fEq_bb, ↓fEq_tt, ↓fEq_ll, ↓fNe_ii, ↓fNe_ss, ↓fNe_bb, ↓fNe_tt, ↓fNe_ll, ↓fIx_l, ↓fIx_t, ↓fIx_k, ↓fIx_f, ↓GetS_some, ↓NatS_some, ↓fSl, ↓fIsN, ↓fNotN, ↓D.knN, ↓dNot, ↓dAnd, ↓dOr, ↓dAndV_w, ↓dOrV_w, ↓dNotV, ↓dIf, ↓dNeg, ↓dChain_w, ↓BlS_bl, ↓dCall_w, ↓dCallJ_w, ↓anyAl, ↓frozs, ↓froz, ↓gSet, ↓gTupD, ↓gsCons, ↓gsNil, ↓dSeq, ↓seqD_tup, ↓seqD_elst, ↓seqD_lst, ↓seqD_al, ↓dRange1, ↓dRange2, ↓dZip, ↓dCB, ↓dLc, ↓dYes, ↓dNoPart, ↓dPart, ↓dSl, ↓fLen, ↓fMin, ↓fMax, ↓fSum, ↓fAll, ↓fAny, ↓fSorted, ↓fTuple, ↓fList, ↓dRg1, ↓dRg2, ↓dLstRg, ↓dTupRg, ↓dIndex, ↓fIdx, ↓dAppend_w, ↓dExtend_w, ↓extD_lst, ↓dPopAt_w, ↓popD_int, ↓dPop_w, ↓mutD_w, ↓sSetItem_w, ↓setD_int, ↓dSortSet, ↓dTable_w, ↓wipeE, finals1, finals2, finals3, finals4, finals5, finals6, fin1_ext, fin1_lst, List.getElem?_cons_zero, List.getElem?_cons_succ, List.getElem?_nil, List.set_cons_zero, List.set_cons_succ, List.cons_append, List.nil_append, List.append_nil, List.replicate_succ, List.replicate_zero, List.map_cons, List.map_nil, List.length_cons, List.length_nil, true_and, and_true, ite_true, ite_false, if_true, if_false, Bool.false_eq_true, decide_eq_true_eq, Sl.plain, D.isSq, eq_self_iff_true, forall_const, reduceIte, true_or, or_true, atI_0, atI_1, atI_2, atI_3, ixN_0, ixN_1, ixN_2, AtS_ext, AtS_lst, FzS_lst, FzS_ext, GetS_some, NatS_some, ↓fIsi1, ↓fIsi2, BoolS_some, HD.kb_non_tuple, HD.kb_non_list, HD.kb_non_bool, HD.kb_non_int, HD.kb_non_str, HD.kb_bl_tuple, HD.kb_bl_list, HD.kb_bl_bool, HD.kb_bl_int, HD.kb_bl_str, HD.kb_int_tuple, HD.kb_int_list, HD.kb_int_bool, HD.kb_int_int, HD.kb_int_str, HD.kb_str_tuple, HD.kb_str_list, HD.kb_str_bool, HD.kb_str_int, HD.kb_str_str, HD.kb_lst_tuple, HD.kb_lst_list, HD.kb_lst_bool, HD.kb_lst_int, HD.kb_lst_str, HD.kb_tup_tuple, HD.kb_tup_list, HD.kb_tup_bool, HD.kb_tup_int, HD.kb_tup_str, ↓sFz_w, ↓FzS_lst, ↓FzS_ext, ↓dSortSetL, ↓fAbs, ↓fInt, ↓fRepr, ↓fLtT, ↓sRaise, ↓sTryKeep, ↓dCallV_w, ↓dMeth, ↓fCount, ↓fSplit, ↓seq_setE, ↓seq_set, ↓seq_drop, ↓seq_asg, ↓seq_if, ↓seq_for, ↓dStep, ↓fStep, ↓fMulT, ↓fIsB, ↓fNotB, ↓sPar, ↓dEnum, ↓dListZip, ↓dNest, ↓sSeal, ↓dNApp, ↓retD_reg, ↓dLenSet, ↓fSum2, ↓seq_putD, ↓seq_sealD, ↓dDIn, ↓dDGet, ↓sPutD, ↓dDNew, ↓dDOne, ↓sSealD, ↓dKeys, ↓keyS_dk, ↓dExtT, ↓fSortT, ↓fMinP, ↓dRemove, ↓dv0, ↓dw0, ↓dv1, ↓dw1, ↓dv2, ↓dw2, ↓dv3, ↓dw3, ↓dv4, ↓dw4, ↓dv5, ↓dw5, ↓dv6, ↓dw6, ↓dv7, ↓dw7, ↓dv8, ↓dw8, ↓dv9, ↓dw9, ↓dv10, ↓dw10, ↓dv11, ↓dw11, ↓dv12, ↓dw12, ↓dv13, ↓dw13, ↓dv14, ↓dw14, ↓dv15, ↓dw15, ↓dv16, ↓dw16, ↓dv17, ↓dw17, ↓dv18, ↓dw18, ↓dv19, ↓dw19])
def mxL : List Nat → Nat
  | [] => 0
  | x :: l => max x (mxL l)
theorem mxL_le {l : List Nat} {m : Nat} (h : ∀ x ∈ l, x ≤ m) : mxL l ≤ m := by
  induction l with
  | nil => exact Nat.zero_le _
  | cons x l ih => exact Nat.max_le.2 ⟨h x List.mem_cons_self, ih fun y hy => h y (List.mem_cons_of_mem _ hy)⟩
theorem le_mxL {l : List Nat} : ∀ x ∈ l, x ≤ mxL l := by
  induction l with
  | nil => intro x hx; nomatch hx
  | cons y l ih =>
    intro x hx
    rcases List.mem_cons.1 hx with e | e
    · rw [e]; exact Nat.le_max_left _ _
    · exact Nat.le_trans (ih x e) (Nat.le_max_right _ _)
theorem mxL_max {l : List Nat} {m : Nat} (h1 : m ∈ l) (h2 : ∀ x ∈ l, x ≤ m) : m = mxL l := Nat.le_antisymm (le_mxL m h1) (mxL_le h2)
noncomputable def roomN (S : List Nat) (gs : List (List Nat)) (o : List Nat) : Nat := mxL ((bagsN S.length gs o).map (psz S))
def sp_room_of : DSpec := fun args Q X => ∃ (S : List Nat) (ps : List Part) (d : D) (k : Nat), args = [.ext (dSh S ps), .ext d] ∧ NsOk S ps ∧ SzOk S ∧ 0 < S.length ∧ D.pl k d = true ∧ ShortT d ∧
  (∀ o : List Nat, d = .tup (nD o) → o.Nodup → (∀ m ∈ o, m < S.length) → o.length = S.length → ∀ fin, Q (dI (roomN S (gsOf ps) o : Nat)) fin) ∧ (¬ AllD S.length d → ∀ fin, X "NoName" fin)
def e1_room_of : DT :=
    (dCall sp_room_by (dCons (dVar 0) (dCons (dVar 2) dNil)))
def t_room_of : DTS :=
    (sSeq (sDrop (dCall sp_need_all (dCons (dCB fLen (dCons (dOp fIx (dVar 0) (dC (.int 0))) dNil)) (dCons (dVar 1) dNil))))
    (sRet (dCB fMax (dCons (dLc (dSeq (dCall sp_bags_of (dCons (dVar 0) (dCons (dVar 1) dNil)))) (gSet 2) dYes e1_room_of [2]) dNil))))
theorem mem_bagsN {n : Nat} {gs : List (List Nat)} {o B : List Nat} (h : B ∈ bagsN n gs o) : Rising B ∧ ∀ m ∈ B, m < n := by
  unfold bagsN at h
  obtain ⟨k, _, rfl⟩ := List.mem_map.1 h
  exact ⟨bag_rising .., fun m hm => (mem_bag.1 hm).1⟩
theorem bagsN_len {n : Nat} {gs : List (List Nat)} {o : List Nat} : (bagsN n gs o).length = o.length := by unfold bagsN; simp
theorem m_room_of : Meets t_room_of 2 1 sp_room_of := by
  rintro args Qd Xd ⟨S, ps, d, k, rfl, ok, hS, hS0, hk, hsh, hQ, hX⟩
  have h24 := ok.few
  show t_room_of _ _ [_, _, .un]
  unfold t_room_of
  and_intros
  rw [nD_len]
  refine ⟨_, d, k, rfl, hk, hsh, fun hn fin => ?_, fun hn fin => hX hn _⟩
  obtain ⟨o, rfl, nd, hl, hlen⟩ := hn
  trivial
  refine ⟨S, ps, _, k, rfl, ok, hk, hsh, fun o' e _ _ a fin => ?_, fun h => absurd ⟨o, rfl, nd, fun m hm => by have := hl m hm; omega⟩ h⟩
  have e : o = o' := nD_inj (D.tup.inj e)
  subst e
  trivial
  have hbl : (bagsN S.length (gsOf ps) o).length = o.length := bagsN_len
  rw [show fD (bagsN S.length (gsOf ps) o) = (bagsN S.length (gsOf ps) o).map (fun B => D.tup (nD B)) from rfl]
  refine lc_map (fun B : List Nat => D.tup (nD B)) (fun B => .int (psz S B : Nat)) True.intro (bagsN S.length (gsOf ps) o) (Nat.le_trans (by omega : _ ≤ 100) (by decide)) (fun B hB R hR => ?_) fun b => ?_
  · unfold e1_room_of
    trivial
    obtain ⟨h1, h2⟩ := mem_bagsN hB
    refine ⟨S, ps, B, rfl, hS, h1.nd, h2, fun fin => ?_⟩
    trivial
    exact hR
  trivial
  have hne : bagsN S.length (gsOf ps) o ≠ [] := fun z => by rw [z] at hbl; simp at hbl; omega
  refine ⟨cI ((bagsN S.length (gsOf ps) o).map (psz S)), by rw [cI, List.map_map, List.map_map]; rfl, by simpa [cI] using hne, fun m hm hle => ?_⟩
  obtain ⟨v, hv, rfl⟩ := List.mem_map.1 hm
  have ev : v = roomN S (gsOf ps) o := mxL_max hv fun x hx => by
    have := hle _ (List.mem_map.2 ⟨x, hx, rfl⟩)
    omega
  rw [ev]
  exact hQ o rfl nd hl hlen _
end LS
namespace HD
open PySem PyProof.Rows L2
abbrev tkI (P : Program) (w : World) : HeapKind P w (List Int) := tupleKind (PySem.intKind P w)
abbrev KB := List (List Int × Addr × V)
def PX (kbs : KB) (xs : List (List Int × Addr × Value)) : Prop := Paired (fun x y => x.1 = y.1 ∧ x.2.1 = y.2.1 ∧ RelV x.2.2 y.2.2) kbs xs
theorem px_of : ∀ {kbs : KB} {us : List Value}, Vals (kbs.map (·.2.2)) us → PX kbs ((kbs.zip us).map fun x => (x.1.1, x.1.2.1, x.2))
  | [], _, h => by
    cases h
    exact .nil
  | x :: kbs, _, h => by
    cases h with
    | cons r t => exact .cons ⟨rfl, rfl, r⟩ (px_of t)
theorem px_to : ∀ {kbs : KB} {xs : List (List Int × Addr × Value)}, PX kbs xs → ∃ us, Vals (kbs.map (·.2.2)) us ∧ xs = (kbs.zip us).map fun x => (x.1.1, x.1.2.1, x.2)
  | [], _, h => by
    cases h
    exact ⟨[], .nil, rfl⟩
  | x :: kbs, _, h => by
    cases h with
    | @cons _ y _ _ r t =>
      obtain ⟨us, h1, rfl⟩ := px_to t
      refine ⟨y.2.2 :: us, .cons r.2.2 h1, ?_⟩
      obtain ⟨y1, y2, y3⟩ := y
      obtain ⟨r1, r2, r3⟩ := r
      rw [List.zip_cons_cons, List.map_cons]
      show _ = (x.1, x.2.1, y3) :: _
      rw [show x.1 = y1 from r1, show x.2.1 = y2 from r2]
theorem px_keys : ∀ {kbs : KB} {xs : List (List Int × Addr × Value)}, PX kbs xs → xs.map (·.1) = kbs.map (·.1)
  | [], _, h => by
    cases h
    rfl
  | x :: kbs, _, h => by
    cases h with
    | cons r t => rw [List.map_cons, List.map_cons, px_keys t, r.1]
abbrev kvB (kbs : KB) : List (List Int × V) := kbs.map fun x => (x.1, x.2.2)
theorem px_at (k : List Int) : ∀ {kbs : KB} {xs : List (List Int × Addr × Value)}, PX kbs xs → (∀ v, luK (kvB kbs) k = some v → ∃ p, atKey xs k = some p ∧ RelV v p.2) ∧ (atKey xs k).isSome = (luK (kvB kbs) k).isSome
  | [], _, h => by
    cases h
    exact ⟨fun v z => (by cases z), rfl⟩
  | x :: kbs, _, h => by
    cases h with
    | @cons _ y _ ys r t =>
      obtain ⟨i1, i2⟩ := px_at k t
      have ey : atKey (y :: ys) k = if y.1 = k then some y.2 else atKey ys k := by
        unfold atKey
        by_cases e : y.1 = k <;> simp [List.find?_cons, e]
      rw [ey, show kvB (x :: kbs) = (x.1, x.2.2) :: kvB kbs from rfl, luK_cons]
      show (∀ v, (if x.1 = k then some x.2.2 else luK (kvB kbs) k) = some v → _) ∧ _ = (if x.1 = k then some x.2.2 else luK (kvB kbs) k).isSome
      by_cases e : x.1 = k
      · rw [if_pos e, if_pos (r.1.symm.trans e)]
        exact ⟨fun v z => by cases z; exact ⟨_, rfl, r.2.2⟩, rfl⟩
      · rw [if_neg e, if_neg (fun z => e (r.1.trans z))]
        exact ⟨i1, i2⟩
def stK (kbs : KB) (k : List Int) (b : Addr) (v : V) : KB := if (luK (kvB kbs) k).isSome then kbs.map (fun x => if x.1 = k then (x.1, x.2.1, v) else x) else kbs ++ [(k, b, v)]
theorem px_map {kbs : KB} {xs : List (List Int × Addr × Value)} (h : PX kbs xs) (k : List Int) {v : V} {r : Value} (rv : RelV v r) : PX (kbs.map fun x => if x.1 = k then (x.1, x.2.1, v) else x) (xs.map (putAt k r)) := by
  induction h with
  | nil => exact .nil
  | @cons x y _ _ r t ih =>
    refine .cons ?_ ih
    unfold putAt
    dsimp only
    by_cases e : x.1 = k
    · rw [if_pos e, if_pos (r.1.symm.trans e)]
      exact ⟨r.1, r.2.1, rv⟩
    · rw [if_neg e, if_neg (fun z => e (r.1.trans z))]
      exact r
theorem px_put {kbs : KB} {xs : List (List Int × Addr × Value)} (h : PX kbs xs) (k : List Int) (b : Addr) {v : V} {r : Value} (rv : RelV v r) : PX (stK kbs k b v) (storedH xs k b r) := by
  unfold stK storedH
  rw [(px_at k h).2]
  split
  · exact px_map h k rv
  · exact Paired.snoc h ⟨rfl, rfl, rv⟩
theorem stK_kv (kbs : KB) (k : List Int) (b : Addr) (v : V) : kvB (stK kbs k b v) = ptK (kvB kbs) k v := by
  unfold stK ptK
  rw [any_keys]
  split
  · rw [kvB, List.map_map, List.map_map]
    refine List.map_congr_left fun x _ => ?_
    show ((if x.1 = k then (x.1, x.2.1, v) else x).1, (if x.1 = k then (x.1, x.2.1, v) else x).2.2) = if x.1 = k then (x.1, v) else (x.1, x.2.2)
    split <;> rfl
  · rw [kvB, List.map_append]
    rfl
theorem stK_len (kbs : KB) (k : List Int) (b : Addr) (v : V) : (stK kbs k b v).length ≤ kbs.length + 1 := by
  unfold stK
  split
  · rw [List.length_map]; omega
  · rw [List.length_append, List.length_singleton]; exact Nat.le_refl _
section
variable {P : Program} {w : World} {H : Hp} {h h' : Heap} {a : Addr} {kbs : KB}
theorem dtO_mk (z : kbs.length ≤ sizeLine) (hs : (a == sysModules) = false) (nd : (kbs.map (·.1)).Nodup) {xs : List (List Int × Addr × Value)} (px : PX kbs xs) {o : Obj} {es : Array DictEntry} {ep : Nat} (ho : h.get? a = some o) (hc : o.ExactDict) (hd : o.data = .dict es ep)
    (he : es.toList = xs.map (entryOfKey (tkI P w))) : ObjOk P w H h a (dtO a kbs) := by
  obtain ⟨us, h1, rfl⟩ := px_to px
  refine ⟨⟨z, hs, nd, us, o, es, ep, h1, ho, hc, hd, ?_⟩, ⟨o, ho⟩, fun h1 h2 ⟨a1, a2, a3, us, o, es, ep, b1, b2, b3, b4, b5⟩ k => ⟨a1, a2, a3, us, o, es, ep, b1, k o b2, b3, b4, b5⟩⟩
  rw [he, List.map_map]
  rfl
theorem dtO_get (x : ObjOk P w H h a (dtO a kbs)) : kbs.length ≤ sizeLine ∧ (a == sysModules) = false ∧ (kbs.map (·.1)).Nodup ∧ ∃ (xs : List (List Int × Addr × Value)) (o : Obj) (es : Array DictEntry) (ep : Nat), PX kbs xs ∧ h.get? a = some o ∧ o.ExactDict ∧ o.data = .dict es ep ∧ es.toList = xs.map (entryOfKey (tkI P w)) := by
  obtain ⟨⟨a1, a2, a3, us, o, es, ep, b1, b2, b3, b4, b5⟩, _⟩ := x
  refine ⟨a1, a2, a3, _, o, es, ep, px_of b1, b2, b3, b4, ?_⟩
  rw [b5, List.map_map]
  rfl
end
section
variable {X : Cx} {pins : List (Addr × Obj)} {σ : L2.St} {H : Hp} {s : Shared} {a b : Addr} {kbs : KB} {ks : List Int}
theorem items_ints : ∀ {ks : List Int} {its : List Value}, Vals (ks.map V.int) its → ItemsAre (PySem.intKind X.prog X.w) ks its
  | [], _, h => by
    cases h
    exact .nil
  | k :: ks, _, h => by
    cases h with
    | cons r t =>
      obtain ⟨tk, rfl⟩ := r
      exact .cons (by show Value.isInt k (.int k tk) = true; simp [Value.isInt]) (items_ints t)
theorem key_is (I : Inv X pins σ H s) (h : TupD X.K H b (ks.map V.int)) : (tkI X.prog X.w).is s.heap ks b := by
  obtain ⟨its, r, ⟨o, h1, h2, n, h3⟩, _⟩ := I.tuple h.sq
  exact ⟨o, its.toArray, n, h1, h2, h3, by rw [List.toList_toArray]; exact items_ints r⟩
def KeysOk (K : PySem.W.Frag) (H : Hp) (kbs : KB) : Prop := ∀ x ∈ kbs, TupD K H x.2.1 (x.1.map V.int)
theorem px_is (I : Inv X pins σ H s) : ∀ {kbs : KB} {xs : List (List Int × Addr × Value)}, PX kbs xs → KeysOk X.K H kbs → ∀ x ∈ xs, (tkI X.prog X.w).is s.heap x.1 x.2.1
  | [], _, h, _ => by
    cases h
    intro x hx
    nomatch hx
  | y :: kbs, _, h, hk => by
    cases h with
    | cons r t =>
      intro x hx
      rcases List.mem_cons.1 hx with e | hx
      · subst e
        have := key_is I (hk y List.mem_cons_self)
        rw [r.1, r.2.1] at this
        exact this
      · exact px_is I t (fun z hz => hk z (List.mem_cons_of_mem _ hz)) x hx
theorem dt_dict (I : Inv X pins σ H s) (e : Rd H a (dtO a kbs)) (hk : KeysOk X.K H kbs) : kbs.length ≤ sizeLine ∧ (a == sysModules) = false ∧ ∃ xs, PX kbs xs ∧ s.heap.DictOfH (tkI X.prog X.w) a xs := by
  obtain ⟨a1, a2, a3, xs, o, es, ep, px, b2, b3, b4, b5⟩ := dtO_get (rd_of I.hok e)
  exact ⟨a1, a2, xs, px, o, es, ep, b2, b3, b4, b5, px_is I px hk, by rw [px_keys px]; exact a3⟩
end
section
variable {X : Cx} {o i e value : Expr} {pos pos' tpos : Pos} {td ty tv : TE}
def TD (K : PySem.W.Frag) (H : Hp) (x y : V) (a b : Addr) (kbs : KB) (ks : List Int) : Prop := x = .ref a ∧ y = .ref b ∧ Rd H a (dtO a kbs) ∧ KeysOk K H kbs ∧ TupD K H b (ks.map V.int)
def tTGet (K : PySem.W.Frag) (td ty : TE) : TE := fun σ H Q => td σ H fun x H1 => ty σ H1 fun y H2 => ∃ a b kbs ks v, TD K H2 x y a b kbs ks ∧ luK (kvB kbs) ks = some v ∧ Q v H2
def sTPut (K : PySem.W.Frag) (td ty tv : TE) : TS := fun D σ H => tv σ H fun v H1 => td σ H1 fun x H2 => ty σ H2 fun y H3 => ∃ a b kbs ks, x = .ref a ∧ y = .ref b ∧ H3 a = some (dtO a kbs) ∧ KeysOk K H3 kbs ∧ TupD K H3 b (ks.map V.int) ∧ kbs.length < sizeLine ∧ D.nx σ (upd H3 a (dtO a (stK kbs ks b v)))
theorem pe_tget (hu : X.A.units + 1 < cLine) (ho : PE X o td) (hi : PE X i ty) (hs : NoSl i) : PE X (.Subscript o i pos) (tTGet X.K td ty) := by
  refine ⟨fun pins s σ H Q I h => ?_⟩
  refine subD_of PySem.F.slot_dict_getitem.lookup hs (thn (ho.run pins s σ H _ I h) fun u s1 ⟨x, H1, I1, rx, q1⟩ => thn (hi.run pins s1 σ H1 _ I1 q1) fun iv s2 ⟨y, H2, I2, ry, a, b, kbs, ks, v, ⟨ex, ey, rd, hk, hb⟩, hl, q2⟩ => ?_)
  subst ex ey
  obtain rfl : u = Value.ref a := rx
  obtain rfl : iv = Value.ref b := ry
  obtain ⟨z, hd, xs, px, dd⟩ := dt_dict I2 rd hk
  obtain ⟨p, hp, rp⟩ := (px_at ks px).1 v hl
  exact ⟨dd.typeIs, wpAny_getItem_heap (tupleKind_room_in1 hu) (key_is I2 hb) dd hp ⟨v, H2, I2.tok _, rp, q2⟩⟩
theorem ps_tput (hu : X.A.units + 1 < cLine) (ho : PE X o td) (hi : PE X i ty) (hv : PE X value tv) (hs : swapsWith value (some (.Subscript o i pos')) pos.line X.env = pure false) :
    PS X (.Assign [.Subscript o i pos'] value pos) (sTPut X.K td ty tv) := by
  refine ⟨fun pins s σ H D I h => ?_⟩
  refine wpAny_Assign_Subscript (thn (hv.run pins s σ H _ I h) fun r s1 ⟨v, H1, I1, rv, q1⟩ => thn (ho.run pins s1 σ H1 _ I1 q1) fun u s2 ⟨x, H2, I2, rx, q2⟩ => thn (hi.run pins s2 σ H2 _ I2 q2) fun iv s3 ⟨y, H3, I3, ry, a, b, kbs, ks, ex, ey, rd, hk, hb, hz, q3⟩ => ?_) hs
  subst ex ey
  obtain rfl : u = Value.ref a := rx
  obtain rfl : iv = Value.ref b := ry
  obtain ⟨z, hd, xs, px, dd⟩ := dt_dict I3 (.inl rd) hk
  have hzx : xs.length ≤ sizeLine := by
    have e := congrArg List.length (px_keys px)
    rw [List.length_map, List.length_map] at e
    rw [e]; exact z
  have hl : (stK kbs ks b v).length ≤ sizeLine := by have := stK_len kbs ks b v; omega
  refine wpAny_setItem_heap (hsz := hzx) (tupleKind_room_in1 hu) (key_is I3 hb) dd fun h' dd' hs => ?_
  obtain ⟨q, es, ep, hq, h2, h3, h4, _, h5⟩ := dd'
  have px' := px_put px ks b rv
  exact ⟨σ, _, d_write I3 (by rw [rd]; exact True.intro) hs ⟨q, hq⟩ (dtO_mk hl hd (by rw [← px_keys px']; exact h5) px' hq h2 h3 h4), q3⟩
end
section
variable {K : PySem.W.Frag} {F : Hp}
def EntT (K : PySem.W.Frag) (F : Hp) (kvs : List (List Int × D)) (kbs : KB) : Prop := Ents K F kvs (kvB kbs) ∧ KeysOk K F kbs
theorem EntT.nil : EntT K F [] [] := ⟨Ents.nil, fun x hx => nomatch hx⟩
theorem EntT.put {k : List Int} {b : Addr} {d : D} {v : V} (hd : Rep K F d v) (hb : TupD K F b (k.map V.int)) {kvs : List (List Int × D)} {kbs : KB} (h : EntT K F kvs kbs) : EntT K F (ptK kvs k d) (stK kbs k b v) := by
  refine ⟨by rw [stK_kv]; exact h.1.put k hd, fun x hx => ?_⟩
  unfold stK at hx
  split at hx
  · obtain ⟨y, hy, rfl⟩ := List.mem_map.1 hx
    have := h.2 y hy
    split
    · exact this
    · exact this
  · rcases List.mem_append.1 hx with hx | hx
    · exact h.2 x hx
    · rw [List.mem_singleton.1 hx]; exact hb
abbrev dtS (a : Addr) (kvs : List (List Int × D)) : Sl := .reg (.val (.ref a)) [(a, .dt kvs)]
abbrev dtD (kvs : List (List Int × D)) : D := .dt (kvs.map (·.1)) (kvs.map (·.2))
abbrev kT (k : List Int) : D := .tup (k.map D.int)
theorem entT_iff {kvs : List (List Int × D)} {kbs : KB} : EntT K F kvs kbs ↔ kbs.map (·.1) = kvs.map (·.1) ∧ (∀ x ∈ kbs, TupD K F x.2.1 (x.1.map V.int)) ∧ Reps K F (kvs.map (·.2)) (kbs.map (·.2.2)) := by
  unfold EntT Ents KeysOk
  rw [kvB, List.map_map, List.map_map]
  exact ⟨fun h => ⟨h.1.1, h.2, h.1.2⟩, fun h => ⟨⟨h.1, h.2.2⟩, h.2.1⟩⟩
theorem dt_ok {H : Hp} {v : V} {a : Addr} {kvs : List (List Int × D)} : SlOk K F H v (dtS a kvs) ↔ v = .ref a ∧ F a = none ∧ ∃ kbs, H a = some (dtO a kbs) ∧ EntT K F kvs kbs := by
  constructor
  · rintro ⟨h1, _, h3⟩
    obtain ⟨n, o, ho, kbs, rfl, r1, r2, r3⟩ := h3 (a, .dt kvs) List.mem_cons_self
    exact ⟨h1, n, kbs, ho, entT_iff.2 ⟨r1, r2, r3⟩⟩
  · rintro ⟨h1, h2, kbs, h3, h4⟩
    obtain ⟨r1, r2, r3⟩ := entT_iff.1 h4
    refine ⟨h1, List.pairwise_singleton _ _, fun p hp => ?_⟩
    rw [List.mem_singleton.mp hp]
    exact ⟨h2, _, h3, kbs, rfl, r1, r2, r3⟩
def dtAt (env : Env') (i : Nat) (kvs : List (List Int × D)) : Prop := (∃ a, env[i]? = some (dtS a kvs)) ∨ env[i]? = some (.ext (dtD kvs))
theorem KeysOk.same {F' : Hp} {kbs : KB} (e : Same F F') (h : KeysOk K F kbs) : KeysOk K F' kbs := fun x hx => TupD.same e (h x hx)
theorem Holds.dtAt {e : Ent} {env : Env'} {T : Tmp} {σ : L2.St} {H : Hp} {i : Nat} {kvs : List (List Int × D)} (h : Holds K e env T F σ H) (w : HD.dtAt env i kvs) : ∃ a kbs, σ[i]? = some (some (.ref a)) ∧ Rd H a (dtO a kbs) ∧ EntT K F kvs kbs := by
  rcases w with ⟨a, w⟩ | w
  · rcases h.slots i _ w with z | ⟨v, hv, ok⟩
    · cases z
    obtain ⟨rfl, _, kbs, h1, h2⟩ := dt_ok.1 ok
    exact ⟨a, kbs, hv, .inl h1, h2⟩
  · rcases h.slots i _ w with z | ⟨v, hv, ok⟩
    · cases z
    obtain ⟨a, od, kbs, rfl, h1, h2, h3, h4⟩ := ok
    exact ⟨a, kbs, hv, .inr ⟨od, h.fh _ _ h1⟩, entT_iff.2 ⟨h2, h3, h4⟩⟩
end
section
variable {G : GG} {N : List Str} {sc : SC} {k : Nat} {a b : Expr} {ta tb : DT} {py pos spos apos cpos : Pos} {x : Str}
def dDInT (neg : Bool) (i : Nat) (t : DT) : DT := fun Ex env Q => t Ex env fun x env1 => ∃ key kvs, x = .ext (kT key) ∧ dtAt env1 i kvs ∧ Q (.ext (.bl (neg != (luK kvs key).isSome))) env1
theorem ints_rep {K : PySem.W.Frag} {F : Hp} {ks : List Int} {v : V} (h : Rep K F (kT ks) v) : ∃ b, v = .ref b ∧ TupD K F b (ks.map V.int) := by
  obtain ⟨b, vs, rfl, h1, h2⟩ := h
  have z := h2.ints
  subst z
  exact ⟨b, rfl, h1⟩
def dDGetT (i : Nat) (t : DT) : DT := fun Ex env Q => (∃ kvs, dtAt env i kvs) ∧ t Ex env fun x env1 => ∃ key kvs d, x = .ext (kT key) ∧ dtAt env1 i kvs ∧ luK kvs key = some d ∧ Q (.ext d) env1
theorem de_dgetT (i : Nat) (h : DE G N sc k a ta) (hs : NoSl a := by intro _ _; rfl) (hv : VisV N sc i x := by exact ⟨rfl, by first | exact Or.inl rfl | exact Or.inr (Or.inl rfl) | exact Or.inr (Or.inr rfl), by decide, by decide⟩) : DE G N sc k (.Subscript (.Name x py) a pos) (dDGetT i ta) := ⟨fun W => by
  obtain ⟨te, p1, i1⟩ := h.ex W
  refine ⟨tTGet G.K (tVar i) te, fun X S => ?_, fun e Ex hl env T F σ H Q R hh ht hR => ?_⟩
  · rw [← S.K]
    exact pe_tget S.u1 (pe_var (by rw [S.nms]; exact hv.1) (S.vis hv.2.1) hv.2.2.1 hv.2.2.2) (p1 X S) hs
  obtain ⟨⟨kvs0, w0⟩, ht⟩ := ht
  obtain ⟨a0, _, hs0, _⟩ := hh.dtAt w0
  refine ⟨_, hs0, ?_⟩
  refine i1 e Ex hl env T F σ H _ _ hh ht fun u H1 F1 env1 z hh1 q1 => ?_
  obtain ⟨key, kvs, d, rfl, w, hd, q⟩ := q1
  obtain ⟨b, rfl, hb⟩ := ints_rep (hh1.temps (u, .ext (kT key)) List.mem_cons_self)
  obtain ⟨ad, kbs, hs1, rd, en⟩ := hh1.dtAt w
  rw [hs0] at hs1
  cases hs1
  obtain ⟨v, hv', rv⟩ := (en.1.lu key).1 d hd
  exact ⟨a0, b, kbs, key, v, ⟨rfl, rfl, rd, en.2.same hh1.fh, TupD.same hh1.fh hb⟩, hv', hR v H1 F1 env1 (.ext d) (hh1.pop.pushE rv) q⟩⟩
def sPutDT (i : Nat) (tk tv : DT) : DTS := fun Ex E env => tv Ex env fun y env0 => frzD env0 y fun d env1 => (∃ a kvs, env1[i]? = some (dtS a kvs)) ∧ tk Ex env1 fun x env2 => ∃ a kvs key, env2[i]? = some (dtS a kvs) ∧ x = .ext (kT key) ∧ kvs.length < sizeLine ∧ E.nx (env2.set i (dtS a (ptK kvs key d)))
theorem Holds.dtW {K : PySem.W.Frag} {e : Ent} {env : Env'} {T : Tmp} {F : Hp} {σ : L2.St} {H : Hp} {i : Nat} {ad : Addr} {kvs kvs' : List (List Int × D)} {kbs' : KB} (h : Holds K e env T F σ H) (hi : env[i]? = some (dtS ad kvs)) (hr : EntT K F kvs' kbs') : Holds K e (env.set i (dtS ad kvs')) T F σ (upd H ad (dtO ad kbs')) := by
  refine h.writeR hi (List.mem_singleton.mpr rfl) rfl (fun v ok => ?_) (fun z => by cases z)
  obtain ⟨h1, h2, _⟩ := dt_ok.1 ok
  exact dt_ok.2 ⟨h1, h2, kbs', upd_same, hr⟩
theorem ds_dputT (i : Nat) (hi : DE G N sc k a ta) (hb : DE G N sc k b tb) (hsw : ∀ env, swapsWith b (some (.Subscript (.Name x py) a spos)) pos.line env = pure false := by intro _; rfl) (hv : VisV N sc i x := by exact ⟨rfl, by first | exact Or.inl rfl | exact Or.inr (Or.inl rfl) | exact Or.inr (Or.inr rfl), by decide, by decide⟩) :
    DS G N sc k (.Assign [.Subscript (.Name x py) a spos] b pos) (sPutDT i ta tb) := ⟨fun W => by
  obtain ⟨te, p1, i1⟩ := hi.ex W
  obtain ⟨tf, p2, i2⟩ := hb.ex W
  refine ⟨sTPut G.K (tVar i) te tf, fun X S => ?_, fun e Ex hl env F σ H E Dn hh ht ok => ?_⟩
  · rw [← S.K]
    exact ps_tput S.u1 (pe_var (by rw [S.nms]; exact hv.1) (S.vis hv.2.1) hv.2.2.1 hv.2.2.2) (p1 X S) (p2 X S) (hsw _)
  refine i2 e Ex hl env [] F σ H _ _ hh ht fun v H1 F1 env1 y hh1 q1 => ?_
  obtain ⟨d, F2, env2, _, hh2, rd, ⟨a0, kvs0, w0⟩, q2⟩ := hh1.frz1 q1
  obtain ⟨a0', _, hs0, _⟩ := hh2.dtAt (.inl ⟨a0, w0⟩)
  refine ⟨_, hs0, ?_⟩
  refine i1 e Ex hl env2 _ F2 σ H1 _ _ (hh2.pushE rd) q2 fun u H3 F3 env3 z hh3 q3 => ?_
  obtain ⟨a1, kvs, key, w1, rfl, hz, q⟩ := q3
  obtain ⟨b, rfl, hb⟩ := ints_rep (hh3.temps (u, .ext (kT key)) List.mem_cons_self)
  have rd3 : Rep G.K F3 d v := hh3.temps (v, .ext d) (List.mem_cons_of_mem _ List.mem_cons_self)
  rcases hh3.slots i _ w1 with z | ⟨v1, hv1, ok1⟩
  · cases z
  obtain ⟨rfl, _, kbs, hH, en⟩ := dt_ok.1 ok1
  rw [hs0] at hv1
  cases hv1
  refine ⟨a0', b, kbs, key, rfl, rfl, hH, en.2.same hh3.fh, TupD.same hh3.fh hb, ?_, ok.nx _ F3 σ _ (hh3.bare.dtW w1 (en.put rd3 hb)) q⟩
  have := en.1.length
  rw [List.length_map] at this
  rw [← this]; exact hz⟩
def dDNewT : DT := fun _ env Q => ∀ a, Q (dtS a []) env
def sSealDT (i : Nat) (t : DTS) : DTS := fun Ex E env => ∃ a kvs, env[i]? = some (dtS a kvs) ∧ t Ex E (env.set i (.ext (dtD kvs)))
theorem ds_sealDT {st : Stmt} {t : DTS} (i : Nat) (h : DS G N sc k st t) : DS G N sc k st (sSealDT i t) := ⟨fun W => by
  obtain ⟨ts, p1, i1⟩ := h.ex W
  refine ⟨tKnown ts, fun X S => ps_known (p1 X S), fun e Ex hl env F σ H E Dn hh ht ok => ?_⟩
  obtain ⟨a, kvs, hi, ht⟩ := ht
  rcases hh.slots i _ hi with z | ⟨v, hv, okv⟩
  · cases z
  obtain ⟨rfl, hF, kbs, hH, en⟩ := dt_ok.1 okv
  refine ⟨a, dtO a kbs, hH, True.intro, fun od => ?_⟩
  have sm : Same F (upd F a (.frz od (dtO a kbs))) := fun b q hq => by
    rw [upd_ne (ne_of_none hq hF)]
    exact hq
  obtain ⟨r1, r2, r3⟩ := entT_iff.1 en
  exact i1 e Ex hl _ _ σ _ E Dn (hh.lock (o := dtO a kbs) (o' := .frz od (dtO a kbs)) (d := dtD kvs) hi ⟨a, od, kbs, rfl, upd_same, r1, fun x hx => TupD.same sm (r2 x hx), r3.same sm⟩).1 ht ok⟩
end
end HD
namespace HD
open PySem PyProof.Rows L2
theorem px_get {kbs : KB} {xs : List (List Int × Addr × Value)} (h : PX kbs xs) {i : Nat} {x : List Int × Addr × V} (hx : kbs[i]? = some x) : ∃ y, xs[i]? = some y ∧ x.1 = y.1 ∧ x.2.1 = y.2.1 ∧ RelV x.2.2 y.2.2 := paired_get h hx
section
variable {X : Cx} {pins : List (Addr × Obj)} {σ : L2.St} {H : Hp} {s : Shared} {d : Addr} {o : Obj}
theorem frzO {kbs : KB} (I : Inv X pins σ H s) (h : H d = some (.frz o (dtO d kbs))) :
    (d == sysModules) = false ∧ s.heap.get? d = some o ∧ o.ExactDict ∧ ∃ (es : Array DictEntry) (ep : Nat), o.data = .dict es ep ∧ es.size = kbs.length ∧
      ∀ (i : Nat) (x : List Int × Addr × V), kbs[i]? = some x → ∃ en : DictEntry, es[i]? = some en ∧ en.key = .ref x.2.1 := by
  obtain ⟨hd, hx⟩ := (show ObjOk X.prog X.w H s.heap d (.frz o (dtO d kbs)) from I.hok d _ h)
  obtain ⟨a1, a2, a3, xs, o', es, ep, px, ho, hc, hdt, he⟩ := dtO_get (P := X.prog) (w := X.w) hx
  rw [hd] at ho
  cases ho
  have l1 : es.size = xs.length := size_of_entries he
  have l2 : kbs.length = xs.length := Paired.length px
  refine ⟨a2, hd, hc, es, ep, hdt, by omega, fun i x e => ?_⟩
  obtain ⟨y, hy, e1, e2, _⟩ := px_get px e
  have q := entry_at he i
  rw [hy] at q
  exact ⟨_, q, by rw [e2]; rfl⟩
end
def ItO (d : Addr) (o : Obj) (kbs : KB) : It :=
  ⟨fun i H => H d = some (.frz o (dtO d kbs)) ∧ i < kbs.length, fun i H x H' => H' = H ∧ ∃ y, kbs[i]? = some y ∧ x = .ref y.2.1, fun i H => H d = some (.frz o (dtO d kbs)) ∧ kbs.length ≤ i⟩
section
variable {P : Program} {w : World} {K : PySem.W.Frag} {tg : Expr} {d : Addr} {o : Obj} {es : Array DictEntry} {ep : Nat}
theorem turn_O {kbs : KB} (it : Addr) (hod : o.data = .dict es ep) : Turn P w K tg (ItO d o kbs) [it] it (fun i h => h.IsKeyIter it d i kbs.length ep) where
  mem := by simp
  obj := fun i h st b hb => by
    have e : b = it := by simpa using hb
    subst e
    obtain ⟨oi, e, c, dd⟩ := st
    exact ⟨oi, e, fun v z => by rw [dd] at z; cases z⟩
  keep := fun i h h' st k => st.at fun oi e => k it (by simp) oi e
  item := by
    intro X hP hw hK hc i pins s σ H E I hf st hg
    subst hP hw hK
    obtain ⟨hd, hi⟩ := hg
    obtain ⟨f0, f1, f2, f3, f4, f5⟩ := hf it (by simp)
    obtain ⟨hs, hgd, hx, es', ep', hdt, hsz, ent⟩ := frzO I hd
    obtain ⟨rfl, rfl⟩ := dict_ep hod hdt
    obtain ⟨y, hy⟩ : ∃ p, kbs[i]? = some p := ⟨kbs[i], List.getElem?_eq_getElem hi⟩
    obtain ⟨en, hen, hkey⟩ := ent i y hy
    refine next_key_item st hgd hdt hsz hen fun h' st' sb => ?_
    have I1 : Inv X pins σ H { s with heap := h' } := I.turned (t' := s.toks) (fun b ob hb e => (sb.2 b hb).trans e) f0 f1 f3 f4 f5
    obtain ⟨oi, e, c, dd⟩ := id st'
    exact ⟨en.key, rfl, go_of (s := { s with heap := h' }) e c dd (by decide) ⟨.ref y.2.1, H, I1, hkey, ⟨rfl, y, hy, rfl⟩, st', fun b hb => (hf b hb).1⟩⟩
  done := by
    intro X hP hw hK hc i pins s σ H E I hf st hg
    subst hP hw hK
    obtain ⟨hd, hi⟩ := hg
    obtain ⟨f0, f1, f2, f3, f4, f5⟩ := hf it (by simp)
    obtain ⟨hs, hgd, hx, es', ep', hdt, hsz, ent⟩ := frzO I hd
    obtain ⟨rfl, rfl⟩ := dict_ep hod hdt
    exact next_key_end (I.ok.hd hc) st hgd hdt hsz hi fun h' eb => ⟨rfl, I.turned (t' := s.toks) (fun b ob hb e => eb b ob hb e) f0 f1 f3 f4 f5⟩
  self := fun A i s Q E st h => by
    refine wpAny_pyIter_slot st.typeIs F.slot_dict_keyiterator_iter (wpAny_call_entry F.slot_dict_keyiterator_iter st.typeIs F.entry_dict_keyiterator_iter ?_ (F.args_dict_keyiterator_iter_1 _))
    show wpAny _ _ (ret (.ref it)) _ _ s
    exact wpAny_pure ⟨_, rfl, "dict_keyiterator", _, st.typeIs, F.slot_dict_keyiterator_next.lookup, h⟩
end
def iKeysO (td : TE) : TI := fun σ H R => td σ H fun x H1 => ∃ d o kbs, x = .ref d ∧ H1 d = some (.frz o (dtO d kbs)) ∧ R (ItO d o kbs) H1
theorem pi_keysO {X : Cx} {tg e : Expr} {td : TE} (he : PE X e td) : PI X tg e (iKeysO td) := by
  refine ⟨fun pins s σ H R I h => ?_⟩
  refine thn (he.run pins s σ H _ I h) fun u s1 ⟨x, H1, I1, rx, d, o, kbs, ex, hd, q⟩ => ?_
  subst ex
  obtain rfl : u = Value.ref d := rx
  obtain ⟨hs, hgd, hx, es, ep, hdt, hsz, ent⟩ := frzO I1 hd
  refine iter_keys hs hgd hx hdt (pi_one (tk := s1.toks) I1 _ (turn_O _ hdt) ⟨_, Heap.get?_push_size _ rfl, rfl, ?_⟩ q)
  rw [hsz] <;> rfl
def keyST (x : Sl) (q : List (List Int) → Prop) : Prop := match x with
  | .ext (.dt ks _) => q ks
  | _ => False
theorem keyST_dt (ks : List (List Int)) (ds : List D) (q : List (List Int) → Prop) : keyST (.ext (.dt ks ds)) q = q ks := rfl
def dKeysT (t : DT) : DTI := fun Ex env Q => t Ex env fun x env1 => keyST x fun ks => Q (ks.map kT) (fun _ => True) env1
theorem di_keysT {G : GG} {N : List Str} {sc : SC} {k : Nat} {tg a : Expr} {ta : DT} (h : DE G N sc k a ta) : DI G N sc k tg a (dKeysT ta) := ⟨fun W => by
  obtain ⟨te, p1, i1⟩ := h.ex W
  refine ⟨iKeysO te, fun X S => pi_keysO (p1 X S), fun e Ex hl env T F σ H Q R hh ht hR => ?_⟩
  refine i1 e Ex hl env T F σ H _ _ hh ht fun v H1 F1 env1 x hh1 q1 => ?_
  cases x with
  | ext d =>
    cases d with
    | dt ks ds =>
      obtain ⟨ad, od, kbs, ev, hF, hk, hT, hr⟩ := hh1.temps (v, .ext (.dt ks ds)) List.mem_cons_self
      refine ⟨ad, od, kbs, ev, hh1.fh _ _ hF, hR _ H1 F1 env1 _ _ hh1.pop ?_ q1⟩
      intro e' env' T' F' σ' H' j hh' sm _
      have hH : H' ad = some (.frz od (dtO ad kbs)) := hh'.fh _ _ (sm _ _ hF)
      have hl' : kbs.length = ks.length := by rw [← hk, List.length_map]
      refine ⟨fun hj => ⟨hH, by rw [hl', ← hj, List.length_map]; exact Nat.le_refl _⟩, fun d hd => ?_⟩
      rw [List.getElem?_map] at hd
      cases hkj : ks[j]? with
      | none => rw [hkj] at hd; cases hd
      | some key =>
        rw [hkj] at hd
        cases hd
        have hj : j < ks.length := (List.getElem?_eq_some_iff.1 hkj).1
        refine ⟨⟨hH, by omega⟩, fun x2 H2 hy => ?_⟩
        obtain ⟨rfl, y, hy, rfl⟩ := hy
        have : ks[j]? = some y.1 := by rw [← hk, List.getElem?_map, hy]; rfl
        rw [hkj] at this
        cases this
        exact ⟨F', Grow.refl hh'.fh, y.2.1, _, rfl, TupD.same sm (hT y (List.mem_of_getElem? hy)), Reps.of_ints _⟩
    | _ => exact q1.elim
  | _ => exact q1.elim⟩
end HD
namespace HD
open PySem PyProof.Rows L2
open PySem.W (dataLt keyToks keyToksAll dataLe EachIs AllAlike Sortable list_sort_data KdlSrc kdl_extend kdl_hint_dict alike alikeAll)
theorem toks_ints : ∀ ns ms : List Int, PyProof.Rows.lexLt itemOrd (keyToksAll (ns.map PyData.int)) (keyToksAll (ms.map PyData.int)) = HT.lexLt ns ms
  | [], [] => by
    show PyProof.Rows.lexLt itemOrd [Sum.inl 0] [Sum.inl 0] = false
    decide
  | [], m :: ms => by
    show PyProof.Rows.lexLt itemOrd [Sum.inl 0] (Sum.inl 1 :: _) = true
    rw [lex_cons]
    show (decide ((0 : Int) < 1) || _) = true
    rfl
  | n :: ns, [] => by
    show PyProof.Rows.lexLt itemOrd (Sum.inl 1 :: _) [Sum.inl 0] = false
    rw [lex_cons]
    show (decide ((1 : Int) < 0) || (!decide ((0 : Int) < 1) && _)) = false
    rfl
  | n :: ns, m :: ms => by
    show PyProof.Rows.lexLt itemOrd (Sum.inl 1 :: Sum.inl n :: keyToksAll (ns.map PyData.int)) (Sum.inl 1 :: Sum.inl m :: keyToksAll (ms.map PyData.int)) = _
    rw [lex_cons, lex_cons, toks_ints ns ms, HT.lexLt_cons]
    show (decide ((1 : Int) < 1) || (!decide ((1 : Int) < 1) && (decide (n < m) || (!decide (m < n) && HT.lexLt ns ms)))) = _
    have e1 : decide ((1 : Int) < 1) = false := by decide
    rw [e1, Bool.false_or, Bool.not_false, Bool.true_and]
    by_cases e : n = m
    · subst e
      rw [if_pos rfl, decide_eq_false (Int.lt_irrefl n), Bool.false_or, Bool.not_false, Bool.true_and]
    · rw [if_neg e]
      by_cases h : n < m
      · rw [decide_eq_true h, Bool.true_or]
      · rw [decide_eq_false h, decide_eq_true (show m < n by omega)]
        rfl
theorem alike_ints : ∀ ns ms : List Int, alikeAll (ns.map PyData.int) (ms.map PyData.int) = true
  | [], _ => rfl
  | _ :: _, [] => rfl
  | n :: ns, m :: ms => by
    show (alike (.int n) (.int m) && alikeAll (ns.map PyData.int) (ms.map PyData.int)) = true
    rw [alike_ints ns ms]
    rfl
section
variable {prog : Program} {w : World} {A : Around} {E : Value → Shared → Prop} {s : Shared}
theorem depth_all : ∀ k : List Int, PyData.depthAll (k.map PyData.int) = 0
  | [] => rfl
  | n :: k => by
    show max 0 (PyData.depthAll (k.map PyData.int)) = 0
    rw [depth_all k]
    rfl
end
def LxK (ks : List (List Int)) : Prop := ks.Pairwise fun a b => HT.lexLt b a = false
def fSortK : List D → (Sl → Prop) → Prop
  | [.dt ks _], Q => (ks.length ≤ 1 ∨ ∀ k ∈ ks, k ≠ []) ∧ ∀ (ks' : List (List Int)) (a : Addr), ks'.Perm ks → LxK ks' → Q (.lst a (ks'.map kT))
  | _, _ => False
theorem seq_putDT (i : Nat) (tk tv : DT) (u : DTS) (Ex : DX) (E : DEnds) (env : Env') : sSeq (sPutDT i tk tv) u Ex E env = sPutDT i tk tv Ex { E with nx := fun env1 => u Ex E env1 } env := rfl
theorem seq_sealDT (i : Nat) (t u : DTS) (Ex : DX) (E : DEnds) (env : Env') : sSeq (sSealDT i t) u Ex E env = sSealDT i t Ex { E with nx := fun env1 => u Ex E env1 } env := rfl
end HD
namespace HD
open PySem PyProof.Rows L2
section
variable {G : GG} {N : List Str} {sc : SC} {k : Nat} {a b c d : Expr} {ta tb tc td : DT} {pos : Pos}
def dChain3 (f f' f'' : D → D → (Sl → Prop) → Prop) (ta tb tc td : DT) : DT := fun Ex env Q => ta Ex env fun x env1 => tb Ex env1 fun y env2 => wd env2 x fun d => wd env2 y fun d' => f d d' fun z =>
  BlS z (fun b => if b = true then (tc Ex env2 fun w env3 => wd env3 y fun d1 => wd env3 w fun d2 => f' d1 d2 fun z' => BlS z' (fun b' => if b' = true then (td Ex env3 fun v env4 => wd env4 w fun d3 => wd env4 v fun d4 => f'' d3 d4 fun sl => Q sl env4) else Q (.ext (.bl false)) env3) .mk) else Q (.ext (.bl false)) env2) .mk
end
end HD
namespace LS
namespace FL
open PM HD
def setsN : Nat → List (List Nat)
  | 0 => [[]]
  | n + 1 => setsN n ++ (setsN n).map (· ++ [n])
theorem sets_cons (n : Nat) : ∃ t, setsN n = [] :: t := by
  induction n with
  | zero => exact ⟨[], rfl⟩
  | succ n ih =>
    obtain ⟨t, e⟩ := ih
    exact ⟨t ++ (setsN n).map (· ++ [n]), by rw [setsN, e]; rfl⟩
theorem sets_len (n : Nat) : (setsN n).length = 2 ^ n := by
  induction n with
  | zero => rfl
  | succ n ih => rw [setsN, List.length_append, List.length_map, ih, Nat.pow_succ]; omega
theorem rising_snoc {s : List Nat} {n : Nat} (h : Rising s) (hl : ∀ m ∈ s, m < n) : Rising (s ++ [n]) :=
  List.pairwise_append.2 ⟨h, List.pairwise_singleton _ _, fun a ha b hb => by rw [List.mem_singleton.1 hb]; exact hl a ha⟩
theorem mem_sets {n : Nat} {s : List Nat} : s ∈ setsN n ↔ Rising s ∧ ∀ m ∈ s, m < n := by
  induction n generalizing s with
  | zero =>
    rw [setsN, List.mem_singleton]
    constructor
    · rintro rfl
      exact ⟨List.Pairwise.nil, fun m hm => nomatch hm⟩
    · rintro ⟨_, h⟩
      cases s with
      | nil => rfl
      | cons x s => exact absurd (h x List.mem_cons_self) (Nat.not_lt_zero _)
  | succ n ih =>
    rw [setsN, List.mem_append, List.mem_map]
    constructor
    · rintro (h | ⟨t, h, rfl⟩)
      · obtain ⟨h1, h2⟩ := ih.1 h
        exact ⟨h1, fun m hm => Nat.lt_succ_of_lt (h2 m hm)⟩
      · obtain ⟨h1, h2⟩ := ih.1 h
        exact ⟨rising_snoc h1 h2, fun m hm => (List.mem_append.1 hm).elim (fun z => Nat.lt_succ_of_lt (h2 m z)) fun z => by rw [List.mem_singleton.1 z]; exact Nat.lt_succ_self _⟩
    · rintro ⟨h1, h2⟩
      by_cases hn : n ∈ s
      · refine .inr ?_
        obtain ⟨a, b, rfl⟩ := List.append_of_mem hn
        have hb : b = [] := by
          cases b with
          | nil => rfl
          | cons y b =>
            have h3 := (List.pairwise_append.1 h1).2.1
            have h4 := (List.pairwise_cons.1 h3).1 y List.mem_cons_self
            have := h2 y (by simp)
            omega
        subst hb
        refine ⟨a, ih.2 ⟨(List.pairwise_append.1 h1).1, fun m hm => ?_⟩, rfl⟩
        exact (List.pairwise_append.1 h1).2.2 m hm n List.mem_cons_self
      · refine .inl (ih.2 ⟨h1, fun m hm => ?_⟩)
        have := h2 m hm
        have : m ≠ n := fun e => hn (e ▸ hm)
        omega
theorem sets_nodup (n : Nat) : (setsN n).Nodup := by
  induction n with
  | zero => exact List.pairwise_singleton _ _
  | succ n ih =>
    rw [setsN, List.nodup_append]
    refine ⟨ih, ?_, fun a ha b hb e => ?_⟩
    · exact (List.pairwise_map.2 (ih.imp fun {a b} h e => h (List.append_cancel_right e)))
    · obtain ⟨t, _, rfl⟩ := List.mem_map.1 hb
      have := (mem_sets.1 ha).2 n (by rw [e]; simp)
      omega
theorem lex_irr (l : List Int) : HT.lexLt l l = false := by
  induction l with
  | nil => rfl
  | cons x l ih => rw [HT.lexLt_cons, if_pos rfl]; exact ih
theorem lex_anti : ∀ {a b : List Int}, HT.lexLt a b = false → HT.lexLt b a = false → a = b
  | [], [], _, _ => rfl
  | [], _ :: _, h, _ => by cases h
  | _ :: _, [], _, h => by cases h
  | x :: a, y :: b, h1, h2 => by
    rw [HT.lexLt_cons] at h1 h2
    by_cases e : x = y
    · rw [if_pos e] at h1
      rw [if_pos e.symm] at h2
      rw [e, lex_anti h1 h2]
    · rw [if_neg e] at h1
      rw [if_neg fun z => e z.symm] at h2
      have h1 := of_decide_eq_false h1
      have h2 := of_decide_eq_false h2
      omega
theorem lex_total : ∀ (a b : List Int), (!HT.lexLt b a || !HT.lexLt a b) = true
  | [], [] => rfl
  | [], _ :: _ => rfl
  | _ :: _, [] => rfl
  | x :: a, y :: b => by
    rw [HT.lexLt_cons, HT.lexLt_cons]
    by_cases e : x = y
    · rw [if_pos e, if_pos e.symm]
      exact lex_total a b
    · rw [if_neg e, if_neg fun z => e z.symm]
      simp only [Bool.or_eq_true, Bool.not_eq_true', decide_eq_false_iff_not]
      omega
theorem lex_trans : ∀ {a b c : List Int}, HT.lexLt b a = false → HT.lexLt c b = false → HT.lexLt c a = false
  | [], b, c, h1, h2 => by cases c <;> rfl
  | x :: a, [], c, h1, _ => by cases h1
  | x :: a, y :: b, [], _, h2 => by cases h2
  | x :: a, y :: b, z :: c, h1, h2 => by
    rw [HT.lexLt_cons] at h1 h2 ⊢
    by_cases e : y = x
    · subst e
      rw [if_pos rfl] at h1
      by_cases e2 : z = y
      · subst e2
        rw [if_pos rfl] at h2 ⊢
        exact lex_trans h1 h2
      · rw [if_neg e2] at h2 ⊢
        exact h2
    · rw [if_neg e] at h1
      have h1 := of_decide_eq_false h1
      by_cases e2 : z = y
      · subst e2
        rw [if_neg e]
        exact decide_eq_false h1
      · rw [if_neg e2] at h2
        have h2 := of_decide_eq_false h2
        rw [if_neg (by omega)]
        exact decide_eq_false (by omega)
theorem cI_inj {a b : List Nat} (h : cI a = cI b) : a = b := by
  have : ∀ {a b : List Nat}, a.map (fun n : Nat => (n : Int)) = b.map (fun n : Nat => (n : Int)) → a = b := by
    intro a
    induction a with
    | nil => intro b h; cases b with
      | nil => rfl
      | cons y b => cases h
    | cons x a ih => intro b h; cases b with
      | nil => cases h
      | cons y b =>
        obtain ⟨h1, h2⟩ := List.cons.inj h
        rw [ih h2, Int.ofNat.inj h1]
  exact this h
def setsL (n : Nat) : List (List Nat) := (setsN n).mergeSort fun a b => !HT.lexLt (cI b) (cI a)
def LxN (l : List (List Nat)) : Prop := l.Pairwise fun a b => HT.lexLt (cI b) (cI a) = false
theorem setsL_perm (n : Nat) : (setsL n).Perm (setsN n) := List.mergeSort_perm ..
theorem setsL_lx (n : Nat) : LxN (setsL n) := by
  have := List.pairwise_mergeSort (le := fun a b : List Nat => !HT.lexLt (cI b) (cI a)) (fun a b c h1 h2 => by
    rw [Bool.not_eq_true'] at *
    exact lex_trans h1 h2) (fun a b => lex_total _ _) (setsN n)
  exact this.imp fun {a b} h => by rwa [Bool.not_eq_true'] at h
theorem sorted_uniq {α : Type} {r : α → α → Prop} (anti : ∀ a b, r a b → r b a → a = b) : ∀ {l m : List α}, l.Perm m → l.Pairwise r → m.Pairwise r → l = m
  | [], m, h, _, _ => (List.nil_perm.1 h).symm
  | x :: l, [], h, _, _ => by have := h.length_eq; simp at this
  | x :: l, y :: m, h, h1, h2 => by
    obtain ⟨a1, a2⟩ := List.pairwise_cons.1 h1
    obtain ⟨b1, b2⟩ := List.pairwise_cons.1 h2
    have e : x = y := by
      rcases List.mem_cons.1 (h.mem_iff.1 (List.mem_cons_self (a := x) (l := l))) with e | hx
      · exact e
      · rcases List.mem_cons.1 (h.mem_iff.2 (List.mem_cons_self (a := y) (l := m))) with e | hy
        · exact e.symm
        · exact anti _ _ (a1 y hy) (b1 x hx)
    subst e
    rw [sorted_uniq anti ((List.perm_cons x).1 h) a2 b2]
theorem setsL_uniq {n : Nat} {l : List (List Nat)} (hp : l.Perm (setsN n)) (hl : LxN l) : l = setsL n :=
  sorted_uniq (r := fun a b : List Nat => HT.lexLt (cI b) (cI a) = false) (fun a b h1 h2 => cI_inj (lex_anti h2 h1)) (hp.trans (setsL_perm n).symm) hl (setsL_lx n)
theorem mem_setsL {n : Nat} {s : List Nat} : s ∈ setsL n ↔ Rising s ∧ ∀ m ∈ s, m < n := by rw [(setsL_perm n).mem_iff, mem_sets]
theorem setsL_nodup (n : Nat) : (setsL n).Nodup := (setsL_perm n).nodup_iff.2 (sets_nodup n)
theorem setsL_len (n : Nat) : (setsL n).length = 2 ^ n := by rw [(setsL_perm n).length_eq, sets_len]
theorem wo_sets {n : Nat} {s : List Nat} (h : Rising s ∧ ∀ m ∈ s, m < n) (x : Nat) : Rising (wo s x) ∧ ∀ m ∈ wo s x, m < n :=
  ⟨rising_filter _ h.1, fun m hm => h.2 m (List.mem_filter.1 hm).1⟩
theorem wo_len {s : List Nat} {x : Nat} (hx : x ∈ s) : (wo s x).length < s.length := by
  unfold wo
  refine Nat.lt_of_le_of_ne (List.length_filter_le _ _) fun e => ?_
  have := List.length_filter_eq_length_iff.1 e x hx
  simp at this
theorem mem_wo {s : List Nat} {x y : Nat} : y ∈ wo s x ↔ y ∈ s ∧ y ≠ x := by
  unfold wo
  rw [List.mem_filter, decide_eq_true_eq]
section
variable (S : List Nat) (gs : List (List Nat))
noncomputable def roR : List Nat → Nat
  | [] => 1
  | x :: r => max (roR r) (psz S (bagN S.length gs r x))
noncomputable def ro (o : List Nat) : Nat := roR S gs o.reverse
theorem ro_snoc (o : List Nat) (x : Nat) : ro S gs (o ++ [x]) = max (ro S gs o) (psz S (bagN S.length gs o x)) := by
  unfold ro
  rw [List.reverse_append]
  show max _ (psz S (bagN S.length gs o.reverse x)) = _
  rw [bag_perm (fun t => List.mem_reverse)]
  rfl
theorem bagsN_snoc (n : Nat) (o : List Nat) (x : Nat) : bagsN n gs (o ++ [x]) = bagsN n gs o ++ [bagN n gs o x] := by
  unfold bagsN
  rw [List.length_append, List.length_singleton, List.range_succ, List.map_append]
  congr 1
  · refine List.map_congr_left fun k hk => ?_
    have hk := List.mem_range.1 hk
    rw [List.take_append_of_le_length (Nat.le_of_lt hk), List.getD_eq_getElem?_getD, List.getElem?_append_left hk, ← List.getD_eq_getElem?_getD]
  · show [bagN n gs ((o ++ [x]).take o.length) ((o ++ [x]).getD o.length 0)] = _
    rw [List.take_left, List.getD_eq_getElem?_getD, List.getElem?_append_right (Nat.le_refl _), Nat.sub_self]
    rfl
theorem mxL_snoc (l : List Nat) (x : Nat) : mxL (l ++ [x]) = max (mxL l) x := by
  induction l with
  | nil =>
    show max x 0 = max 0 x
    omega
  | cons y l ih =>
    show max y (mxL (l ++ [x])) = max (max y (mxL l)) x
    rw [ih, Nat.max_assoc]
theorem ro_room : ∀ o : List Nat, max 1 (roomN S gs o) = ro S gs o := by
  intro o
  rw [← List.reverse_reverse o]
  generalize o.reverse = r
  induction r with
  | nil =>
    show max 1 (mxL ((bagsN S.length gs []).map (psz S))) = 1
    rfl
  | cons x r ih =>
    rw [List.reverse_cons, ro_snoc, ← ih]
    show max 1 (mxL ((bagsN S.length gs (r.reverse ++ [x])).map (psz S))) = _
    rw [bagsN_snoc, List.map_append, List.map_singleton, mxL_snoc, ← Nat.max_assoc]
    rfl
structure Best (s : List Nat) (v : Nat) : Prop where
  has : ∃ o : List Nat, o.Perm s ∧ ro S gs o = v
  low : ∀ o : List Nat, o.Perm s → v ≤ ro S gs o
theorem Best.uniq {s : List Nat} {v v' : Nat} (h : Best S gs s v) (h' : Best S gs s v') : v = v' := by
  obtain ⟨o, h1, h2⟩ := h.has
  obtain ⟨o', h1', h2'⟩ := h'.has
  have := h.low o' h1'
  have := h'.low o h1
  omega
theorem best_nil : Best S gs [] 1 := ⟨⟨[], List.Perm.refl _, rfl⟩, fun o ho => by rw [List.perm_nil.1 ho]; exact Nat.le_refl _⟩
theorem wo_perm {s o : List Nat} {x : Nat} (nd : s.Nodup) (h : (o ++ [x]).Perm s) : o.Perm (wo s x) ∧ x ∈ s := by
  have hx : x ∈ s := h.mem_iff.1 (by simp)
  have hn : (o ++ [x]).Nodup := h.nodup_iff.2 nd
  have hxo : x ∉ o := fun z => (List.nodup_append.1 hn).2.2 x z x List.mem_cons_self rfl
  refine ⟨?_, hx⟩
  have h1 : ((o ++ [x]).filter fun m => decide (m ≠ x)).Perm (wo s x) := h.filter _
  rw [List.filter_append] at h1
  have h2 : o.filter (fun m => decide (m ≠ x)) = o := List.filter_eq_self.2 fun m hm => decide_eq_true fun e => hxo (e ▸ hm)
  have h3 : [x].filter (fun m => decide (m ≠ x)) = [] := by simp
  rwa [h2, h3, List.append_nil] at h1
theorem perm_wo {s o : List Nat} {x : Nat} (nd : s.Nodup) (hx : x ∈ s) (h : o.Perm (wo s x)) : (o ++ [x]).Perm s := by
  refine (List.perm_ext_iff_of_nodup ?_ nd).2 fun y => ?_
  · refine List.nodup_append.2 ⟨h.nodup_iff.2 (nd.filter _), List.pairwise_singleton _ _, fun a ha b hb e => ?_⟩
    rw [List.mem_singleton.1 hb] at e
    exact (mem_wo.1 (h.mem_iff.1 ha)).2 e
  · rw [List.mem_append, List.mem_singleton, h.mem_iff, mem_wo]
    constructor
    · rintro (⟨h, _⟩ | rfl)
      · exact h
      · exact hx
    · intro hy
      by_cases e : y = x
      · exact .inr e
      · exact .inl ⟨hy, e⟩
theorem Best.step {s : List Nat} {f : List Nat → Nat} {v : Nat} (nd : s.Nodup) (hs : s ≠ []) (hf : ∀ x ∈ s, Best S gs (wo s x) (f (wo s x)))
    (h1 : ∃ x ∈ s, v = max (f (wo s x)) (psz S (bagN S.length gs (wo s x) x))) (h2 : ∀ x ∈ s, v ≤ max (f (wo s x)) (psz S (bagN S.length gs (wo s x) x))) : Best S gs s v := by
  constructor
  · obtain ⟨x, hx, e⟩ := h1
    obtain ⟨o, ho, he⟩ := (hf x hx).has
    refine ⟨o ++ [x], perm_wo nd hx ho, ?_⟩
    rw [ro_snoc, he, bag_perm (fun t => ho.mem_iff), e]
  · intro o ho
    obtain ⟨o', x, rfl⟩ : ∃ o' x, o = o' ++ [x] := by
      rcases List.eq_nil_or_concat o with rfl | ⟨o', x, rfl⟩
      · exact absurd (List.nil_perm.1 ho) (fun e => hs e)
      · exact ⟨o', x, by rw [List.concat_eq_append]⟩
    obtain ⟨hp, hx⟩ := wo_perm nd ho
    rw [ro_snoc, bag_perm (fun t => hp.mem_iff)]
    have a1 := h2 x hx
    have a2 := (hf x hx).low o' hp
    omega
theorem Best.floor {s : List Nat} {v v' : Nat} {x : Nat} (nd : s.Nodup) (hx : x ∈ s) (h : Best S gs s v) (h' : Best S gs (wo s x) v') : v ≤ max v' (psz S (bagN S.length gs (wo s x) x)) := by
  obtain ⟨o, ho, he⟩ := h'.has
  have := h.low _ (perm_wo nd hx ho)
  rw [ro_snoc, he, bag_perm (fun t => ho.mem_iff)] at this
  exact this
structure FlOk (f : List Nat → Int) (number : Int) : Prop where
  base : f [] ≤ 1
  step : ∀ s : List Nat, Rising s → (∀ m ∈ s, m < S.length) → ∀ x ∈ s, f s ≤ max (f (wo s x)) (psz S (bagN S.length gs (wo s x) x) : Nat)
  top : f (List.range S.length) = number
theorem FlOk.of {f : List Nat → Nat} {v : Nat} (h : ∀ s : List Nat, Rising s → (∀ m ∈ s, m < S.length) → Best S gs s (f s)) (hv : f (List.range S.length) = v) : FlOk S gs (fun s => (f s : Nat)) v := by
  refine ⟨?_, fun s h1 h2 x hx => ?_, by rw [hv]⟩
  · have := (h [] List.Pairwise.nil fun m hm => nomatch hm).uniq S gs (best_nil S gs)
    show ((f [] : Nat) : Int) ≤ 1
    omega
  · have := (h s h1 h2).floor S gs (h1.imp Nat.ne_of_lt) hx (h _ (wo_sets ⟨h1, h2⟩ x).1 (wo_sets ⟨h1, h2⟩ x).2)
    show ((f s : Nat) : Int) ≤ max ((f (wo s x) : Nat) : Int) _
    omega
end
end FL
end LS
namespace LS
namespace BT
open PySem L2 HD PM
theorem pl_tup {k : Nat} {ds : List D} (h : D.pl k (.tup ds) = true) : ∃ j, k = j + 1 ∧ ds.length ≤ 100000 ∧ ∀ d ∈ ds, D.pl j d = true := by
  cases k with
  | zero => simp [D.pl] at h
  | succ k =>
    rw [D.pl, Bool.and_eq_true, List.all_eq_true, decide_eq_true_eq] at h
    exact ⟨k, rfl, h.1, h.2⟩
open Classical in
theorem all_of {α : Type} (f : α → D) {P : D → Prop} {R : α → Prop} (h : ∀ d, P d → ∃ a, d = f a ∧ R a) : ∀ ds : List D, (∀ d ∈ ds, P d) → ∃ l : List α, ds = l.map f ∧ ∀ a ∈ l, R a
  | [], _ => ⟨[], rfl, fun a z => nomatch z⟩
  | d :: ds, hd => by
    obtain ⟨a, e, ra⟩ := h d (hd d List.mem_cons_self)
    obtain ⟨l, e2, rl⟩ := all_of f h ds fun x hx => hd x (List.mem_cons_of_mem _ hx)
    exact ⟨a :: l, by rw [e, e2]; rfl, fun x hx => (List.mem_cons.1 hx).elim (fun z => z ▸ ra) (rl x)⟩
end BT
end LS
namespace LS
open PySem L2 HD PM
local macro_rules | `(tactic| trivial) => `(tactic| try simp -dsimp only [↓sIf, ↓sRet, ↓retD_ext, ↓retD_lst, ↓retD_al, ↓sSet, ↓sSetE, ↓sAsg, ↓sDrop, ↓sNext, ↓sFor, ↓sRetN, ↓sCont, ↓sBreak, ↓dTest, ↓dOp, ↓dVar_w, ↓dC, ↓dCons, ↓dNil, ↓dTup, ↓dLst, ↓frzDs, ↓frzD_ext, ↓frzD_lst, ↓frzD_al, ↓wd_ext, ↓wd_lst, ↓wd_al, ↓wds, ↓AtS_ext, ↓AtS_lst, ↓AtL, ↓fAdd, ↓fSub, ↓fMul, ↓fDiv, ↓fMod, ↓fPow, ↓fCmp, ↓fIn, ↓fEq_ii, ↓fEq_ss, ↓fEq_bb, ↓fEq_tt, ↓fEq_ll, ↓fNe_ii, ↓fNe_ss, ↓fNe_bb, ↓fNe_tt, ↓fNe_ll, ↓fIx_l, ↓fIx_t, ↓fIx_k, ↓fIx_f, ↓GetS_some, ↓NatS_some, ↓fSl, ↓fIsN, ↓fNotN, ↓D.knN, ↓dNot, ↓dAnd, ↓dOr, ↓dAndV_w, ↓dOrV_w, ↓dNotV, ↓dIf, ↓dNeg, ↓dChain_w, ↓BlS_bl, ↓dCall_w, ↓dCallJ_w, ↓anyAl, ↓frozs, ↓froz, ↓gSet, ↓gTupD, ↓gsCons, ↓gsNil, ↓dSeq, ↓seqD_tup, ↓seqD_elst, ↓seqD_lst, ↓seqD_al, ↓dRange1, ↓dRange2, ↓dZip, ↓dCB, ↓dLc, ↓dYes, ↓dNoPart, ↓dPart, ↓dSl, ↓fLen, ↓fMin, ↓fMax, ↓fSum, ↓fAll, ↓fAny, ↓fSorted, ↓fTuple, ↓fList, ↓dRg1, ↓dRg2, ↓dLstRg, ↓dTupRg, ↓dIndex, ↓fIdx, ↓dAppend_w, ↓dExtend_w, ↓extD_lst, ↓dPopAt_w, ↓popD_int, ↓dPop_w, ↓mutD_w, ↓sSetItem_w, ↓setD_int, ↓dSortSet, ↓dTable_w, ↓wipeE, finals1, finals2, finals3, finals4, finals5, finals6, fin1_ext, fin1_lst, List.getElem?_cons_zero, List.getElem?_cons_succ, List.getElem?_nil, List.set_cons_zero, List.set_cons_succ, List.cons_append, List.nil_append, List.append_nil, List.replicate_succ, List.replicate_zero, List.map_cons, List.map_nil, List.length_cons, List.length_nil, true_and, and_true, ite_true, ite_false, if_true, if_false, Bool.false_eq_true, decide_eq_true_eq, Sl.plain, D.isSq, eq_self_iff_true, forall_const, reduceIte, true_or, or_true, atI_0, atI_1, atI_2, atI_3, ixN_0, ixN_1, ixN_2, AtS_ext, AtS_lst, FzS_lst, FzS_ext, GetS_some, NatS_some, ↓fIsi1, ↓fIsi2, BoolS_some, HD.kb_non_tuple, HD.kb_non_list, HD.kb_non_bool, HD.kb_non_int, HD.kb_non_str, HD.kb_bl_tuple, HD.kb_bl_list, HD.kb_bl_bool, HD.kb_bl_int, HD.kb_bl_str, HD.kb_int_tuple, HD.kb_int_list, HD.kb_int_bool, HD.kb_int_int, HD.kb_int_str, HD.kb_str_tuple, HD.kb_str_list, HD.kb_str_bool, HD.kb_str_int, HD.kb_str_str, HD.kb_lst_tuple, HD.kb_lst_list, HD.kb_lst_bool, HD.kb_lst_int, HD.kb_lst_str, HD.kb_tup_tuple, HD.kb_tup_list, HD.kb_tup_bool, HD.kb_tup_int, HD.kb_tup_str, ↓sFz_w, ↓FzS_lst, ↓FzS_ext, ↓dSortSetL, ↓fAbs, ↓fInt, ↓fRepr, ↓fLtT, ↓sRaise, ↓sTryKeep, ↓dCallV_w, ↓dMeth, ↓fCount, ↓fSplit, ↓seq_setE, ↓seq_set, ↓seq_drop, ↓seq_asg, ↓seq_if, ↓seq_for, ↓dStep, ↓fStep, ↓fMulT, ↓fIsB, ↓fNotB, ↓sPar, ↓dEnum, ↓dListZip, ↓dNest, ↓sSeal, ↓dNApp, ↓retD_reg, ↓dLenSet, ↓fSum2, ↓seq_putD, ↓seq_sealD, ↓dDIn, ↓dDGet, ↓sPutD, ↓dDNew, ↓dDOne, ↓sSealD, ↓dKeys, ↓keyS_dk, ↓dExtT])
local macro_rules | `(tactic| and_intros) => `(tactic| try simp -dsimp only [↓sIf, ↓sRet, ↓retD_ext, ↓retD_lst, ↓retD_al, ↓sSet, ↓sSetE, ↓sAsg, ↓sDrop, ↓sNext, ↓sFor, ↓sRetN, ↓sCont, ↓sBreak, ↓dTest, ↓dOp, ↓dC, ↓dCons, ↓dNil, ↓dTup, ↓dLst, ↓frzDs, ↓frzD_ext, ↓frzD_lst, ↓frzD_al, ↓wd_ext, ↓wd_lst, ↓wd_al, ↓wds, ↓AtS_ext, ↓AtS_lst, ↓AtL, ↓fAdd, ↓fSub, ↓fMul, ↓fDiv, ↓fMod, ↓fPow, ↓fCmp, ↓fIn, ↓fEq_ii, ↓fEq_ss, ↓fEq_bb, ↓fEq_tt, ↓fEq_ll, ↓fNe_ii, ↓fNe_ss, ↓fNe_bb, ↓fNe_tt, ↓fNe_ll, ↓fIx_l, ↓fIx_t, ↓fIx_k, ↓fIx_f, ↓GetS_some, ↓NatS_some, ↓fSl, ↓fIsN, ↓fNotN, ↓D.knN, ↓dNot, ↓dAnd, ↓dOr, ↓dAndV_w, ↓dOrV_w, ↓dNotV, ↓dIf, ↓dNeg, ↓dChain_w, ↓BlS_bl, ↓dCall_w, ↓dCallJ_w, ↓anyAl, ↓frozs, ↓froz, ↓gSet, ↓gTupD, ↓gsCons, ↓gsNil, ↓dSeq, ↓seqD_tup, ↓seqD_elst, ↓seqD_lst, ↓seqD_al, ↓dRange1, ↓dRange2, ↓dZip, ↓dCB, ↓dLc, ↓dYes, ↓dNoPart, ↓dPart, ↓dSl, ↓fLen, ↓fMin, ↓fMax, ↓fSum, ↓fAll, ↓fAny, ↓fSorted, ↓fTuple, ↓fList, ↓dRg1, ↓dRg2, ↓dLstRg, ↓dTupRg, ↓dIndex, ↓fIdx, ↓dAppend_w, ↓dExtend_w, ↓extD_lst, ↓dPopAt_w, ↓popD_int, ↓dPop_w, ↓mutD_w, ↓sSetItem_w, ↓setD_int, ↓dSortSet, ↓dTable_w, ↓wipeE, finals1, finals2, finals3, finals4, finals5, finals6, fin1_ext, fin1_lst, List.getElem?_cons_zero, List.getElem?_cons_succ, List.getElem?_nil, List.set_cons_zero, List.set_cons_succ, List.cons_append, List.nil_append, List.append_nil, List.replicate_succ, List.replicate_zero, List.map_cons, List.map_nil, List.length_cons, List.length_nil, true_and, and_true, ite_true, ite_false, if_true, if_false, Bool.false_eq_true, decide_eq_true_eq, Sl.plain, D.isSq, eq_self_iff_true, forall_const, reduceIte, true_or, or_true, atI_0, atI_1, atI_2, atI_3, ixN_0, ixN_1, ixN_2, AtS_ext, AtS_lst, FzS_lst, FzS_ext, GetS_some, NatS_some, ↓fIsi1, ↓fIsi2, BoolS_some, HD.kb_non_tuple, HD.kb_non_list, HD.kb_non_bool, HD.kb_non_int, HD.kb_non_str, HD.kb_bl_tuple, HD.kb_bl_list, HD.kb_bl_bool, HD.kb_bl_int, HD.kb_bl_str, HD.kb_int_tuple, HD.kb_int_list, HD.kb_int_bool, HD.kb_int_int, HD.kb_int_str, HD.kb_str_tuple, HD.kb_str_list, HD.kb_str_bool, HD.kb_str_int, HD.kb_str_str, HD.kb_lst_tuple, HD.kb_lst_list, HD.kb_lst_bool, HD.kb_lst_int, HD.kb_lst_str, HD.kb_tup_tuple, HD.kb_tup_list, HD.kb_tup_bool, HD.kb_tup_int, HD.kb_tup_str, ↓sFz_w, ↓FzS_lst, ↓FzS_ext, ↓dSortSetL, ↓fAbs, ↓fInt, ↓fRepr, ↓fLtT, ↓sRaise, ↓sTryKeep, ↓dCallV_w, ↓dMeth, ↓fCount, ↓fSplit, ↓seq_setE, ↓seq_set, ↓seq_drop, ↓seq_asg, ↓seq_if, ↓seq_for, ↓dStep, ↓fStep, ↓fMulT, ↓fIsB, ↓fNotB, ↓sPar, ↓dEnum, ↓dListZip, ↓dNest, ↓sSeal, ↓dNApp, ↓retD_reg, ↓dLenSet, ↓fSum2, ↓seq_putD, ↓seq_sealD, ↓dDIn, ↓dDGet, ↓sPutD, ↓dDNew, ↓dDOne, ↓sSealD, ↓dKeys, ↓keyS_dk, ↓dExtT, ↓dv0, ↓dw0, ↓dv1, ↓dw1, ↓dv2, ↓dw2, ↓dv3, ↓dw3, ↓dv4, ↓dw4, ↓dv5, ↓dw5, ↓dv6, ↓dw6, ↓dv7, ↓dw7, ↓dv8, ↓dw8, ↓dv9, ↓dw9, ↓dv10, ↓dw10, ↓dv11, ↓dw11, ↓dv12, ↓dw12, ↓dv13, ↓dw13, ↓dv14, ↓dw14, ↓dv15, ↓dw15, ↓dv16, ↓dw16, ↓dv17, ↓dw17, ↓dv18, ↓dw18, ↓dv19, ↓dw19])
def sp_law_tied : DSpec := sp_ties_of
def b1_law_tied : DTS :=
    (sIf (dTest (dOp (fIn false) (dVar 2) (dOp fIx (dVar 4) (dC (.int 0))))) (sDrop (dExtT 3 (dOp fIx (dVar 4) (dC (.int 0))))) sNext)
def e2_law_tied : DT :=
    (dVar 5)
def k3_law_tied : DTS :=
    (sDrop (dAppend 1 (dLc (dRange1 (dCons (dCB fLen (dCons (dOp fIx (dVar 0) (dC (.int 0))) dNil)) dNil)) (gSet 5) (dAnd (dTest (dOp fNe (dVar 5) (dVar 2))) (dTest (dOp (fIn false) (dVar 5) (dVar 3)))) e2_law_tied [5])))
def b4_law_tied : DTS :=
    (sSeq (sSet 3 (dLst dNil))
    (sSeq (sFor (dSeq (dOp fIx (dVar 0) (dC (.int 1)))) (gSet 4) b1_law_tied)
    k3_law_tied))
def k5_law_tied : DTS :=
    (sRet (dVar 1))
def t_law_tied : DTS :=
    (sSeq (sSet 1 (dLst dNil))
    (sSeq (sFor (dRange1 (dCons (dCB fLen (dCons (dOp fIx (dVar 0) (dC (.int 0))) dNil)) dNil)) (gSet 2) b4_law_tied)
    k5_law_tied))
theorem m_law_tied : Meets t_law_tied 1 5 sp_law_tied := by
  rintro args Qd Xd ⟨S, ps, rfl, ok, hQ⟩
  show t_law_tied _ _ [_, .un, .un, .un, .un, .un]
  unfold t_law_tied
  and_intros
  refine ⟨Nat.zero_le _, fun a1 => ?_⟩
  have h24 := ok.few
  have hnl : ∀ p ∈ ps, p.ns.length ≤ 24 := fun p hp => Nat.le_trans (rising_len (ok.ok p hp).1 (ok.ok p hp).2) h24
  rw [nD_len, rgD_nat]
  refine ⟨⟨by omega, by omega⟩, ?_⟩
  refine for_ind (fun x : Nat => D.int (x : Nat)) (fun xs env => ∃ (pre : List Nat) (u2 u3 u4 : Sl), env = [.ext (dSh S ps), .lst a1 (pre.map fun a => D.lst (nD (nb S.length (gsOf ps) a))), u2, u3, u4, .un] ∧ List.range S.length = pre ++ xs) ?_ ?_ (List.range S.length) _ ⟨[], _, _, _, rfl, rfl⟩
  · rintro env ⟨pre, u2, u3, u4, rfl, he⟩
    refine ⟨True.intro, ?_⟩
    rw [List.append_nil] at he
    subst he
    unfold k5_law_tied
    and_intros
    exact hQ _ _
  rintro x xs env N ⟨pre, u2, u3, u4, rfl, he⟩ hN
  have hlen := congrArg List.length he
  rw [List.length_range, List.length_append, List.length_cons] at hlen
  have hx : x < S.length := List.mem_range.1 (by rw [he]; simp)
  refine ⟨True.intro, ?_⟩
  unfold b4_law_tied
  and_intros
  refine ⟨Nat.zero_le _, fun a3 => ?_⟩
  trivial
  refine for_ind (fun p : Part => dP p) (fun qs env => ∃ (pr : List Part) (u4 : Sl), env = [.ext (dSh S ps), .lst a1 (pre.map fun a => D.lst (nD (nb S.length (gsOf ps) a))), dI (x : Nat), .lst a3 (nD (nearL x pr)), u4, .un] ∧ ps = pr ++ qs) ?_ ?_ ps _ ⟨[], _, rfl, rfl⟩
  · rintro env ⟨pr, u4, rfl, hp⟩
    refine ⟨True.intro, ?_⟩
    rw [List.append_nil] at hp
    subst hp
    unfold k3_law_tied
    and_intros
    rw [nD_len, rgD_nat]
    refine ⟨⟨by omega, by omega⟩, ?_⟩
    refine lc_filter (fun y : Nat => D.int (y : Nat)) (fun y => .int (y : Nat)) (fun y => (y != x) && decide (y ∈ nearL x ps)) True.intro (List.range S.length) (by rw [List.length_range]; exact Nat.le_trans h24 (by decide)) (fun y hy R hR => ?_) fun b => ?_
    · unfold e2_law_tied
      trivial
      rw [isIn_nat]
      by_cases e : y = x
      · subst e
        rw [if_neg (by simp)]
        rw [if_neg (by simp)] at hR
        exact hR
      · rw [if_pos (by simpa using fun z : (y : Int) = x => e (by omega))]
        refine ⟨rfl, flat_nD _, ?_⟩
        by_cases hm : y ∈ nearL x ps
        · rw [if_pos (by simpa using hm)]
          rw [if_pos (by simp [e, hm])] at hR
          exact hR
        · rw [if_neg (by simpa using hm)]
          rw [if_neg (by simp [e, hm])] at hR
          exact hR
    trivial
    refine ⟨by rw [List.length_map]; exact Nat.lt_of_lt_of_le (by omega : pre.length < 100) (by decide), hN _ ⟨pre ++ [x], dI (x : Nat), .lst a3 (nD (nearL x ps)), u4, ?_, by rw [he]; simp⟩⟩
    rw [← nb_near, List.map_append]
    rfl
  rintro p qs env N' ⟨pr, u4, rfl, hp⟩ hN'
  refine ⟨True.intro, ?_⟩
  unfold b1_law_tied
  and_intros
  rw [isIn_nat]
  refine ⟨rfl, flat_nD _, ?_⟩
  have hpm : p ∈ ps := by rw [hp]; simp
  have hnear : (nearL x pr).length ≤ pr.length * 24 := nearL_len fun q hq => hnl q (by rw [hp]; exact List.mem_append_left _ hq)
  have hpl := congrArg List.length hp
  rw [List.length_append, List.length_cons] at hpl
  have hps := ok.many
  have hp24 := hnl p hpm
  by_cases hm : x ∈ p.ns
  · rw [if_pos (by simpa using hm)]
    refine ⟨⟨a3, _, rfl⟩, a3, _, _, rfl, rfl, ?_, hN' _ ⟨pr ++ [p], .ext (dP p), ?_, by rw [hp]; simp⟩⟩
    · rw [nD_len, nD_len]
      exact Nat.le_trans (by omega : _ ≤ 1000000) (by decide)
    · rw [nearL_snoc, if_pos hm, nD_app]
  · rw [if_neg (by simpa using hm)]
    exact hN' _ ⟨pr ++ [p], .ext (dP p), by rw [nearL_snoc, if_neg hm, List.append_nil], by rw [hp]; simp⟩
def sp_law_bag : DSpec := sp_bag_by
def e1_law_bag : DT :=
    (dVar 5)
def k2_law_bag : DTS :=
    (sSetE 4 (dOp fAdd (dVar 4) (dC (.int 1))))
def b3_law_bag : DTS :=
    (sSeq (sIf (dOr (dTest (dOp fEq (dOp fIx (dVar 3) (dVar 4)) (dVar 2))) (dTest (dOp (fIn false) (dOp fIx (dVar 3) (dVar 4)) (dVar 1)))) (sSetE 3 (dOp fAdd (dVar 3) (dLc (dSeq (dOp fIx (dVar 0) (dOp fIx (dVar 3) (dVar 4)))) (gSet 5) (dTest (dOp (fIn true) (dVar 5) (dVar 3))) e1_law_bag [5]))) sNext)
    k2_law_bag)
def e4_law_bag : DT :=
    (dVar 6)
def k5_law_bag : DTS :=
    (sRet (dCB fTuple (dCons (dCB fSorted (dCons (dLc (dSeq (dVar 3)) (gSet 6) (dOr (dTest (dOp fEq (dVar 6) (dVar 2))) (dTest (dOp (fIn true) (dVar 6) (dVar 1)))) e4_law_bag [6]) dNil)) dNil)))
def t_law_bag : DTS :=
    (sSeq (sSetE 3 (dLst (dCons (dVar 2) dNil)))
    (sSeq (sSetE 4 (dC (.int 0)))
    (sSeq (sWhile (dTest (dOp (fCmp fun i j => decide (i < j)) (dVar 4) (dCB fLen (dCons (dVar 3) dNil)))) b3_law_bag)
    k5_law_bag)))
structure Wl (n : Nat) (gs : List (List Nat)) (T : List Nat) (x : Nat) (F : List Nat) (at' : Nat) : Prop where
  nd : F.Nodup
  ok : ∀ s ∈ F, s < n ∧ Rch n gs T x s
  xin : x ∈ F
  cl : ∀ j s, j < at' → F[j]? = some s → (s = x ∨ s ∈ T) → ∀ z ∈ nb n gs s, z ∈ F
  le : at' ≤ F.length
theorem Wl.grow {n : Nat} {gs : List (List Nat)} {T : List Nat} {x : Nat} {F : List Nat} {at' s : Nat} (wl : Wl n gs T x F at') (hs : F[at']? = some s) (h : s = x ∨ s ∈ T) : Wl n gs T x (F ++ (nb n gs s).filter fun z => !decide (z ∈ F)) (at' + 1) := by
  have hat : at' < F.length := (List.getElem?_eq_some_iff.1 hs).1
  have hsF : s ∈ F := List.mem_of_getElem? hs
  refine ⟨List.nodup_append.2 ⟨wl.nd, ?_, fun a ha b hb e => ?_⟩, fun z hz => ?_, List.mem_append_left _ wl.xin, fun j t hj ht h1 z hz => ?_, by rw [List.length_append]; omega⟩
  · unfold nb
    exact (List.nodup_range.filter _).filter _
  · have := (List.mem_filter.1 hb).2
    rw [← e] at this
    simp [ha] at this
  · rcases List.mem_append.1 hz with h2 | h2
    · exact wl.ok z h2
    · have h3 := (List.mem_filter.1 h2).1
      exact ⟨(mem_nb.1 h3).1, .step (wl.ok s hsF).2 h h3⟩
  · by_cases e : j = at'
    · subst e
      rw [List.getElem?_append_left hat, hs] at ht
      cases ht
      by_cases hzF : z ∈ F
      · exact List.mem_append_left _ hzF
      · exact List.mem_append_right _ (List.mem_filter.2 ⟨hz, by simp [hzF]⟩)
    · rw [List.getElem?_append_left (by omega)] at ht
      exact List.mem_append_left _ (wl.cl j t (by omega) ht h1 z hz)
theorem Wl.skip {n : Nat} {gs : List (List Nat)} {T : List Nat} {x : Nat} {F : List Nat} {at' s : Nat} (wl : Wl n gs T x F at') (hs : F[at']? = some s) (h : ¬ (s = x ∨ s ∈ T)) : Wl n gs T x F (at' + 1) := by
  have hat : at' < F.length := (List.getElem?_eq_some_iff.1 hs).1
  refine ⟨wl.nd, wl.ok, wl.xin, fun j t hj ht h1 z hz => ?_, by omega⟩
  by_cases e : j = at'
  · subst e
    rw [hs] at ht
    cases ht
    exact absurd h1 h
  · exact wl.cl j t (by omega) ht h1 z hz
theorem q1_law_bag {Q : Sl → Env' → Prop} {s0 s1 s2 s4 s6 : Sl} {F l : List Nat} (hl : l.length ≤ 100) (hQ : ∀ a, Q (.lst a (nD (l.filter fun z => !decide (z ∈ F)))) [s0, s1, s2, .ext (.lst (nD F)), s4, .un, s6]) :
    lcD (gSet 5) (dTest (dOp (fIn true) (dVar 5) (dVar 3))) e1_law_bag [5] (fun _ => True) Q (nD l) [] [s0, s1, s2, .ext (.lst (nD F)), s4, .un, s6] := by
  refine lc_filter (fun s : Nat => D.int (s : Nat)) (fun s => .int (s : Nat)) (fun s => !decide (s ∈ F)) True.intro l (Nat.le_trans hl (by decide)) (fun s hs R hR => ?_) fun b => hQ b
  unfold e1_law_bag
  trivial
  rw [isIn_nat]
  exact ⟨rfl, flat_nD _, R_if rfl hR⟩
theorem m_law_bag : Meets t_law_bag 3 4 sp_law_bag := by
  rintro args Qd Xd ⟨n, gs, T, Z, x, rfl, hZ, h24, hx, hxT, hQ⟩
  show t_law_bag _ _ [_, _, _, .un, .un, .un, .un]
  unfold t_law_bag
  and_intros
  refine ⟨by decide, ?_⟩
  refine ⟨fun m env => ∃ (F : List Nat) (at' : Nat), env = [.ext (tiD n gs), .ext Z, dI (x : Nat), .ext (.lst (nD F)), dI (at' : Nat), .un, .un] ∧ Wl n gs T x F at' ∧ m = 100 - at', ⟨_, [x], 0, rfl, ⟨by simp, fun s hs => by rw [List.mem_singleton.1 hs]; exact ⟨hx, .base⟩, by simp, fun j s hj => absurd hj (Nat.not_lt_zero _), Nat.zero_le _⟩, rfl⟩, ?_⟩
  rintro m env ⟨F, at', rfl, wl, rfl⟩
  have hF := nodup_le wl.nd fun s hs => (wl.ok s hs).1
  trivial
  rw [nD_len]
  by_cases hat : at' < F.length
  · rw [if_pos (by omega)]
    unfold b3_law_bag
    and_intros
    have hget : F[at']? = some (F[at']) := List.getElem?_eq_getElem hat
    have hgetD : (nD F)[at']? = some (.int ((F[at'] : Nat) : Int)) := by rw [List.getElem?_map, hget]; rfl
    generalize hs : F[at'] = s at hget hgetD
    have hsF : s ∈ F := List.mem_of_getElem? hget
    obtain ⟨hsn, hsr⟩ := wl.ok s hsF
    have hF2 : ∀ F2 : List Nat, Wl n gs T x F2 (at' + 1) → k2_law_bag (exOf [.ext (tiD n gs), .ext Z, dI (x : Nat)] Xd) { endsOf [.ext (tiD n gs), .ext Z, dI (x : Nat)] Qd with nx := fun env' => ∃ m', m' < 100 - at' ∧ ∃ F at', env' = [.ext (tiD n gs), .ext Z, dI (x : Nat), .ext (.lst (nD F)), dI (at' : Nat), .un, .un] ∧ Wl n gs T x F at' ∧ m' = 100 - at', ct := fun env' => ∃ m', m' < 100 - at' ∧ ∃ F at', env' = [.ext (tiD n gs), .ext Z, dI (x : Nat), .ext (.lst (nD F)), dI (at' : Nat), .un, .un] ∧ Wl n gs T x F at' ∧ m' = 100 - at', bk := fun env1 => k5_law_bag (exOf [.ext (tiD n gs), .ext Z, dI (x : Nat)] Xd) (endsOf [.ext (tiD n gs), .ext Z, dI (x : Nat)] Qd) env1 } [.ext (tiD n gs), .ext Z, dI (x : Nat), .ext (.lst (nD F2)), dI (at' : Nat), .un, .un] := fun F2 w2 => by
      unfold k2_law_bag
      and_intros
      exact ⟨100 - (at' + 1), by omega, F2, at' + 1, by rw [Int.natCast_add]; rfl, w2, rfl⟩
    have hnbl : (nb n gs s).length ≤ 100 := by
      unfold nb
      have := List.length_filter_le (tieB gs s) (List.range n)
      rw [List.length_range] at this
      omega
    have hix : atI (tiDs n gs) (s : Int) = some (D.lst (nD (nb n gs s))) := atN (by rw [List.getElem?_map, List.getElem?_range hsn]; rfl)
    refine ⟨_, atN hgetD, ?_⟩
    trivial
    by_cases hsx : s = x
    · rw [if_pos (by simp [hsx])]
      refine ⟨_, atN hgetD, ?_⟩
      trivial
      refine ⟨_, hix, ?_⟩
      trivial
      refine q1_law_bag hnbl fun b => ?_
      trivial
      have w2 := wl.grow hget (.inl hsx)
      have hl2 := nodup_le w2.nd fun s hs => (w2.ok s hs).1
      rw [List.length_append] at hl2
      refine ⟨by rw [nD_len, nD_len]; exact Nat.le_trans (by omega : _ ≤ 1000) (by decide), ?_⟩
      rw [← nD_app]
      exact hF2 _ w2
    · rw [if_neg (by simpa using fun z : (s : Int) = x => hsx (by omega))]
      refine ⟨_, atN hgetD, ?_⟩
      rcases hZ with rfl | rfl
      all_goals
        trivial
        rw [isIn_nat]
        refine ⟨rfl, flat_nD _, ?_⟩
        by_cases hsT : s ∈ T
        · rw [if_pos (by simpa using hsT)]
          refine ⟨_, atN hgetD, ?_⟩
          trivial
          refine ⟨_, hix, ?_⟩
          trivial
          refine q1_law_bag hnbl fun b => ?_
          trivial
          have w2 := wl.grow hget (.inr hsT)
          have hl2 := nodup_le w2.nd fun s hs => (w2.ok s hs).1
          rw [List.length_append] at hl2
          refine ⟨by rw [nD_len, nD_len]; exact Nat.le_trans (by omega : _ ≤ 1000) (by decide), ?_⟩
          rw [← nD_app]
          exact hF2 _ w2
        · rw [if_neg (by simpa using hsT)]
          exact hF2 _ (wl.skip hget (fun h => h.elim hsx hsT))
  · rw [if_neg (by omega)]
    unfold k5_law_bag
    and_intros
    have hall : ∀ z, Rch n gs T x z → z ∈ F := fun z hz => hz.closed (P := (· ∈ F)) wl.xin fun y hy h1 => by
      obtain ⟨j, hj, e⟩ := List.getElem_of_mem hy
      exact wl.cl j y (by omega) (by rw [List.getElem?_eq_getElem hj, e]) h1
    refine lc_filter (fun s : Nat => D.int (s : Nat)) (fun s => .int (s : Nat)) (fun s => decide (s = x) || !decide (s ∈ T)) True.intro F (Nat.le_trans (by omega : F.length ≤ 100) (by decide)) (fun s hs R hR => ?_) fun b => ?_
    · unfold e4_law_bag
      have fin : if ((s : Int) == (x : Int)) = true then R (some (.int (s : Nat))) [.ext (tiD n gs), .ext Z, dI (x : Nat), .ext (.lst (nD F)), dI (at' : Nat), .un, .un] else if (!(D.int (s : Int)).isIn (nD T)) = true then R (some (.int (s : Nat))) [.ext (tiD n gs), .ext Z, dI (x : Nat), .ext (.lst (nD F)), dI (at' : Nat), .un, .un] else R none [.ext (tiD n gs), .ext Z, dI (x : Nat), .ext (.lst (nD F)), dI (at' : Nat), .un, .un] := by
        rw [isIn_nat]
        by_cases e : s = x
        · rw [if_pos (by simp [e])]
          rw [if_pos (by simp [e])] at hR
          exact hR
        · rw [if_neg (by simpa using fun z : (s : Int) = x => e (by omega))]
          exact R_if (by simp [e]) hR
      rcases hZ with rfl | rfl
      all_goals
        trivial
        by_cases e : s = x
        · rw [if_pos (by simp [e])] at fin
          rw [if_pos (by simp [e])]
          exact fin
        · rw [if_neg (by simpa using fun z : (s : Int) = x => e (by omega))] at fin
          rw [if_neg (by simpa using fun z : (s : Int) = x => e (by omega))]
          exact ⟨rfl, flat_nD _, fin⟩
    trivial
    refine ⟨cI (F.filter fun s => decide (s = x) || !decide (s ∈ T)), by rw [List.map_map]; rfl, fun ns' hp hs => ?_⟩
    obtain ⟨l', rfl, hr, hm⟩ := sorted_nats (wl.nd.filter _) hp hs
    have e : l' = bagN n gs T x := rising_ext hr (bag_rising ..) fun z => by
      rw [hm, List.mem_filter, mem_bag]
      constructor
      · rintro ⟨h1, h2⟩
        refine ⟨(wl.ok z h1).1, ?_, (wl.ok z h1).2⟩
        rcases Bool.or_eq_true_iff.1 h2 with h | h
        · rw [of_decide_eq_true h]; exact hxT
        · simpa using h
      · rintro ⟨_, h2, h3⟩
        exact ⟨hall z h3, by simp [h2]⟩
    subst e
    rw [cI, List.map_map]
    exact hQ _
structure WebOk (S : List Nat) (ps : List Part) : Prop where
  sz : SzOk S
  pos : 0 < S.length
  roof : prodN S ≤ 2000
  few : ps.length ≤ 24
  ok : ∀ p ∈ ps, p.Ok S ∧ ∀ x ∈ p.ws, x = 1
theorem WebOk.ns {S : List Nat} {ps : List Part} (h : WebOk S ps) : NsOk S ps := ⟨h.sz.few, by have := h.few; omega, fun p hp => ⟨(h.ok p hp).1.rise, (h.ok p hp).1.lt⟩⟩
structure GrOk (n : Nat) (gs : List (List Nat)) : Prop where
  len : gs.length ≤ 60
  ok : ∀ g ∈ gs, Rising g ∧ ∀ m ∈ g, m < n
def sp_law_web : DSpec := fun args Q _ => ∃ (n : Nat) (a : Addr) (ds : List D) (most : Nat), args = [.lst a ds, dI (most : Nat)] ∧ JarOk n ds ∧ n + 4000 < 4294967296 ∧ 0 < most ∧ most ≤ 12 ∧
  ∀ (S : List Nat) (ps : List Part) ds' fin, WebOk S ps → S.length ≤ most → JarOk (n + 4000) ds' → Q (.ext (dSh S ps)) (.lst a ds' :: fin)
def b1_law_web : DTS :=
    (sSeq (sSetE 6 (dOp fIx (dLst (dCons (dC (.int 2)) (dCons (dC (.int 1)) (dCons (dC (.int 3)) (dCons (dC (.int 2)) (dCons (dC (.int 4)) dNil)))))) (dCallJ sp_law_dip 0 (dCons (dC (.int 5)) dNil))))
    (sSetE 4 (dOp fAdd (dVar 4) (dTup (dCons (dIf (dTest (dOp (fCmp fun i j => decide (i ≤ j)) (dOp fMul (dCall sp_law_times (dCons (dVar 4) dNil)) (dVar 6)) (dC (.int 2000)))) (dVar 6) (dC (.int 1))) dNil)))))
def e2_law_web : DT :=
    (dCallJ sp_law_some 0 (dCons (dVar 2) (dCons (dC (.int 3)) dNil)))
def e3_law_web : DT :=
    (dCB fTuple (dCons (dCB fSorted (dCons (dLst (dCons (dVar 5) (dCons (dOp fMod (dOp fAdd (dVar 5) (dC (.int 1))) (dVar 2)) dNil))) dNil)) dNil))
def e4_law_web : DT :=
    (dTup (dCons (dVar 5) (dCons (dOp fAdd (dVar 5) (dC (.int 1))) dNil)))
def e5_law_web : DT :=
    (dCB fTuple (dCons (dCB fSorted (dCons (dLst (dCons (dVar 5) (dCons (dOp fMod (dOp fAdd (dVar 5) (dVar 8)) (dVar 2)) dNil))) dNil)) dNil))
def e6_law_web : DT :=
    (dOp fIx (dVar 4) (dVar 12))
def e7_law_web : DT :=
    (dCB fLen (dCons (dOp fIx (dVar 13) (dC (.int 1))) dNil))
def b8_law_web : DTS :=
    (sSeq (sSetE 11 (dOp fMulT (dTup (dCons (dC (.int 1)) dNil)) (dCall sp_law_times (dCons (dLc (dSeq (dVar 10)) (gSet 12) dYes e6_law_web [12]) dNil))))
    (sIf (dAnd (dTest (dOp (fCmp fun i j => decide (i < j)) (dCB fLen (dCons (dVar 9) dNil)) (dC (.int 24)))) (dTest (dOp (fCmp fun i j => decide (i ≤ j)) (dOp fAdd (dCB fSum (dCons (dLc (dSeq (dVar 9)) (gSet 13) dYes e7_law_web [13]) dNil)) (dCB fLen (dCons (dVar 11) dNil))) (dC (.int 2000))))) (sDrop (dAppend 9 (dTup (dCons (dVar 10) (dCons (dVar 11) dNil))))) sNext))
def k9_law_web : DTS :=
    (sRet (dTup (dCons (dVar 4) (dCons (dCB fTuple (dCons (dVar 9) dNil)) dNil))))
def k10_law_web : DTS :=
    (sSeq (sSet 9 (dLst dNil))
    (sSeq (sFor (dSeq (dVar 7)) (gSet 10) b8_law_web)
    k9_law_web))
def k11_law_web : DTS :=
    (sSeq (sIf (dAnd (dTest (dOp fEq (dVar 3) (dC (.int 3)))) (dTest (dOp (fCmp fun i j => decide (j < i)) (dVar 2) (dC (.int 2))))) (sSeq (sSetE 8 (dOp fAdd (dC (.int 1)) (dCallJ sp_law_dip 0 (dCons (dOp fSub (dVar 2) (dC (.int 1))) dNil))))
    (sSetE 7 (dOp fAdd (dLc (dRange1 (dCons (dVar 2) dNil)) (gSet 5) dYes e5_law_web [5]) (dSl (dVar 7) dNoPart (dPart (dC (.int 2))))))) sNext)
    k10_law_web)
def k12_law_web : DTS :=
    (sSeq (sIf (dTest (dOp fEq (dVar 3) (dC (.int 2)))) (sSetE 7 (dOp fAdd (dLst (dCons (dTupRg (dRg1 (dCB fMin (dCons (dVar 2) (dCons (dC (.int 4)) dNil))))) dNil)) (dSl (dVar 7) dNoPart (dPart (dC (.int 2)))))) sNext)
    k11_law_web)
def k13_law_web : DTS :=
    (sSeq (sIf (dTest (dOp fEq (dVar 3) (dC (.int 1)))) (sSetE 7 (dLc (dRange1 (dCons (dOp fSub (dVar 2) (dC (.int 1))) dNil)) (gSet 5) dYes e4_law_web [5])) sNext)
    k12_law_web)
def k14_law_web : DTS :=
    (sSeq (sSetE 7 (dLc (dRange1 (dCons (dCallJ sp_law_dip 0 (dCons (dOp fAdd (dOp fMul (dC (.int 2)) (dVar 2)) (dC (.int 1))) dNil)) dNil)) (gSet 5) dYes e2_law_web [5]))
    (sSeq (sIf (dAnd (dTest (dOp fEq (dVar 3) (dC (.int 0)))) (dTest (dOp (fCmp fun i j => decide (j < i)) (dVar 2) (dC (.int 2))))) (sSetE 7 (dOp fAdd (dLc (dRange1 (dCons (dVar 2) dNil)) (gSet 5) dYes e3_law_web [5]) (dSl (dVar 7) dNoPart (dPart (dC (.int 1)))))) sNext)
    k13_law_web))
def t_law_web : DTS :=
    (sSeq (sSetE 2 (dOp fAdd (dC (.int 1)) (dCallJ sp_law_dip 0 (dCons (dVar 1) dNil))))
    (sSeq (sSetE 3 (dCallJ sp_law_dip 0 (dCons (dC (.int 7)) dNil)))
    (sSeq (sSetE 4 (dTup dNil))
    (sSeq (sFor (dRange1 (dCons (dVar 2) dNil)) (gSet 5) b1_law_web)
    k14_law_web))))
theorem q1_law_web {Ex : DX} {E : DEnds} {a : Addr} {s1 s2 s3 s7 s8 s9 s10 s11 s12 s13 : Sl} (items : List D) : ∀ (n : Nat) (ds : List D) (S : List Nat) (s5 s6 : Sl), JarOk n ds → n + items.length < 4294967296 → (∀ s ∈ S, 0 < s ∧ s ≤ 4) → prodN S ≤ 2000 → S.length + items.length ≤ 24 →
    (∀ ds' S' u5 u6, JarOk (n + items.length) ds' → (∀ s ∈ S', 0 < s ∧ s ≤ 4) → prodN S' ≤ 2000 → S'.length = S.length + items.length → E.nx [.lst a ds', s1, s2, s3, .ext (.tup (nD S')), u5, u6, s7, s8, s9, s10, s11, s12, s13]) →
    forD (gSet 5) b1_law_web (fun _ => True) Ex E items [.lst a ds, s1, s2, s3, .ext (.tup (nD S)), s5, s6, s7, s8, s9, s10, s11, s12, s13] := by
  induction items with
  | nil =>
    intro n ds S s5 s6 hj hn hs hp hl hE
    exact ⟨True.intro, hE _ _ _ _ hj hs hp rfl⟩
  | cons x items ih =>
    intro n ds S s5 s6 hj hn hs hp hl hE
    rw [List.length_cons] at hn hl
    rw [forD]
    unfold b1_law_web
    and_intros
    refine ⟨by decide, fun b => ⟨n, a, ds, 5, rfl, hj, by omega, by decide, by decide, fun r ds' fin r0 r1 hj' => ?_⟩⟩
    trivial
    have fin' : ∀ s : Nat, 0 < s → s ≤ 4 → prodN S * s ≤ 2000 → ∀ u6, forD (gSet 5) b1_law_web (fun _ => True) Ex E items [.lst a ds', s1, s2, s3, .ext (.tup (nD (S ++ [s]))), .ext x, u6, s7, s8, s9, s10, s11, s12, s13] := by
      intro s h0 h4 hps u6
      refine ih (n + 1) ds' (S ++ [s]) _ _ hj' (by omega) ?_ ?_ (by rw [List.length_append, List.length_singleton]; omega) ?_
      · intro y hy
        rcases List.mem_append.1 hy with h | h
        · exact hs y h
        · rw [List.mem_singleton.1 h]; exact ⟨h0, h4⟩
      · rw [prodN_append]; simpa [prodN] using hps
      · intro ds'' S' u5 u6' hj2 hs2 hp2 hl2
        refine hE _ _ _ _ (by rw [List.length_cons]; exact hj2.up (by omega)) hs2 hp2 ?_
        rw [hl2, List.length_append, List.length_singleton, List.length_cons]; omega
    obtain ⟨z, h0, h4, hz⟩ : ∃ z : Nat, 0 < z ∧ z ≤ 4 ∧ atI [D.int 2, D.int 1, D.int 3, D.int 2, D.int 4] r = some (D.int (z : Nat)) := by
      have h : r = 0 ∨ r = 1 ∨ r = 2 ∨ r = 3 ∨ r = 4 := by omega
      rcases h with rfl | rfl | rfl | rfl | rfl
      · exact ⟨2, by decide, by decide, rfl⟩
      · exact ⟨1, by decide, by decide, rfl⟩
      · exact ⟨3, by decide, by decide, rfl⟩
      · exact ⟨2, by decide, by decide, rfl⟩
      · exact ⟨4, by decide, by decide, rfl⟩
    refine ⟨_, hz, ?_⟩
    trivial
    refine ⟨S, .inr rfl, fun y hy => (hs y hy).1, by omega, fun fin2 => ?_⟩
    trivial
    refine ⟨cmulN (a := 60) (b := 60) (by rw [Int.natAbs_natCast]; omega) (by rw [Int.natAbs_natCast]; omega) (by decide), ?_⟩
    split
    · rename_i hle
      have := fin' z h0 h4 (by exact_mod_cast hle) (dI (z : Nat))
      rw [nD_app] at this
      exact ⟨by decide, by rw [nD_len]; exact Nat.le_trans (by omega : S.length + 1 ≤ 100) (by decide), this⟩
    · have := fin' 1 (by decide) (by decide) (by omega) (dI (z : Nat))
      rw [nD_app] at this
      exact ⟨by decide, by rw [nD_len]; exact Nat.le_trans (by omega : S.length + 1 ≤ 100) (by decide), this⟩
theorem q2_law_web {Ex : DX} {E : DEnds} {s0 s1 s2 s3 s5 s6 s8 : Sl} {S : List Nat} {gs : List (List Nat)} (hS : SzOk S) (hS0 : 0 < S.length) (hr : prodN S ≤ 2000) (hg : GrOk S.length gs) (hE : ∀ ps env, WebOk S ps → env[0]? = some s0 → E.rt (.ext (dSh S ps)) env) :
    k10_law_web Ex E [s0, s1, s2, s3, .ext (.tup (nD S)), s5, s6, .ext (.lst (fD gs)), s8, .un, .un, .un, .un, .un] := by
  unfold k10_law_web
  and_intros
  refine ⟨Nat.zero_le _, fun a9 => ?_⟩
  refine for_ind (fun g : List Nat => D.tup (nD g)) (fun hs env => ∃ (ps : List Part) (u10 u11 : Sl), env = [s0, s1, s2, s3, .ext (.tup (nD S)), s5, s6, .ext (.lst (fD gs)), s8, .lst a9 (ps.map dP), u10, u11, .un, .un] ∧ ps.length ≤ 24 ∧ (∀ p ∈ ps, p.Ok S ∧ ∀ x ∈ p.ws, x = 1) ∧ ∀ g ∈ hs, g ∈ gs) ?_ ?_ gs _ ⟨[], _, _, rfl, by decide, by simp, fun g hg => hg⟩
  · rintro env ⟨ps, u10, u11, rfl, h1, h2, _⟩
    refine ⟨True.intro, ?_⟩
    unfold k9_law_web
    and_intros
    exact ⟨by decide, hE ps _ ⟨hS, hS0, hr, h1, h2⟩ rfl⟩
  rintro g hs env N ⟨ps, u10, u11, rfl, h1, h2, h3⟩ hN
  obtain ⟨hgr, hgl⟩ := hg.ok g (h3 g List.mem_cons_self)
  have hglen := rising_len hgr hgl
  have h24 := hS.few
  refine ⟨True.intro, ?_⟩
  unfold b8_law_web
  and_intros
  refine ⟨by decide, lc_map (fun m : Nat => D.int (m : Nat)) (fun m => .int (sz S m : Nat)) True.intro g (Nat.le_trans (by omega : g.length ≤ 100) (by decide)) (fun m hm R hR => ?_) fun b => ?_⟩
  · unfold e6_law_web
    trivial
    refine ⟨_, atN (getD_at (hgl m hm)), ?_⟩
    trivial
    exact hR
  trivial
  have hpz := psz_le hS.pos hgr hgl
  have hpos : ∀ x ∈ g.map (sz S), 0 < x := fun x hx => by
    obtain ⟨m, hm, rfl⟩ := List.mem_map.1 hx
    exact hS.pos _ (sz_mem (hgl m hm))
  refine ⟨g.map (sz S), .inl (by rw [nD, List.map_map]; rfl), hpos, by show psz S g < _; omega, fun fin => ?_⟩
  trivial
  rw [show prodN (g.map (sz S)) = psz S g from rfl]
  refine ⟨by omega, by omega, by rw [Int.toNat_natCast]; exact Nat.le_trans (by simp; omega : _ ≤ 5000) (by decide), ?_⟩
  have hrep : (List.replicate ((psz S g : Nat) : Int).toNat [D.int 1]).flatten = iD (List.replicate (psz S g) 1) := by
    rw [Int.toNat_natCast]
    generalize psz S g = m
    induction m with
    | zero => rfl
    | succ m ih => rw [List.replicate_succ, List.flatten_cons, ih, List.replicate_succ]; rfl
  rw [hrep]
  rw [List.length_map]
  have next : ∀ ps2 : List Part, ps2.length ≤ 24 → (∀ p ∈ ps2, p.Ok S ∧ ∀ x ∈ p.ws, x = 1) → N [s0, s1, s2, s3, .ext (.tup (nD S)), s5, s6, .ext (.lst (fD gs)), s8, .lst a9 (ps2.map dP), .ext (.tup (nD g)), .ext (.tup (iD (List.replicate (psz S g) 1))), .un, .un] := fun ps2 g1 g2 => hN _ ⟨ps2, _, _, rfl, g1, g2, fun k hk => h3 k (List.mem_cons_of_mem _ hk)⟩
  by_cases hlt : ps.length < 24
  · rw [if_pos (by omega)]
    refine lc_map (keep := fun env' => env'[9]? = some (Sl.lst a9 (List.map dP ps))) (fun p : Part => dP p) (fun p => .int (p.ws.length : Nat)) rfl ps (Nat.le_trans (by omega : ps.length ≤ 100) (by decide)) (fun p hp R hR => ?_) fun b => ?_
    · unfold e7_law_web
      trivial
      rw [iD_len]
      exact hR
    trivial
    refine ⟨ps.map fun p => (p.ws.length : Int), by rw [List.map_map]; rfl, ?_⟩
    split
    · refine ⟨by decide, by rw [List.length_map]; exact Nat.lt_of_lt_of_le hlt (by decide), ?_⟩
      have := next (ps ++ [⟨g, List.replicate (psz S g) 1⟩]) (by rw [List.length_append, List.length_singleton]; omega) fun p hp => by
        rcases List.mem_append.1 hp with h | h
        · exact h2 p h
        · rw [List.mem_singleton.1 h]
          exact ⟨⟨hgr, hgl, List.length_replicate⟩, fun x hx => (List.mem_replicate.1 hx).2⟩
      rw [List.map_append] at this
      exact this
    · exact next ps h1 h2
  · rw [if_neg (by omega)]
    exact next ps h1 h2
theorem GrOk.take {n : Nat} {gs : List (List Nat)} (h : GrOk n gs) (k : Nat) : ∀ g ∈ gs.take k, Rising g ∧ ∀ m ∈ g, m < n := fun g hg => h.ok g (List.mem_of_mem_take hg)
theorem fD_take (gs : List (List Nat)) (k : Nat) : cutD (fD gs) none (some (k : Int)) = fD (gs.take k) := by
  unfold cutD
  rw [HT.sIx_none, HT.sIx_nat, List.drop_zero, Nat.sub_zero]
  rw [show fD (gs.take k) = (fD gs).take k from List.map_take]
  by_cases hk : k ≤ (fD gs).length
  · rw [Nat.min_eq_left hk]
  · rw [Nat.min_eq_right (by omega), List.take_of_length_le (Nat.le_refl _), List.take_of_length_le (by omega)]
theorem pair_sorted {k m many : Nat} {ns : List Int} (hk : k < many) (hm : m < many) (hne : k ≠ m) (hp : ns.Perm [(k : Int), (m : Int)]) (hs : ns.Pairwise (· ≤ ·)) : ∃ g : List Nat, ns = cI g ∧ Rising g ∧ ∀ x ∈ g, x < many := by
  obtain ⟨g, e, hr, hg⟩ := sorted_nats (l := [k, m]) (by simp [hne]) hp hs
  refine ⟨g, e, hr, fun x hx => ?_⟩
  rcases List.mem_cons.1 ((hg x).1 hx) with h | h
  · omega
  · rw [List.mem_singleton.1 h]; exact hm
theorem q3_law_web {Q : Sl → Env' → Prop} {s0 s1 s3 s4 s6 s7 s8 s9 s10 s11 s12 s13 : Sl} {many : Nat} (h2 : 1 < many) (h12 : many ≤ 12) (hQ : ∀ b (gs : List (List Nat)), gs.length = many → (∀ g ∈ gs, Rising g ∧ ∀ m ∈ g, m < many) → Q (.lst b (fD gs)) [s0, s1, dI (many : Nat), s3, s4, .un, s6, s7, s8, s9, s10, s11, s12, s13]) :
    lcD (gSet 5) dYes e3_law_web [5] (fun _ => True) Q (nD (List.range many)) [] [s0, s1, dI (many : Nat), s3, s4, .un, s6, s7, s8, s9, s10, s11, s12, s13] := by
  refine lc_ind (fun k : Nat => D.int (k : Int)) (fun xs acc env => ∃ gs : List (List Nat), env = [s0, s1, dI (many : Nat), s3, s4, .un, s6, s7, s8, s9, s10, s11, s12, s13] ∧ acc = fD gs ∧ gs.length + xs.length = many ∧ (∀ x ∈ xs, x < many) ∧ ∀ g ∈ gs, Rising g ∧ ∀ m ∈ g, m < many) ?_ ?_ (List.range many) [] _
    ⟨[], rfl, rfl, by rw [List.length_range]; simp, fun x hx => List.mem_range.1 hx, by intro p hp; simp at hp⟩
  · rintro acc env ⟨gs, rfl, rfl, hl, _, hg⟩
    exact ⟨True.intro, fun b => hQ b gs (by simpa using hl) hg⟩
  rintro k xs acc env N ⟨gs, rfl, rfl, hl, hx, hg⟩ hN
  rw [List.length_cons] at hl
  have hk := hx k List.mem_cons_self
  refine ⟨True.intro, by rw [List.length_map]; exact Nat.lt_of_le_of_lt (by omega : _ ≤ 1000) (by decide), ?_⟩
  unfold e3_law_web
  trivial
  refine ⟨by omega, by decide, ?_⟩
  have e : ((k : Int) + 1) % (many : Int) = (((k + 1) % many : Nat) : Int) := by rw [Int.natCast_emod, Int.natCast_add] <;> rfl
  have hlt : (k + 1) % many < many := Nat.mod_lt _ (by omega)
  have hne : k ≠ (k + 1) % many := by
    intro z
    by_cases hge : k + 1 < many
    · rw [Nat.mod_eq_of_lt hge] at z; omega
    · rw [Nat.mod_eq_sub_mod (by omega), Nat.mod_eq_of_lt (by omega)] at z; omega
  rw [e]
  refine ⟨[(k : Int), (((k + 1) % many : Nat) : Int)], rfl, fun ns' hp hs => ?_⟩
  obtain ⟨g, rfl, gr, gl⟩ := pair_sorted hk hlt hne hp hs
  refine hN _ _ ⟨gs ++ [g], rfl, by rw [fD, fD, List.map_append, cI, List.map_map]; rfl, by rw [List.length_append, List.length_singleton]; omega, fun x hx' => hx x (List.mem_cons_of_mem _ hx'), fun g' hg' => ?_⟩
  rcases List.mem_append.1 hg' with h | h
  · exact hg g' h
  · rw [List.mem_singleton.1 h]; exact ⟨gr, gl⟩
theorem q5_law_web {Q : Sl → Env' → Prop} {s0 s1 s3 s4 s6 s7 s9 s10 s11 s12 s13 : Sl} {many st : Nat} (h1 : 0 < st) (h2 : st < many) (h12 : many ≤ 12) (hQ : ∀ b (gs : List (List Nat)), gs.length = many → (∀ g ∈ gs, Rising g ∧ ∀ m ∈ g, m < many) → Q (.lst b (fD gs)) [s0, s1, dI (many : Nat), s3, s4, .un, s6, s7, dI (st : Nat), s9, s10, s11, s12, s13]) :
    lcD (gSet 5) dYes e5_law_web [5] (fun _ => True) Q (nD (List.range many)) [] [s0, s1, dI (many : Nat), s3, s4, .un, s6, s7, dI (st : Nat), s9, s10, s11, s12, s13] := by
  refine lc_ind (fun k : Nat => D.int (k : Int)) (fun xs acc env => ∃ gs : List (List Nat), env = [s0, s1, dI (many : Nat), s3, s4, .un, s6, s7, dI (st : Nat), s9, s10, s11, s12, s13] ∧ acc = fD gs ∧ gs.length + xs.length = many ∧ (∀ x ∈ xs, x < many) ∧ ∀ g ∈ gs, Rising g ∧ ∀ m ∈ g, m < many) ?_ ?_ (List.range many) [] _
    ⟨[], rfl, rfl, by rw [List.length_range]; simp, fun x hx => List.mem_range.1 hx, by intro p hp; simp at hp⟩
  · rintro acc env ⟨gs, rfl, rfl, hl, _, hg⟩
    exact ⟨True.intro, fun b => hQ b gs (by simpa using hl) hg⟩
  rintro k xs acc env N ⟨gs, rfl, rfl, hl, hx, hg⟩ hN
  rw [List.length_cons] at hl
  have hk := hx k List.mem_cons_self
  refine ⟨True.intro, by rw [List.length_map]; exact Nat.lt_of_le_of_lt (by omega : _ ≤ 1000) (by decide), ?_⟩
  unfold e5_law_web
  trivial
  refine ⟨by omega, by decide, ?_⟩
  have e : ((k : Int) + st) % (many : Int) = (((k + st) % many : Nat) : Int) := by rw [Int.natCast_emod, Int.natCast_add] <;> rfl
  have hlt : (k + st) % many < many := Nat.mod_lt _ (by omega)
  have hne : k ≠ (k + st) % many := by
    intro z
    by_cases hge : k + st < many
    · rw [Nat.mod_eq_of_lt hge] at z; omega
    · rw [Nat.mod_eq_sub_mod (by omega), Nat.mod_eq_of_lt (by omega)] at z; omega
  rw [e]
  refine ⟨[(k : Int), (((k + st) % many : Nat) : Int)], rfl, fun ns' hp hs => ?_⟩
  obtain ⟨g, rfl, gr, gl⟩ := pair_sorted hk hlt hne hp hs
  refine hN _ _ ⟨gs ++ [g], rfl, by rw [fD, fD, List.map_append, cI, List.map_map]; rfl, by rw [List.length_append, List.length_singleton]; omega, fun x hx' => hx x (List.mem_cons_of_mem _ hx'), fun g' hg' => ?_⟩
  rcases List.mem_append.1 hg' with h | h
  · exact hg g' h
  · rw [List.mem_singleton.1 h]; exact ⟨gr, gl⟩
theorem m_law_web : Meets t_law_web 2 12 sp_law_web := by
  rintro args Qd Xd ⟨n, a, ds, most, rfl, hj, hn, hm0, hm1, hQ⟩
  show t_law_web _ _ [_, _, .un, .un, .un, .un, .un, .un, .un, .un, .un, .un, .un, .un]
  unfold t_law_web
  and_intros
  refine ⟨n, a, ds, most, rfl, hj, by omega, by omega, by omega, fun r ds1 fin r0 r1 hj1 => ?_⟩
  trivial
  refine ⟨n + 1, a, ds1, 7, rfl, hj1, by omega, by omega, by omega, fun way ds2 fin w0 w1 hj2 => ?_⟩
  trivial
  obtain ⟨many, hmany⟩ : ∃ m : Nat, 1 + r = (m : Nat) := ⟨(1 + r).toNat, by omega⟩
  rw [hmany]
  have hm12 : many ≤ 12 := by omega
  have hm1' : 1 ≤ many := by omega
  refine ⟨Nat.zero_le _, ⟨by omega, by omega⟩, ?_⟩
  rw [rgD_nat]
  refine q1_law_web (nD (List.range many)) (n + 2) ds2 [] _ _ hj2 (by rw [nD_len, List.length_range]; omega) (by simp) (by show 1 ≤ 2000; decide) (by rw [nD_len, List.length_range]; simp; omega) fun ds3 S u5 u6 hj3 hs3 hp3 hl3 => ?_
  rw [nD_len, List.length_range] at hl3 hj3
  have hSl : S.length = many := by rw [hl3]; simp
  have hS : SzOk S := ⟨fun s hs => (hs3 s hs).1, by omega, by omega, fun s hs => (hs3 s hs).2⟩
  have fin10 : ∀ (gs : List (List Nat)) ds9 u5 u6 u8, GrOk many gs → JarOk (n + 4000) ds9 → k10_law_web (exOf [.lst a ds, dI (most : Nat)] Xd) (endsOf [.lst a ds, dI (most : Nat)] Qd) [.lst a ds9, dI (most : Nat), dI (many : Nat), dI way, .ext (.tup (nD S)), u5, u6, .ext (.lst (fD gs)), u8, .un, .un, .un, .un, .un] := fun gs ds9 u5 u6 u8 hg hj9 => by
    refine q2_law_web hS (by omega) hp3 (by rw [hSl]; exact hg) fun ps env hw h0 => ?_
    show Qd _ (finals [.lst a ds, dI (most : Nat)] env)
    rw [finals2, h0, fin1_lst]
    exact hQ S ps _ _ hw (by omega) hj9
  unfold k14_law_web
  and_intros
  refine ⟨cmulN (a := 60) (b := 60) (by decide) (by rw [Int.natAbs_natCast]; omega) (by decide), n + 2 + many, a, ds3, 2 * (many : Int) + 1, rfl, hj3, by omega, by omega, by omega, fun c ds4 fin c0 c1 hj4 => ?_⟩
  trivial
  refine ⟨⟨by omega, by omega⟩, ?_⟩
  have er : rgD 0 c = nD (List.range c.toNat) := by rw [← rgD_nat, Int.toNat_of_nonneg c0]
  rw [er]
  refine lc_ind (fun k : Nat => D.int (k : Int)) (fun xs acc env => ∃ (m : Nat) (ds : List D) (gs : List (List Nat)), env = [.lst a ds, dI (most : Nat), dI (many : Nat), dI way, .ext (.tup (nD S)), .un, u6, .un, .un, .un, .un, .un, .un, .un] ∧ acc = fD gs ∧ JarOk m ds ∧ m + 64 * xs.length ≤ n + 3900 ∧ gs.length + xs.length = c.toNat ∧ ∀ g ∈ gs, Rising g ∧ ∀ m ∈ g, m < many) ?_ ?_ (List.range c.toNat) [] _
    ⟨n + 2 + many + 1, ds4, [], rfl, rfl, hj4, by rw [List.length_range]; omega, by rw [List.length_range]; simp, by intro p hp; simp at hp⟩
  rotate_left
  · rintro k xs acc env N ⟨m, ds5, gs, rfl, rfl, hj5, hm5, hl5, hg5⟩ hN
    rw [List.length_cons] at hm5 hl5
    refine ⟨True.intro, by rw [List.length_map]; exact Nat.lt_of_le_of_lt (by omega : _ ≤ 100) (by decide), ?_⟩
    unfold e2_law_web
    trivial
    refine ⟨m, a, ds5, many, 3, rfl, hj5, by omega, by omega, by omega, fun ns ds6 fin h1 h2 h3 hj6 => ?_⟩
    trivial
    refine hN _ _ ⟨m + 64, ds6, gs ++ [ns], rfl, by rw [fD, fD, List.map_append]; rfl, hj6, by omega, by rw [List.length_append, List.length_singleton]; omega, fun g hg => ?_⟩
    rcases List.mem_append.1 hg with h | h
    · exact hg5 g h
    · rw [List.mem_singleton.1 h]; exact ⟨h1, h2⟩
  rintro acc env ⟨m, ds5, gs, rfl, rfl, hj5, hm5, hl5, hg5⟩
  rw [List.length_nil, Nat.add_zero] at hl5
  refine ⟨True.intro, fun b => ?_⟩
  have hgr : GrOk many gs := ⟨by omega, hg5⟩
  have fin11 : ∀ (gs : List (List Nat)) ds9 u5 u6, GrOk many gs → JarOk (n + 3900) ds9 → k11_law_web (exOf [.lst a ds, dI (most : Nat)] Xd) (endsOf [.lst a ds, dI (most : Nat)] Qd) [.lst a ds9, dI (most : Nat), dI (many : Nat), dI way, .ext (.tup (nD S)), u5, u6, .ext (.lst (fD gs)), .un, .un, .un, .un, .un, .un] := fun gs ds9 u5 u6 hg hj9 => by
    unfold k11_law_web
    and_intros
    by_cases hw : way = 3
    · subst hw
      rw [if_pos (by decide)]
      by_cases h2 : 2 < many
      · rw [if_pos (by omega)]
        trivial
        refine ⟨n + 3900, a, ds9, (many : Int) - 1, rfl, hj9, by omega, by omega, by omega, fun q ds10 fin q0 q1 hj10 => ?_⟩
        trivial
        obtain ⟨st, hst⟩ : ∃ m : Nat, 1 + q = (m : Nat) := ⟨(1 + q).toNat, by omega⟩
        rw [hst, rgD_nat]
        refine ⟨⟨by omega, by omega⟩, ?_⟩
        refine q5_law_web (by omega) (by omega) (by omega) fun b gs2 g1 g2 => ?_
        trivial
        rw [show (2 : Int) = ((2 : Nat) : Int) from rfl, fD_take]
        have ht := List.length_take_le 2 gs
        refine ⟨by rw [List.length_map, List.length_map]; exact Nat.le_trans (by omega : _ ≤ 100) (by decide), ?_⟩
        have := fin10 (gs2 ++ gs.take 2) ds10 .un u6 (dI (st : Nat)) ⟨by rw [List.length_append]; omega, fun g hgm => (List.mem_append.1 hgm).elim (g2 g) (hg.take 2 g)⟩ (hj10.up (by omega))
        rw [fD, List.map_append] at this
        exact this
      · rw [if_neg (by omega)]
        exact fin10 gs ds9 u5 u6 _ hg (hj9.up (by omega))
    · rw [if_neg (by simpa using hw)]
      exact fin10 gs ds9 u5 u6 _ hg (hj9.up (by omega))
  have fin12 : ∀ (gs : List (List Nat)) ds9 u5 u6, GrOk many gs → JarOk (n + 3900) ds9 → k12_law_web (exOf [.lst a ds, dI (most : Nat)] Xd) (endsOf [.lst a ds, dI (most : Nat)] Qd) [.lst a ds9, dI (most : Nat), dI (many : Nat), dI way, .ext (.tup (nD S)), u5, u6, .ext (.lst (fD gs)), .un, .un, .un, .un, .un, .un] := fun gs ds9 u5 u6 hg hj9 => by
    unfold k12_law_web
    and_intros
    by_cases hw : way = 2
    · subst hw
      rw [if_pos (by decide)]
      obtain ⟨mm, hmm, hmm4⟩ : ∃ mm : Nat, (if (4 : Int) < (many : Int) then 4 else (many : Int)) = (mm : Nat) ∧ mm ≤ many := by
        by_cases h : (4 : Int) < many
        · exact ⟨4, by rw [if_pos h]; rfl, by omega⟩
        · exact ⟨many, by rw [if_neg h], Nat.le_refl _⟩
      rw [hmm, rgD_nat, show (2 : Int) = ((2 : Nat) : Int) from rfl, fD_take]
      refine ⟨RgOk.of_le (by omega) (by omega) (by omega) (by omega), by decide, by rw [List.length_map]; exact Nat.le_trans (by have := List.length_take_le 2 gs; omega : _ ≤ 100) (by decide), ?_⟩
      refine fin11 (List.range mm :: gs.take 2) ds9 u5 u6 ⟨by rw [List.length_cons]; have := List.length_take_le 2 gs; omega, fun g hgm => ?_⟩ hj9
      rcases List.mem_cons.1 hgm with h | h
      · rw [h]; exact ⟨rising_range _, fun m hm => by have := List.mem_range.1 hm; omega⟩
      · exact hg.take 2 g h
    · rw [if_neg (by simpa using hw)]
      exact fin11 gs ds9 u5 u6 hg hj9
  have fin13 : ∀ (gs : List (List Nat)) ds9 u6, GrOk many gs → JarOk (n + 3900) ds9 → k13_law_web (exOf [.lst a ds, dI (most : Nat)] Xd) (endsOf [.lst a ds, dI (most : Nat)] Qd) [.lst a ds9, dI (most : Nat), dI (many : Nat), dI way, .ext (.tup (nD S)), .un, u6, .ext (.lst (fD gs)), .un, .un, .un, .un, .un, .un] := fun gs ds9 u6 hg hj9 => by
    unfold k13_law_web
    and_intros
    by_cases hw : way = 1
    · subst hw
      rw [if_pos (by decide)]
      rw [show ((many : Int) - 1) = ((many - 1 : Nat) : Int) by omega, rgD_nat]
      refine ⟨⟨by omega, by omega⟩, ?_⟩
      refine lc_map (fun k : Nat => D.int (k : Int)) (fun k => .tup (nD [k, k + 1])) True.intro (List.range (many - 1)) (by rw [List.length_range]; exact Nat.le_trans (by omega : _ ≤ 100) (by decide)) (fun k hk R hR => ?_) fun b => ?_
      · unfold e4_law_web
        trivial
        exact ⟨by decide, hR⟩
      trivial
      have := fin12 ((List.range (many - 1)).map fun k => [k, k + 1]) ds9 .un u6 ⟨by rw [List.length_map, List.length_range]; omega, fun g hgm => ?_⟩ hj9
      · rw [fD, List.map_map] at this
        exact this
      · obtain ⟨k, hk, rfl⟩ := List.mem_map.1 hgm
        have := List.mem_range.1 hk
        refine ⟨by simp [Rising], fun m hm => ?_⟩
        rcases List.mem_cons.1 hm with h | h
        · omega
        · rw [List.mem_singleton.1 h]; omega
    · rw [if_neg (by simpa using hw)]
      exact fin12 gs ds9 _ u6 hg hj9
  trivial
  by_cases hw : way = 0
  · subst hw
    rw [if_pos (by decide)]
    by_cases h2 : 2 < many
    · rw [if_pos (by omega), rgD_nat]
      refine ⟨⟨by omega, by omega⟩, ?_⟩
      refine q3_law_web (by omega) (by omega) fun b gs2 g1 g2 => ?_
      trivial
      rw [show (1 : Int) = ((1 : Nat) : Int) from rfl, fD_take]
      have ht := List.length_take_le 1 gs
      refine ⟨by rw [List.length_map, List.length_map]; exact Nat.le_trans (by omega : _ ≤ 100) (by decide), ?_⟩
      have := fin13 (gs2 ++ gs.take 1) ds5 u6 ⟨by rw [List.length_append]; omega, fun g hgm => (List.mem_append.1 hgm).elim (g2 g) (hgr.take 1 g)⟩ (hj5.up (by omega))
      rw [fD, List.map_append] at this
      exact this
    · rw [if_neg (by omega)]
      exact fin13 gs ds5 u6 hgr (hj5.up (by omega))
  · rw [if_neg (by simpa using hw)]
    exact fin13 gs ds5 u6 hgr (hj5.up (by omega))
end LS
namespace HD
open PySem PyProof.Rows L2
section
variable {G : GG} {N : List Str} {sc : SC} {k : Nat} {a : Expr} {ta : DT} {p p2 pos pos2 : Pos}
def dSortSetB (t : DT) : DT := fun Ex env Q => t Ex env fun x env1 => wd env1 x fun d => match d with
  | .lst ds => ∃ ns : List Int, ds = ns.map D.int ∧ ns.length < 3000 ∧ (∀ n ∈ ns, 0 ≤ n ∧ n < 60) ∧ ∀ (ns' : List Int) (b : Addr), ns'.Pairwise (· < ·) → (∀ n : Int, n ∈ ns' ↔ n ∈ ns) → Q (.lst b (ns'.map D.int)) env1
  | _ => False
end
end HD
namespace HD
open PySem PyProof.Rows L2
abbrev pairZ (p : Int × Int) : D := .tup [.int p.1, .int p.2]
abbrev zLt (p q : Int × Int) : Prop := p.1 < q.1 ∨ (p.1 = q.1 ∧ p.2 < q.2)
section
variable {G : GG} {N : List Str} {sc : SC} {k : Nat} {a : Expr} {ta : DT} {p p2 pos pos2 : Pos}
def dSortSetP (t : DT) : DT := fun Ex env Q => t Ex env fun x env1 => wd env1 x fun d => match d with
  | .tup ds => ∃ ps : List (Int × Int), ds = ps.map pairZ ∧ ps.length < 64 ∧ (∀ p ∈ ps, (0 ≤ p.1 ∧ p.1 < 64) ∧ 0 ≤ p.2 ∧ p.2 < 64) ∧ ∀ (ps' : List (Int × Int)) (b : Addr), ps'.Pairwise zLt → (∀ p, p ∈ ps' ↔ p ∈ ps) → Q (.lst b (ps'.map pairZ)) env1
  | _ => False
end
end HD
namespace HD
open PySem PyProof.Rows L2
open PySem.W (dataLt dataLe EachIs AllAlike Sortable list_sort_data sorted_data)
section
variable {prog : Program} {w : World} {A : Around} {E : Value → Shared → Prop} {s : Shared}
theorem sorted_dataT {β : Type} {R : Value → β → Prop} {enc : β → PyData} {vs : List Value} {bs : List β} {l : Addr} {Q : Value → Shared → Prop} (hl : IsTup s.heap l vs.toArray) (e : EachIs R vs bs) (er : EachIs (fun v b => ∃ as, Reads s.heap v (enc b) as) vs bs) (hal : AllAlike (bs.map enc)) (hk : Sortable (bs.map enc)) (hL : bs.length ≤ sizeLine)
    (hu : ∀ b, b ∈ bs → A.units + 3 + (enc b).depth < cLine)
    (h : ∀ out, out.length = bs.length → EachIs R out (bs.mergeSort (dataLe false enc)) → Q (.ref (s.heap.objs.size + 1)) { s with heap := sortedAll s.heap vs (List.toArray out) }) :
    wpAny (model prog w) A (call (.builtin "sorted") [.ref l]) Q E s := by
  have hz : vs.length ≤ sizeLine := by rw [e.length]; exact hL
  refine Calls.call_function_entry kind_sorted plain_sorted entry_sorted (args_sorted1 _) ?_
  unfold Builtin.«sorted»
  refine wpAny_bind (m := checkCount "sorted" 1 1 _) (wpAny_pure ?_)
  refine wpAny_bind (collect_tup hl ?_ hz)
  refine wpAny_bind (wpAny_newList ?_ hz)
  have hsz : ((s.heap.push (seqObj "list" #[] 0)).update s.heap.objs.size (Obj.mapSeq (· ++ vs.toArray))).objs.size = s.heap.objs.size + 1 := by
    rw [Heap.size_update, size_push']
  have hoL : (((s.heap.push (seqObj "list" #[] 0)).update s.heap.objs.size (Obj.mapSeq (· ++ vs.toArray))).push (seqObj "list" vs.toArray 0)).get? (s.heap.objs.size + 1) = some (seqObj "list" vs.toArray 0) := by
    rw [← hsz]; exact Heap.get?_push_size _ rfl
  have keep : ∀ b o, s.heap.get? b = some o → b ≠ s.heap.objs.size + 1 ∧ (((s.heap.push (seqObj "list" #[] 0)).update s.heap.objs.size (Obj.mapSeq (· ++ vs.toArray))).push (seqObj "list" vs.toArray 0)).get? b = some o := fun b o q => by
    have hlt : b < s.heap.objs.size := Heap.lt_size q
    refine ⟨Nat.ne_of_lt (Nat.lt_succ_of_lt hlt), Heap.get?_push_of_some _ ?_⟩
    rw [Heap.get?_update_ne _ _ _ _ (Nat.ne_of_lt hlt)]
    exact Heap.get?_push_of_some _ q
  show wpAny _ _ _ _ _ { s with heap := ((s.heap.push (seqObj "list" #[] 0)).update s.heap.objs.size (Obj.mapSeq (· ++ vs.toArray))).push (seqObj "list" vs.toArray 0) }
  rw [hsz]
  refine wpAny_bind (wpAny_holding (list_sort_data (R := R) (enc := enc) (bs := bs) hoL e (er.mono fun v b r' => r'.elim fun as r => ⟨as, PyProof.Rows.Reads.keeps (fun b o q => (keep b o q).2) r, fun ha => (PyProof.On.reads_mem_get r _ ha).elim fun o ho => (keep _ o ho).1 rfl⟩) hal hk hL (fun b hb => ?_) fun out hlen he => ?_))
  · have := hu b hb
    show A.units + 1 + 1 + (enc b).depth < cLine
    omega
  · exact wpAny_pure ⟨_, rfl, h out hlen he⟩
end
def rSortD (K : PySem.W.Frag) : List V → Hp → VK → Prop := fun vs H Q => ∃ (a : Addr) (us : List V) (ds : List D), vs = [V.ref a] ∧ (SqL K H a us ∨ SqT K H a us) ∧ DpAll K H us (D.pys ds) ∧
  (∀ d ∈ ds, ∃ x r, d.py = .tuple (x :: r)) ∧ AllAlike (D.pys ds) ∧ (∀ d ∈ ds, d.py.depth ≤ 50) ∧
  ∀ (zs : List (V × D)) (p : Addr), zs.Perm (us.zip ds) → zs.Pairwise (fun a b => dataLt b.2.py a.2.py = false) → H p = none → Q (.ref p) (upd H p (.lst (zs.map (·.1))))
theorem zip_each {X : Cx} {pins : List (Addr × Obj)} {σ : L2.St} {H : Hp} {s : Shared} (I : Inv X pins σ H s) : ∀ {us : List V} {ds : List D} {its : List Value}, Vals us its → DpAll X.K H us (D.pys ds) →
    EachIs (fun v (b : V × D) => RelV b.1 v) its (us.zip ds) ∧ EachIs (fun v (b : V × D) => ∃ as, Reads s.heap v b.2.py as) its (us.zip ds) ∧ (us.zip ds).map (fun b => b.2.py) = D.pys ds ∧ us.length = ds.length
  | _, [], _, .nil, .nil => ⟨.nil, .nil, rfl, rfl⟩
  | u :: us, d :: ds, i :: its, .cons r rs, .cons h hs => by
    obtain ⟨z1, z2, z3, z4⟩ := zip_each I (ds := ds) rs hs
    refine ⟨.cons r z1, .cons (Dp.reads I _ _ _ h r) z2, ?_, by simp [z4]⟩
    exact congrArg (d.py :: ·) z3
theorem each_vals {out : List Value} {zs : List (V × D)} (h : EachIs (fun v (b : V × D) => RelV b.1 v) out zs) : Vals (zs.map (·.1)) out := by
  induction h with
  | nil => exact .nil
  | cons a _ ih => exact .cons a ih
theorem pys_mem' {ds : List D} {x : PyData} (h : x ∈ D.pys ds) : ∃ d ∈ ds, d.py = x := by
  induction ds with
  | nil => cases h
  | cons d ds ih =>
    rcases List.mem_cons.1 h with rfl | h
    · exact ⟨d, List.mem_cons_self, rfl⟩
    · obtain ⟨e, he, q⟩ := ih h
      exact ⟨e, List.mem_cons_of_mem _ he, q⟩
theorem cr_sortD {X : Cx} (hu : X.A.units + 64 < cLine) : CallR X (.builtin "sorted") (rSortD X.K) := by
  intro pins s σ H vs us Q I r h
  obtain ⟨a, ys, ds, rfl, hs, hd, hc, hal, hdp, q⟩ := h
  rw [Vals.ref1 r]
  have main : ∀ its : List Value, Vals ys its → its.length ≤ sizeLine → ∀ out, EachIs (fun v (b : V × D) => RelV b.1 v) out ((ys.zip ds).mergeSort (dataLe false fun b => b.2.py)) →
      ∃ (v : V) (H' : Hp), Inv X pins σ H' { s with heap := sortedAll s.heap its out.toArray } ∧ RelV v (.ref (s.heap.objs.size + 1)) ∧ Q v H' := fun its rv hz out he => by
    obtain ⟨ep, he'⟩ := PyProof.Rows.sortedAll_at s.heap its out.toArray
    obtain ⟨z1, z2, z3, z4⟩ := zip_each I (ds := ds) rv hd
    have hpm := List.mergeSort_perm (ys.zip ds) (dataLe false fun b => b.2.py)
    have hlen : (((ys.zip ds).mergeSort (dataLe false fun b => b.2.py)).map (·.1)).length ≤ sizeLine := by
      rw [List.length_map, hpm.length_eq, ← z1.length]; exact hz
    refine ⟨.ref _, upd H (s.heap.objs.size + 1) (.lst (((ys.zip ds).mergeSort (dataLe false fun b => b.2.py)).map (·.1))), I.laid (t' := s.toks) (fun _ _ => PyProof.Rows.sortedAll_old) (Nat.le_succ _) ⟨hlen, out, ep, each_vals he, he'⟩, rfl, q _ _ hpm ?_ (I.hok.fresh (Nat.le_succ _))⟩
    have := List.pairwise_mergeSort (le := dataLe false fun b : V × D => b.2.py) (fun a b c => (PySem.W.sortLe_total _ _ _).trans a b c) (fun a b => Bool.or_eq_true_iff.2 ((PySem.W.sortLe_total _ _ _).total a b)) (ys.zip ds)
    refine this.imp fun {a b} hab => ?_
    have hab' : (!dataLt b.2.py a.2.py) = true := hab
    simpa using hab'
  have hsrt : ∀ its : List Value, Vals ys its → Sortable ((ys.zip ds).map fun b => b.2.py) ∧ AllAlike ((ys.zip ds).map fun b => b.2.py) ∧ ∀ b ∈ ys.zip ds, b.2.py.depth ≤ 50 := fun its rv => by
    obtain ⟨_, _, z3, _⟩ := zip_each I (ds := ds) rv hd
    rw [z3]
    refine ⟨.inl fun d h => ?_, hal, fun b hb => hdp _ (List.of_mem_zip hb).2⟩
    obtain ⟨e, he, rfl⟩ := pys_mem' h
    exact hc e he
  rcases hs with hs | hs
  · obtain ⟨its, rv, hl, hz⟩ := I.list hs
    obtain ⟨z1, z2, z3, z4⟩ := zip_each I (ds := ds) rv hd
    obtain ⟨s1, s2, s3⟩ := hsrt its rv
    have hz' : its.length ≤ sizeLine := by rw [← rv.length]; exact hz
    refine sorted_data hl.isList z1 z2 s2 s1 (by rw [← z1.length]; exact hz') (fun b hb => ?_) fun out _ he => main its rv hz' out he
    have := s3 b hb
    omega
  · obtain ⟨its, rv, hl, hz⟩ := I.tuple hs
    obtain ⟨z1, z2, z3, z4⟩ := zip_each I (ds := ds) rv hd
    obtain ⟨s1, s2, s3⟩ := hsrt its rv
    have hz' : its.length ≤ sizeLine := by rw [← rv.length]; exact hz
    refine sorted_dataT hl z1 z2 s2 s1 (by rw [← z1.length]; exact hz') (fun b hb => ?_) fun out _ he => main its rv hz' out he
    have := s3 b hb
    omega
def SrtD (ds : List D) : Prop := D.noVals ds = true ∧ (∀ d ∈ ds, ∃ x r, d.py = .tuple (x :: r)) ∧ AllAlike (D.pys ds) ∧ ∀ d ∈ ds, d.py.depth ≤ 50
def fSortD : List D → (Sl → Prop) → Prop
  | [.lst ds], Q => SrtD ds ∧ ∀ (ds' : List D) (a : Addr), ds'.Perm ds → ds'.Pairwise (fun x y => dataLt y.py x.py = false) → Q (.lst a ds')
  | [.tup ds], Q => SrtD ds ∧ ∀ (ds' : List D) (a : Addr), ds'.Perm ds → ds'.Pairwise (fun x y => dataLt y.py x.py = false) → Q (.lst a ds')
  | _, _ => False
theorem reps_dpall {K : PySem.W.Frag} {H : Hp} : ∀ {ds : List D} {vs : List V}, D.noVals ds = true → Reps K H ds vs → DpAll K H vs (D.pys ds)
  | [], vs, _, h => by
    have e : vs = [] := h
    subst e
    exact .nil
  | d :: ds, vs, hn, h => by
    obtain ⟨v, r, rfl, h1, h2⟩ := h
    have hn' : (d.noVal && D.noVals ds) = true := hn
    rw [Bool.and_eq_true] at hn'
    exact .cons (Rep.dp hn'.1 h1) (reps_dpall hn'.2 h2)
theorem reps_zip {K : PySem.W.Frag} {F : Hp} : ∀ {ds : List D} {vs : List V}, Reps K F ds vs → (vs.zip ds).map (·.2) = ds ∧ ∀ b ∈ vs.zip ds, Rep K F b.2 b.1
  | [], vs, h => by
    have e : vs = [] := h
    subst e
    exact ⟨rfl, fun b hb => nomatch hb⟩
  | d :: ds, vs, h => by
    obtain ⟨v, r, rfl, h1, h2⟩ := h
    obtain ⟨i1, i2⟩ := reps_zip h2
    refine ⟨congrArg (d :: ·) i1, fun b hb => ?_⟩
    rcases List.mem_cons.1 hb with rfl | hb
    · exact h1
    · exact i2 b hb
theorem reps_of_zip {K : PySem.W.Frag} {F : Hp} : ∀ {zs : List (V × D)}, (∀ b ∈ zs, Rep K F b.2 b.1) → Reps K F (zs.map (·.2)) (zs.map (·.1))
  | [], _ => rfl
  | b :: zs, h => .cons (h b List.mem_cons_self) (reps_of_zip fun c hc => h c (List.mem_cons_of_mem _ hc))
theorem b_sortD : BR "sorted" fSortD := ⟨fun _ _ K => rSortD K, fun _ _ K F H vs ds Q R fh hr hf ha => by
    unfold fSortD at hf
    have main : ∀ (es : List D) (us : List V) (b : Addr), Reps K F es us → (SqL K H b us ∨ SqT K H b us) → SrtD es → (∀ (ds' : List D) (a : Addr), ds'.Perm es → ds'.Pairwise (fun x y => dataLt y.py x.py = false) → Q (.lst a ds')) → rSortD K [V.ref b] H R := fun es us b hr hs ⟨n1, n2, n3, n4⟩ q => by
      refine ⟨b, us, es, rfl, hs, ?_, n2, n3, n4, fun zs p hpm hsr hp => ?_⟩
      · exact reps_dpall n1 (hr.same fh)
      · obtain ⟨y1, y2⟩ := reps_zip hr
        have := ha.lst fh hp (reps_of_zip fun b hb => y2 b (hpm.mem_iff.1 hb)) (q (zs.map (·.2)) p (by
          have := hpm.map (·.2)
          rw [y1] at this
          exact this) (by rw [List.pairwise_map]; exact hsr))
        exact this
    split at hf
    · obtain ⟨v, rfl, r⟩ := hr.one
      obtain ⟨n, q⟩ := hf
      obtain ⟨a, vs, rfl, e1, r1⟩ := r.lst fh
      exact main _ _ _ r1 (.inl (SqL.of e1)) n q
    · obtain ⟨v, rfl, r⟩ := hr.one
      obtain ⟨n, q⟩ := hf
      obtain ⟨a, vs, rfl, e1, _, r1⟩ := r.tup fh
      exact main _ _ _ r1 (.inr e1) n q
    · exact hf.elim, fun X _ hu => cr_sortD hu⟩
end HD
namespace HD
open PySem PyProof.Rows L2
open PySem.W (dataLt dataLe EachIs AllAlike Sortable SortsAt dataKind alike alikeAll looks_reads dataKind_some dataKind_inv)
open PySem.SeqAt (EqAt RcLt firstLt)
open PySem.Calls
open PySem.W (Looks)
section
variable {prog : Program} {w : World} {A : Around} {E : Value → Shared → Prop} {s : Shared}
theorem call_tuple_lt {Q : Value → Shared → Prop} {l b : Addr} {items items2 : Array Value} {e r : Nat → Bool} (hl : s.heap.IsTuple l items) (hb : s.heap.IsTuple b items2)
    (he : ∀ j (h1 : j < items.size) (h2 : j < items2.size), EqAt A.in1 s items[j] items2[j] (e j)) (hr : ∀ j (h1 : j < items.size) (h2 : j < items2.size), e j = false → RcLt A.in1 s items[j] items2[j] (r j))
    (h : Q (.bool (firstLt e r (decide (items.size < items2.size)) (List.range (min items.size items2.size)))) s) : wpAny (model prog w) A (call (.builtin "tuple.__lt__") [.ref l, .ref b]) Q E s := by
  obtain ⟨⟨cls, dd, data, sl⟩, ho, hc, n, hd⟩ := id hl
  obtain ⟨⟨cls2, dd2, data2, sl2⟩, ho2, hc2, n2, hd2⟩ := id hb
  simp only at hc hd hc2 hd2
  subst hc hd hc2 hd2
  exact call_meets PySem.F.slot_tuple_lt ⟨_, ho, rfl⟩ PySem.F.entry_tuple_lt (PySem.F.args_tuple_lt_2 _ _) (PySem.SeqAt.tuple_ltAt l b items items2 n n2 dd dd2 sl sl2 e r) ⟨ho, ho2, he, hr, h⟩
theorem oneLt_tup {xs ys : List PyData} {a b : Value} {as bs : List Addr} {Q : Bool → Shared → Prop} (ra : Reads s.heap a (.tuple xs) as) (rb : Reads s.heap b (.tuple ys) bs) (hal : alikeAll xs ys = true)
    (hu : A.units + min (PyData.tuple xs).depth (PyData.tuple ys).depth < cLine) (hq : Q (dataLt (.tuple xs) (.tuple ys)) s) : wpAny (model prog w) A (oneLt' true a b) Q E s := by
  cases ra with
  | @tuple l o vs n _ as₁ h1 h2 h3 h4 =>
    cases rb with
    | @tuple l' o' vs' n' _ bs₁ k1 k2 k3 k4 =>
      have n1 : vs.size = xs.length := by simpa using PySem.SeqAt.ReadsAll.length _ _ _ h4
      have n2 : vs'.size = ys.length := by simpa using PySem.SeqAt.ReadsAll.length _ _ _ k4
      rw [PySem.W.dataLt_tuple, ← PySem.W.firstLt_toks xs ys hal, ← n1, ← n2] at hq
      rw [oneLt'_eq]
      simp only [if_true]
      refine wpAny_bind (wpAny_cRoomFor (PySem.SeqAt.room_here hu) ?_)
      refine wpAny_bind (wpAny_callSpecialIfBound?_slot (T := "tuple") ⟨_, h1, h2⟩ PySem.F.slot_tuple_lt (call_tuple_lt (e := PySem.SeqAt.pairEq xs ys) (r := fun j => dataLt (xs.getD j .none) (ys.getD j .none)) ⟨_, h1, h2, _, h3⟩ ⟨_, k1, k2, _, k3⟩ (fun j j1 j2 => ?_) (fun j j1 j2 hj => ?_) ?_))
      · have := PySem.W.eqAt_alikeAll xs ys A.in1 s vs.toList vs'.toList _ _ h4 k4 hal (PySem.SeqAt.room_in hu) j (by simpa using j1) (by simpa using j2)
        simpa using this
      · have := PySem.W.rcLt_alikeAll xs ys A.in1 s vs.toList vs'.toList _ _ h4 k4 hal (PySem.SeqAt.room_in hu) j (by simpa using j1) (by simpa using j2) hj
        simpa using this
      · exact wpAny_truthy_bool hq
def Firsts (h : Heap) : List Value → List (Option Value) → Prop
  | [], [] => True
  | v :: vs, f :: fs => (∃ a o xs n, v = .ref a ∧ h.get? a = some o ∧ o.cls = .type "tuple" ∧ o.data = .seq xs n ∧ xs[0]? = f) ∧ Firsts h vs fs
  | _, _ => False
end
section
variable {M : Model} {A : Around} {E : Value → Shared → Prop} {s : Shared}
theorem firsts_ok : ∀ (vs : List Value) (fs : List (Option Value)) {Q : List (Option Value) → Shared → Prop}, Firsts s.heap vs fs → Q fs s → wpAny M A (vs.mapM firstOfTuple') Q E s
  | [], [], _, _, h => by rw [List.mapM_nil]; exact wpAny_pure h
  | [], _ :: _, _, t, _ => t.elim
  | _ :: _, [], _, t, _ => t.elim
  | v :: vs, f :: fs, Q, t, h => by
    obtain ⟨⟨a, o, xs, n, rfl, ho, hc, hd, hf⟩, t⟩ := t
    rw [List.mapM_cons]
    refine wpAny_bind ?_
    rw [PySem.W.kas_first_eq]
    refine wpAny_bind (Looks.here (show Looks M s.heap (typeOf (.ref a)) o.cls from (Looks.ld ho).andThen .now) ?_)
    rw [hc, if_neg (by first | decide | simp)]
    refine wpAny_bind (listItems_at ho hd (wpAny_pure ?_))
    rw [hf]
    exact wpAny_bind (firsts_ok vs fs (Q := fun bs s' => wpAny M A (pure (f :: bs)) Q E s') t (wpAny_pure h))
theorem firsts_looks {h : Heap} : ∀ {vs : List Value} {fs : List (Option Value)}, Firsts h vs fs → ∀ v ∈ vs, Looks M h (typeOf v) (.type "tuple")
  | [], _, _, v, hv => nomatch hv
  | _ :: _, [], t, _, _ => t.elim
  | u :: vs, f :: fs, t, v, hv => by
    obtain ⟨⟨a, o, xs, n, rfl, ho, hc, hd, hf⟩, t⟩ := t
    rcases List.mem_cons.1 hv with rfl | hv
    · exact hc ▸ (Looks.ld ho).andThen .now
    · exact firsts_looks t v hv
theorem kind_empty {vs : List Value} {fs : List (Option Value)} {Q : SortKind → Shared → Prop} (t : Firsts s.heap vs (none :: fs)) (h : Q oneType' s) : wpAny M A (keyKind' vs.toArray) Q E s := by
  rw [kat_kind_eq, List.mapM_toArray, map_eq_pure_bind]
  refine wpAny_bind (wpAny_bind (firsts_ok vs _ t (wpAny_pure ?_)))
  rw [if_neg (by simp), if_neg (by simp)]
  have hT := firsts_looks (M := M) t
  obtain ⟨v₁, rest, rfl⟩ : ∃ v₁ rest, vs = v₁ :: rest := by
    cases vs with
    | nil => exact t.elim
    | cons a b => exact ⟨a, b, rfl⟩
  rw [oneTypeOnly'_eq, List.mapM_toArray, map_eq_pure_bind]
  refine wpAny_bind (wpAny_bind (wpAny_bind (PySem.W.kas_mapM (r := .type "tuple") _ (fun v hv Q' hq => (hT v hv).here hq) (wpAny_pure ?_))))
  have hall : ((List.map (fun _ => Value.type "tuple") (v₁ :: rest)).toArray.all fun x => x == Value.type "tuple") = true := by
    simp only [List.all_toArray, List.all_map, List.all_eq_true]
    intro _ _
    exact beq_self_eq_true _
  have h0 : (List.map (fun _ => Value.type "tuple") (v₁ :: rest)).toArray[0]? = some (Value.type "tuple") := by simp
  rw [h0]
  simp only [hall, if_true]
  exact wpAny_pure (wpAny_pure h)
end
theorem each_firsts {h : Heap} : ∀ {vs : List Value} {ds : List PyData}, EachIs (fun v d => ∃ as, Reads h v d as) vs ds → (∀ d ∈ ds, ∃ xs, d = .tuple xs) → ∃ fs, Firsts h vs fs ∧ ∀ ds' : List PyData, ds = .tuple [] :: ds' → ∃ fs', fs = none :: fs'
  | _, _, .nil, _ => ⟨[], trivial, fun _ e => nomatch e⟩
  | _, _, .cons (b := d) ⟨as, r⟩ t, ht => by
    obtain ⟨fs, h1, _⟩ := each_firsts t fun d hd => ht d (List.mem_cons_of_mem _ hd)
    obtain ⟨xs, rfl⟩ := ht d List.mem_cons_self
    cases r with
    | @tuple a o vs n _ _ ho hc hd hr =>
      refine ⟨vs[0]? :: fs, ⟨⟨a, o, vs, n, rfl, ho, hc, hd, rfl⟩, h1⟩, fun ds' e => ⟨fs, ?_⟩⟩
      obtain ⟨e1, e2⟩ := List.cons.inj e
      rw [PyData.tuple.inj e1] at hr
      have := PySem.SeqAt.ReadsAll.length _ _ _ hr
      have : vs.size = 0 := by simpa using this
      rw [Array.getElem?_eq_none (by omega)]
section
variable {prog : Program} {w : World} {A : Around} {s : Shared}
theorem sortsAt_empty {vs : List Value} {ds : List PyData} (e : EachIs (fun v d => ∃ as, Reads s.heap v d as) vs (.tuple [] :: ds)) (hal : AllAlike (.tuple [] :: ds)) (ht : ∀ d ∈ PyData.tuple [] :: ds, ∃ xs, d = .tuple xs)
    (hu : ∀ d, d ∈ PyData.tuple [] :: ds → A.units + d.depth < cLine) : SortsAt prog w A s (dataKind s.heap (.tuple [] :: ds)) vs := by
  have room : ∀ {d d' : PyData}, d ∈ PyData.tuple [] :: ds → A.units + min d.depth d'.depth < cLine := fun {d d'} hd => Nat.lt_of_le_of_lt (Nat.add_le_add_left (Nat.min_le_left _ _) _) (hu d hd)
  refine ⟨fun v hv => ?_, oneType', ?_, fun h2 E Q hq => ?_⟩
  · obtain ⟨d, hd, as, r⟩ := e.left v hv
    exact ⟨_, dataKind_some hal hd r⟩
  · intro E x y a b Q ha hb hq
    obtain ⟨d, as, hd, ra, rfl⟩ := dataKind_inv ha
    obtain ⟨d', as', hd', rb, rfl⟩ := dataKind_inv hb
    obtain ⟨xs, rfl⟩ := ht d hd
    obtain ⟨ys, rfl⟩ := ht d' hd'
    rw [keyLt'_oneType]
    exact oneLt_tup ra rb (by simpa [alike] using hal _ hd _ hd') (room hd) hq
  · obtain ⟨fs, t1, t2⟩ := each_firsts e ht
    obtain ⟨fs', rfl⟩ := t2 ds rfl
    exact kind_empty t1 hq
end
section
variable {prog : Program} {w : World} {A : Around} {E : Value → Shared → Prop} {s : Shared}
theorem sorted_dataE {β : Type} {R : Value → β → Prop} {enc : β → PyData} {vs : List Value} {bs : List β} {ds : List PyData} {l : Addr} {Q : Value → Shared → Prop} (hl : s.heap.IsList l vs.toArray) (e : EachIs R vs bs) (er : EachIs (fun v b => ∃ as, Reads s.heap v (enc b) as) vs bs)
    (hb : bs.map enc = .tuple [] :: ds) (hal : AllAlike (bs.map enc)) (ht : ∀ d ∈ bs.map enc, ∃ xs, d = .tuple xs) (hL : bs.length ≤ sizeLine) (hu : ∀ b, b ∈ bs → A.units + 2 + (enc b).depth < cLine)
    (h : ∀ out, out.length = bs.length → EachIs R out (bs.mergeSort (dataLe false enc)) → Q (.ref (s.heap.objs.size + 1)) { s with heap := sortedAll s.heap vs (List.toArray out) }) :
    wpAny (model prog w) A (call (.builtin "sorted") [.ref l]) Q E s := by
  have er' : EachIs (fun v b => ∃ as, Reads (PySem.W.sortingHeap (PySem.W.copyHeap s.heap vs) (s.heap.objs.size + 1) vs) v (enc b) as) vs bs := er.mono fun _ _ ⟨as, r⟩ => ⟨as, PyProof.Rows.Reads.keeps (fun _ _ => PySem.W.sorting_copy_old) r⟩
  have em := PySem.W.each_map (R := fun v d => ∃ as, Reads (PySem.W.sortingHeap (PySem.W.copyHeap s.heap vs) (s.heap.objs.size + 1) vs) v d as) enc er'
  have S := sortsAt_empty (prog := prog) (w := w) (A := A.in1.in1) (s := { s with heap := PySem.W.sortingHeap (PySem.W.copyHeap s.heap vs) (s.heap.objs.size + 1) vs }) (vs := vs) (ds := ds) (by rw [← hb]; exact em) (by rw [← hb]; exact hal) (by rw [← hb]; exact ht) (by
    rw [← hb]
    exact PySem.W.bound_map hu)
  rw [← hb] at S
  exact PySem.W.sorted_vals hl S (by rw [e.length]; exact hL) (h _ (by rw [PySem.W.sortVals_length false rfl]; exact e.length) (PySem.W.sortVals_data false e er' hal))
end
def rSortE (K : PySem.W.Frag) : List V → Hp → VK → Prop := fun vs H Q => ∃ (a : Addr) (us : List V) (ds : List D) (es : List D), vs = [V.ref a] ∧ SqL K H a us ∧ DpAll K H us (D.pys ds) ∧ ds = .tup [] :: es ∧
  (∀ d ∈ ds, ∃ x, d.py = .tuple x) ∧ AllAlike (D.pys ds) ∧ (∀ d ∈ ds, d.py.depth ≤ 50) ∧
  ∀ (zs : List (V × D)) (p : Addr), zs.Perm (us.zip ds) → zs.Pairwise (fun a b => dataLt b.2.py a.2.py = false) → H p = none → Q (.ref p) (upd H p (.lst (zs.map (·.1))))
theorem cr_sortE {X : Cx} (hu : X.A.units + 64 < cLine) : CallR X (.builtin "sorted") (rSortE X.K) := by
  intro pins s σ H vs us Q I r h
  obtain ⟨a, ys, ds, es, rfl, hs, hd, hes, hc, hal, hdp, q⟩ := h
  rw [Vals.ref1 r]
  have main : ∀ its : List Value, Vals ys its → its.length ≤ sizeLine → ∀ out, EachIs (fun v (b : V × D) => RelV b.1 v) out ((ys.zip ds).mergeSort (dataLe false fun b => b.2.py)) →
      ∃ (v : V) (H' : Hp), Inv X pins σ H' { s with heap := sortedAll s.heap its out.toArray } ∧ RelV v (.ref (s.heap.objs.size + 1)) ∧ Q v H' := fun its rv hz out he => by
    obtain ⟨ep, he'⟩ := PyProof.Rows.sortedAll_at s.heap its out.toArray
    obtain ⟨z1, z2, z3, z4⟩ := zip_each I (ds := ds) rv hd
    have hpm := List.mergeSort_perm (ys.zip ds) (dataLe false fun b => b.2.py)
    have hlen : (((ys.zip ds).mergeSort (dataLe false fun b => b.2.py)).map (·.1)).length ≤ sizeLine := by
      rw [List.length_map, hpm.length_eq, ← z1.length]; exact hz
    refine ⟨.ref _, upd H (s.heap.objs.size + 1) (.lst (((ys.zip ds).mergeSort (dataLe false fun b => b.2.py)).map (·.1))), I.laid (t' := s.toks) (fun _ _ => PyProof.Rows.sortedAll_old) (Nat.le_succ _) ⟨hlen, out, ep, each_vals he, he'⟩, rfl, q _ _ hpm ?_ (I.hok.fresh (Nat.le_succ _))⟩
    have := List.pairwise_mergeSort (le := dataLe false fun b : V × D => b.2.py) (fun a b c => (PySem.W.sortLe_total _ _ _).trans a b c) (fun a b => Bool.or_eq_true_iff.2 ((PySem.W.sortLe_total _ _ _).total a b)) (ys.zip ds)
    refine this.imp fun {a b} hab => ?_
    have hab' : (!dataLt b.2.py a.2.py) = true := hab
    simpa using hab'
  obtain ⟨its, rv, hl, hz⟩ := I.list hs
  obtain ⟨z1, z2, z3, z4⟩ := zip_each I (ds := ds) rv hd
  have hz' : its.length ≤ sizeLine := by rw [← rv.length]; exact hz
  refine sorted_dataE (ds := D.pys es) hl.isList z1 z2 (by rw [z3, hes]; rfl) (by rw [z3]; exact hal) (fun d hd' => ?_) (by rw [← z1.length]; exact hz') (fun b hb => ?_) fun out _ he => main its rv hz' out he
  · rw [z3] at hd'
    obtain ⟨d', hd2, rfl⟩ := pys_mem' hd'
    exact hc d' hd2
  · have := hdp _ (List.of_mem_zip hb).2
    omega
def SrtE (ds : List D) : Prop := D.noVals ds = true ∧ (∃ es, ds = .tup [] :: es) ∧ (∀ d ∈ ds, ∃ x, d.py = .tuple x) ∧ AllAlike (D.pys ds) ∧ ∀ d ∈ ds, d.py.depth ≤ 50
def fSortE : List D → (Sl → Prop) → Prop
  | [.lst ds], Q => SrtE ds ∧ ∀ (ds' : List D) (a : Addr), ds'.Perm ds → ds'.Pairwise (fun x y => dataLt y.py x.py = false) → Q (.lst a ds')
  | _, _ => False
theorem b_sortE : BR "sorted" fSortE := ⟨fun _ _ K => rSortE K, fun _ _ K F H vs ds Q R fh hr hf ha => by
    unfold fSortE at hf
    split at hf
    · obtain ⟨v, rfl, r⟩ := hr.one
      obtain ⟨⟨n1, ⟨es, n2⟩, n3, n4, n5⟩, q⟩ := hf
      obtain ⟨a, us, rfl, e1, r1⟩ := r.lst fh
      refine ⟨a, us, _, es, rfl, SqL.of e1, reps_dpall n1 (r1.same fh), n2, n3, n4, n5, fun zs p hpm hsr hp => ?_⟩
      obtain ⟨y1, y2⟩ := reps_zip r1
      exact ha.lst fh hp (reps_of_zip fun b hb => y2 b (hpm.mem_iff.1 hb)) (q (zs.map (·.2)) p (by
        have := hpm.map (·.2)
        rw [y1] at this
        exact this) (by rw [List.pairwise_map]; exact hsr))
    · exact hf.elim, fun X _ hu => cr_sortE hu⟩
end HD
namespace HD
open PySem PyProof.Rows L2
open PySem.W (dataLt dataLe EachIs AllAlike Sortable KeyPure sorted_key_data)
def dlen : D → Nat
  | .tup es => es.length
  | _ => 0
def rSortLen (K : PySem.W.Frag) : List V → Hp → VK → Prop := fun vs H Q => ∃ (a : Addr) (us : List V) (ds : List D), vs = [V.ref a] ∧ SqL K H a us ∧ DpAll K H us (D.pys ds) ∧
  (∀ d ∈ ds, ∃ es, d = .tup es ∧ es.length ≤ 100000) ∧
  ∀ (zs : List (V × D)) (p : Addr), zs.Perm (us.zip ds) → zs.Pairwise (fun a b => dlen a.2 ≤ dlen b.2) → H p = none → Q (.ref p) (upd H p (.lst (zs.map (·.1))))
def CallRL (X : Cx) (r : List V → Hp → VK → Prop) : Prop :=
  ∀ (pins : List (Addr × Obj)) (s : Shared) (σ : L2.St) (H : Hp) (xs : List V) (us : List Value) (Q : VK), Inv X pins σ H s → Vals xs us → r xs H Q → wpAny (model X.prog X.w) X.A (call (.builtin "sorted") us [(Str.ofString "key", .builtin "len")]) (EP X pins σ Q) X.xe s
theorem each_and {α β : Type} {R T : α → β → Prop} : ∀ {as : List α} {bs : List β}, EachIs R as bs → EachIs T as bs → EachIs (fun a b => R a b ∧ T a b) as bs
  | _, _, .nil, .nil => .nil
  | _, _, .cons h t, .cons h' t' => .cons ⟨h, h'⟩ (each_and t t')
theorem pys_len (es : List D) : (D.pys es).length = es.length := by
  induction es with
  | nil => rfl
  | cons e es ih => exact congrArg (· + 1) ih
theorem cr_sortLen {X : Cx} (hu : X.A.units + 64 < cLine) : CallRL X (rSortLen X.K) := by
  intro pins s σ H vs us Q I r h
  obtain ⟨a, ys, ds, rfl, hs, hd, hc, q⟩ := h
  rw [Vals.ref1 r]
  obtain ⟨its, rv, hl, hz⟩ := I.list hs
  obtain ⟨z1, z2, z3, z4⟩ := zip_each I (ds := ds) rv hd
  have hz' : its.length ≤ sizeLine := by rw [← rv.length]; exact hz
  have ek : (ys.zip ds).map (fun b => PyData.int (dlen b.2 : Nat)) = ((ys.zip ds).map fun b => dlen b.2).map fun n : Nat => PyData.int (n : Int) := by rw [List.map_map]; rfl
  refine sorted_key_data (R := fun v (b : V × D) => RelV b.1 v ∧ ∃ as, Reads s.heap v b.2.py as) (b := false) (fun b : V × D => PyData.int (dlen b.2 : Nat)) hl.isList (each_and z1 z2) ?_ (.inr ?_) (by rw [← z1.length]; exact hz') ?_ (ksk_s1 _ _) (fun x => ksk_l1 _ _) (fun x => ksk_t4 "len" x) ?_ ?_
  · intro d hd d' hd'
    obtain ⟨b, _, rfl⟩ := List.mem_map.1 hd
    obtain ⟨b', _, rfl⟩ := List.mem_map.1 hd'
    rfl
  · intro d hd
    obtain ⟨b, _, rfl⟩ := List.mem_map.1 hd
    exact ⟨PyData.noConfusion, fun xs => PyData.noConfusion⟩
  · intro x hx
    show X.A.units + 2 + 0 < cLine
    omega
  · rintro v x ⟨hr, as, rd⟩ hx h tk hk
    obtain ⟨es, e, hel⟩ := hc x.2 (List.of_mem_zip hx).2
    rw [e] at rd
    have rd : Reads s.heap v (.tuple (D.pys es)) as := rd
    cases rd with
    | @tuple l o us n _ _ h1 h2 h3 h4 =>
      have n1 : us.size = (D.pys es).length := by simpa using PySem.SeqAt.ReadsAll.length _ _ _ h4
      have n2 : (D.pys es).length = es.length := pys_len es
      have hfit : ((us.size : Nat) : Int) < 2 ^ 63 := by rw [n1, n2]; exact Int.lt_of_le_of_lt (Int.ofNat_le.2 hel) (by decide)
      refine len_tuple (s := { s with heap := h, toks := tk }) ⟨o, hk _ _ h1, h2, n, h3⟩ hfit ?_
      refine ⟨h, _, rfl, fun _ _ e => e, ?_⟩
      rw [n1, n2, e]
      exact .int _ _
  · intro out c h' tk hk hf hob hlen he
    have hpm := List.mergeSort_perm (ys.zip ds) (dataLe false fun b : V × D => PyData.int (dlen b.2 : Nat))
    have hlen : (((ys.zip ds).mergeSort (dataLe false fun b => PyData.int (dlen b.2 : Nat))).map (·.1)).length ≤ sizeLine := by
      rw [List.length_map, hpm.length_eq, ← z1.length]; exact hz'
    refine ⟨.ref _, upd H (s.heap.objs.size + 1) (.lst (((ys.zip ds).mergeSort (dataLe false fun b => PyData.int (dlen b.2 : Nat))).map (·.1))), I.laid (t' := tk) hk (Nat.le_succ _) ⟨hlen, out, c, each_vals (he.mono fun _ _ z => z.1), hob⟩, rfl, q _ _ hpm ?_ (I.hok.fresh (Nat.le_succ _))⟩
    have := List.pairwise_mergeSort (le := dataLe false fun b : V × D => PyData.int (dlen b.2 : Nat)) (fun a b c => (PySem.W.sortLe_total _ _ _).trans a b c) (fun a b => Bool.or_eq_true_iff.2 ((PySem.W.sortLe_total _ _ _).total a b)) (ys.zip ds)
    refine this.imp fun {a b} hab => ?_
    have e := congrFun (congrFun (PySem.W.dataLe_int fun b : V × D => ((dlen b.2 : Nat) : Int)) a) b
    rw [e, decide_eq_true_eq] at hab
    omega
section
variable {X : Cx} {p p2 kp pos : Pos} {e : Expr} {es : List Expr} {t : TA} {r : List V → Hp → VK → Prop}
theorem pe_sortLen (hc : CallRL X r) (hg : Gl X ("sorted" : Str)) (hm : X.mg ("sorted" : Str) = none) (hg2 : Gl X ("len" : Str)) (hm2 : X.mg ("len" : Str) = none) (ha : PA X (e :: es) t)
    (he : backTo pos (starEach (e :: es) X.env) = (false, eval e X.env) :: backTo pos (starEach es X.env)) (hpl : (backTo pos (starEach (e :: es) X.env)).any (·.1) = false) :
    PE X (.Call (.Name ("sorted" : Str) p) (e :: es) [⟨some (Str.ofString "key"), .Name ("len" : Str) p2, kp⟩] pos) (tCB r t) := by
  refine ⟨fun pins s σ H Q I h => ?_⟩
  refine wpAny_Call_Name_kw (ld_blt (u := .builtin "sorted") I hg hm (by decide +kernel) ?_)
  refine PyProof.Rows.callWith_kw (thn (ha.run pos pins s σ H _ I h) fun us s1 ⟨vs, H1, I1, r1, q1⟩ => ?_) he hpl
  refine wpAny_evalAll_cons (wpAny_bind (ld_blt (u := .builtin "len") I1 hg2 hm2 (by decide +kernel) (wpAny_bind (wpAny_standAt (wpAny_pure (wpAny_evalAll_nil ?_))))))
  exact hc pins s1 σ H1 vs us Q I1 r1 q1
end
def fSortLen : List D → (Sl → Prop) → Prop
  | [.lst ds], Q => D.noVals ds = true ∧ (∀ d ∈ ds, ∃ es, d = .tup es ∧ es.length ≤ 100000) ∧ ∀ (ds' : List D) (a : Addr), ds'.Perm ds → ds'.Pairwise (fun x y => dlen x ≤ dlen y) → Q (.lst a ds')
  | _, _ => False
theorem pr_sortLen {K : PySem.W.Frag} : Pr K (rSortLen K) fSortLen := fun F H vs ds Q R fh hr hf ha => by
  unfold fSortLen at hf
  split at hf
  · obtain ⟨v, rfl, r⟩ := hr.one
    obtain ⟨n1, n2, q⟩ := hf
    obtain ⟨a, us, rfl, e1, r1⟩ := r.lst fh
    refine ⟨a, us, _, rfl, SqL.of e1, reps_dpall n1 (r1.same fh), n2, fun zs p hpm hsr hp => ?_⟩
    obtain ⟨y1, y2⟩ := reps_zip r1
    exact ha.lst fh hp (reps_of_zip fun b hb => y2 b (hpm.mem_iff.1 hb)) (q (zs.map (·.2)) p (by
      have := hpm.map (·.2)
      rw [y1] at this
      exact this) (by rw [List.pairwise_map]; exact hsr))
  · exact hf.elim
section
variable {G : GG} {N : List Str} {sc : SC} {k : Nat} {e : Expr} {es : List Expr} {t : DTA} {p p2 kp pos : Pos}
theorem de_sortLen (hm : G.mg ("sorted" : Str) = none) (hm2 : G.mg ("len" : Str) = none) (ha : DAs G N sc k (e :: es) t) (hg : GlS sc ("sorted" : Str) := by rfl) (hg2 : GlS sc ("len" : Str) := by rfl)
    (he : NoStar e es := by intro _; rfl) (hpl : ∀ env, (backTo pos (starEach (e :: es) env)).any (·.1) = false := by intro _; rfl) :
    DE G N sc k (.Call (.Name ("sorted" : Str) p) (e :: es) [⟨some (Str.ofString "key"), .Name ("len" : Str) p2, kp⟩] pos) (dCB fSortLen t) := ⟨fun W => by
  obtain ⟨ta, p1, i1⟩ := ha.ex W
  refine ⟨tCB (rSortLen G.K) ta, fun X S => ?_, im_cb pr_sortLen i1⟩
  have c := cr_sortLen (X := X) S.units
  rw [S.K] at c
  exact pe_sortLen c (S.gl hg) (by rw [S.mg]; exact hm) (S.gl hg2) (by rw [S.mg]; exact hm2) (p1 X S) (by rw [he X.env]; rfl) (hpl _)⟩
end
end HD
namespace HD
open PySem L2
abbrev Cells := List (Addr × OC)
def putC (cs : Cells) (b : Addr) (oc : OC) : Cells := cs.map fun p => if p.1 = b then (b, oc) else p
theorem putC_keys (cs : Cells) (b : Addr) (oc : OC) : (putC cs b oc).map (·.1) = cs.map (·.1) := by
  unfold putC
  rw [List.map_map]
  refine List.map_congr_left fun p _ => ?_
  show (if p.1 = b then (b, oc) else p).1 = p.1
  split
  · rename_i h
    exact h.symm
  · rfl
section
variable {K : PySem.W.Frag} {e : Ent} {env env' : Env'} {T T' : Tmp} {F : Hp} {σ : L2.St} {H : Hp}
theorem cells_write {v : V} {d : D} {cs : Cells} {b : Addr} {oc : OC} {o : HO} (h : SlOk K F H v (.reg d cs)) (ok : OC.ok K F b oc o) : SlOk K F (upd H b o) v (.reg d (putC cs b oc)) := by
  obtain ⟨h1, h2, h3⟩ := h
  refine ⟨h1, by rw [putC_keys]; exact h2, fun p hp => ?_⟩
  obtain ⟨q, hq, rfl⟩ := List.mem_map.1 hp
  obtain ⟨n, o', ho, okc⟩ := h3 q hq
  show F (if q.1 = b then (b, oc) else q).1 = none ∧ ∃ o1, upd H b o (if q.1 = b then (b, oc) else q).1 = some o1 ∧ OC.ok K F (if q.1 = b then (b, oc) else q).1 (if q.1 = b then (b, oc) else q).2 o1
  split
  · rename_i z
    exact ⟨by rw [← z]; exact n, o, upd_same, ok⟩
  · rename_i z
    exact ⟨n, o', by rw [upd_ne z]; exact ho, okc⟩
theorem Holds.cellW {i : Nat} {d : D} {cs : Cells} {b : Addr} {oc : OC} {o : HO} (h : Holds K e env T F σ H) (hi : env[i]? = some (.reg d cs)) (hb : b ∈ cs.map (·.1)) (ok : OC.ok K F b oc o) : Holds K e (env.set i (.reg d (putC cs b oc))) T F σ (upd H b o) :=
  h.writeR hi hb (putC_keys cs b oc) (fun v z => cells_write z ok) (fun z => nomatch z)
theorem cellOf_key {cs : Cells} {b : Addr} {oc : OC} (h : cellOf cs b = some oc) : b ∈ cs.map (·.1) := List.mem_map.2 ⟨(b, oc), cellOf_mem h, rfl⟩
theorem Holds.regroup (h : Holds K e env T F σ H) (len : env'.length = σ.length) (slots : ∀ (i : Nat) sl, env'[i]? = some sl → sl = .un ∨ ∃ v, σ[i]? = some (some v) ∧ SlOk K F H v sl) (temps : ∀ p ∈ T', SlOk K F H p.1 p.2)
    (nd : (ownedE env' ++ ownedT T').Nodup) (sub : ∀ a ∈ ownedE env' ++ ownedT T', a ∈ ownedE env ++ ownedT T) : Holds K e env' T' F σ H :=
  ⟨h.fh, len, slots, temps, nd, h.s1, h.s2, fun a ha => h.s3 a (sub a ha)⟩
theorem Holds.retemp {v : V} {sl sl' : Sl} (h : Holds K e env ((v, sl) :: T) F σ H) (ok : SlOk K F H v sl') (nd : sl'.owned.Nodup) (sub : ∀ a ∈ sl'.owned, a ∈ sl.owned) : Holds K e env ((v, sl') :: T) F σ H := by
  have h1 : (ownedE env ++ (sl.owned ++ ownedT T)).Nodup := h.nd
  obtain ⟨n1, n2, n3⟩ := List.nodup_append.mp h1
  obtain ⟨n4, n5, n6⟩ := List.nodup_append.mp n2
  refine h.regroup h.len h.slots (fun p hp => ?_) ?_ (fun a ha => ?_)
  · rcases List.mem_cons.mp hp with rfl | hp
    · exact ok
    · exact h.temps p (List.mem_cons_of_mem _ hp)
  · show (ownedE env ++ (sl'.owned ++ ownedT T)).Nodup
    refine List.nodup_append.mpr ⟨n1, List.nodup_append.mpr ⟨nd, n5, fun a ha b hb => n6 a (sub a ha) b hb⟩, fun a ha b hb => ?_⟩
    rcases List.mem_append.mp hb with hb | hb
    · exact n3 a ha b (List.mem_append_left _ (sub b hb))
    · exact n3 a ha b (List.mem_append_right _ hb)
  · have ha' : a ∈ ownedE env ++ (sl'.owned ++ ownedT T) := ha
    show a ∈ ownedE env ++ (sl.owned ++ ownedT T)
    rcases List.mem_append.mp ha' with hb | hb
    · exact List.mem_append_left _ hb
    · rcases List.mem_append.mp hb with hb | hb
      · exact List.mem_append_right _ (List.mem_append_left _ (sub a hb))
      · exact List.mem_append_right _ (List.mem_append_right _ hb)
def stoS (fz : Bool) (env : Env') (x : Sl) (k : D → Cells → Env' → Prop) : Prop := match x with
  | .ext d => k d [] env
  | .lst p ds => if fz = true then k (.lst ds) [] env else k (.val (.ref p)) [(p, .lst ds)] env
  | .reg d cs => k d cs env
  | .al i a => match env[i]? with
    | some (.lst b ds) => b = a ∧ k (.lst ds) [] (env.set i (.ext (.lst ds)))
    | _ => False
  | .ar _ _ => False
  | .un => False
end
end HD
namespace HD
open PySem L2
def cellS (env : Env') (x : Sl) (k : Nat → Addr → D → Cells → OC → Prop) : Prop := match x with
  | .ar i b => match env[i]? with
    | some (.reg d cs) => match cellOf cs b with
      | some oc => k i b d cs oc
      | none => False
    | _ => False
  | _ => False
def ptrD (i : Nat) : D → Sl
  | .val (.ref q) => .ar i q
  | d => .ext d
def lstO (oc : OC) (k : List D → Prop) : Prop := match oc with
  | .lst ds => k ds
  | _ => False
def insO (oc : OC) (k : Str → Addr → List (Str × D) → Prop) : Prop := match oc with
  | .ins c dx fs => k c dx fs
  | _ => False
section
variable {K : PySem.W.Frag} {e : Ent} {env : Env'} {T : Tmp} {F : Hp} {σ : L2.St} {H : Hp}
theorem Holds.cellS {v : V} {x : Sl} {k : Nat → Addr → D → Cells → OC → Prop} (h : Holds K e env T F σ H) (m : (v, x) ∈ T) (w : HD.cellS env x k) :
    ∃ i b d cs oc, x = .ar i b ∧ v = .ref b ∧ env[i]? = some (.reg d cs) ∧ cellOf cs b = some oc ∧ (F b = none ∧ ∃ o, H b = some o ∧ OC.ok K F b oc o) ∧ k i b d cs oc := by
  cases x with
  | ar i b =>
    have ev : v = .ref b := h.temps _ m
    have w' : (match env[i]? with | some (.reg d cs) => (match cellOf cs b with | some oc => k i b d cs oc | none => False) | _ => False) := w
    split at w'
    · rename_i d cs hi
      split at w'
      · rename_i oc hc
        exact ⟨i, b, d, cs, oc, rfl, ev, hi, hc, h.cell hi hc, w'⟩
      · exact w'.elim
    · exact w'.elim
  | _ => exact w.elim
def putFD (f : Str) (d : D) : List (Str × D) → List (Str × D)
  | [] => [(f, d)]
  | (g, x) :: r => if g = f then (g, d) :: r else (g, x) :: putFD f d r
end
section
variable {G : GG} {N : List Str} {sc : SC} {k : Nat} {a b : Expr} {ta tb tc : DT} {apos cpos p p2 pos pos2 py spos : Pos} {x : Str}
def dVarR (i : Nat) : DT := fun _ env Q => match env[i]? with
  | some (.reg d _) => ∃ q, rootOf d = some q ∧ Q (.ar i q) env
  | some (.ar j q) => Q (.ar j q) env
  | _ => False
def dPtr (i j : Nat) : DT := fun _ env Q => match env[i]? with
  | some (.ext (.val (.ref q))) => Q (.ar j q) env
  | _ => False
def dAttr (c0 f : Str) (t : DT) : DT := fun Ex env Q => t Ex env fun x env1 => cellS env1 x fun i _ _ _ oc => insO oc fun c _ fs => c = c0 ∧ ∃ d, luK fs f = some d ∧ Q (ptrD i d) env1
def sAttr (c0 f : Str) (fz : Bool) (t te : DT) : DTS := fun Ex E env => te Ex env fun y env1 => stoS fz env1 y fun d2 cs2 env2 => t Ex env2 fun x env3 => cellS env3 x fun i b r cs oc => insO oc fun c dx fs =>
  c = c0 ∧ fs.length < 1000 ∧ ((∀ a ∈ cs.map (·.1), a ∉ cs2.map (·.1)) → E.nx (env3.set i (.reg r (putC cs b (.ins c dx (putFD f d2 fs)) ++ cs2))))
def lstK (_ : Nat) (_ : Addr) (_ : D) (_ : Cells) (oc : OC) : Prop := lstO oc fun _ => True
def dAppR (fz : Bool) (t te : DT) : DT := fun Ex env Q => t Ex env fun x env1 => cellS env1 x lstK ∧ te Ex env1 fun y env2 => stoS fz env2 y fun d2 cs2 env3 => cellS env3 x fun i b r cs oc => lstO oc fun ds =>
  ds.length < sizeLine ∧ ((∀ a ∈ cs.map (·.1), a ∉ cs2.map (·.1)) → Q (.ext .non) (env3.set i (.reg r (putC cs b (.lst (ds ++ [d2])) ++ cs2))))
def dExtR (t te : DT) : DT := fun Ex env Q => t Ex env fun x env1 => cellS env1 x lstK ∧ te Ex env1 fun y env2 => wd env2 y fun d2 => match d2 with
  | .lst es => cellS env2 x fun i b r cs oc => lstO oc fun ds => ds.length + es.length ≤ sizeLine ∧ Q (.ext .non) (env2.set i (.reg r (putC cs b (.lst (ds ++ es)))))
  | _ => False
def dClrR (t : DT) : DT := fun Ex env Q => t Ex env fun x env1 => cellS env1 x fun i b r cs oc => lstO oc fun _ => Q (.ext .non) (env1.set i (.reg r (putC cs b (.lst []))))
theorem de_clrR (ha : DE G N sc k a ta) (hbase : ∀ env, attributeBase a "clear" env (eval a env) = eval a env := by intro _; rfl) (hline : (apos.endLine == cpos.line) = true := by rfl) :
    DE G N sc k (.Call (.Attribute a "clear" apos) [] [] cpos) (dClrR ta) := ⟨fun W => by
  obtain ⟨te, p1, i1⟩ := ha.ex W
  refine ⟨tBM0 G.K "list" rClear te, fun X S => ?_, fun e Ex hl env T F σ H Q R hh ht hR => ?_⟩
  · rw [← S.K]
    exact pe_bm0 PySem.F.plainAttrs_list PySem.F.slot_list_clear PySem.F.type_list_clear mt_clear (p1 X S) (hbase _) hline
  · refine i1 e Ex hl env T F σ H _ _ hh ht fun w H1 F1 env1 x hh1 q1 => ?_
    obtain ⟨i, b, d, cs, oc, rfl, rfl, hi, hcell, ⟨_, o, ho, okc⟩, q⟩ := hh1.cellS List.mem_cons_self q1
    cases oc with
    | lst ds =>
      obtain ⟨us, rfl, rr⟩ := okc
      have hh4 := hh1.cellW (oc := .lst []) (o := .lst []) hi (cellOf_key hcell) ⟨_, rfl, Reps.nil⟩
      exact ⟨.inl ⟨rfl, us, SqL.of ho⟩, b, us, rfl, rfl, ho, hR .non _ F1 _ (.ext .non) (hh4.pop.pushE rfl) q⟩
    | _ => exact q.elim⟩
def dPopR (t : DT) : DT := fun Ex env Q => t Ex env fun x env1 => cellS env1 x fun i b r cs oc => lstO oc fun ds => ∃ d, ds[ds.length - 1]? = some d ∧ Q (ptrD i d) (env1.set i (.reg r (putC cs b (.lst ds.dropLast))))
def dIxR (t te : DT) : DT := fun Ex env Q => t Ex env fun x env1 => te Ex env1 fun y env2 => match y with
  | .ext (.int n) => cellS env2 x fun i _ _ _ oc => lstO oc fun ds => ∃ d, atI ds n = some d ∧ Q (ptrD i d) env2
  | _ => False
end
end HD
namespace HD
open PySem L2
def dkO (oc : OC) (k : List (Key × D) → Prop) : Prop := match oc with
  | .dk kvs => k kvs
  | .lkK _ _ kvs => k kvs
  | _ => False
def dtO' (oc : OC) (k : List (List Int × D) → Prop) : Prop := match oc with
  | .dt kvs => k kvs
  | .lkT _ _ kvs => k kvs
  | _ => False
def dkW (oc : OC) (k : List (Key × D) → Prop) : Prop := match oc with
  | .dk kvs => k kvs
  | _ => False
def dtW (oc : OC) (k : List (List Int × D) → Prop) : Prop := match oc with
  | .dt kvs => k kvs
  | _ => False
section
variable {G : GG} {N : List Str} {sc : SC} {k : Nat} {a b c : Expr} {ta tb tc : DT} {apos cpos p p2 pos pos2 py spos : Pos} {x : Str}
def sSetR (fz : Bool) (t tI te : DT) : DTS := fun Ex E env => te Ex env fun y env0 => stoS fz env0 y fun d2 cs2 env1 => t Ex env1 fun x env2 => tI Ex env2 fun z env3 => match z with
  | .ext (.int n) => cellS env3 x fun i b r cs oc => lstO oc fun ds => ∃ j, ixN ds.length n = some j ∧ ((∀ a ∈ cs.map (·.1), a ∉ cs2.map (·.1)) → E.nx (env3.set i (.reg r (putC cs b (.lst (ds.set j d2)) ++ cs2))))
  | _ => False
def dDGetR (t te : DT) : DT := fun Ex env Q => t Ex env fun x env1 => te Ex env1 fun y env2 => cellS env2 x fun i _ _ _ oc => dkO oc fun kvs => ∃ key d, y = .ext (kD key) ∧ luK kvs key = some d ∧ Q (ptrD i d) env2
def dDInR (neg : Bool) (te t : DT) : DT := fun Ex env Q => te Ex env fun y env1 => t Ex env1 fun x env2 => cellS env2 x fun _ _ _ _ oc => dkO oc fun kvs => ∃ key, y = .ext (kD key) ∧ Q (.ext (.bl (neg != (luK kvs key).isSome))) env2
def sPutR (fz : Bool) (t tk tv : DT) : DTS := fun Ex E env => tv Ex env fun y env0 => stoS fz env0 y fun d2 cs2 env1 => t Ex env1 fun x env2 => tk Ex env2 fun z env3 => cellS env3 x fun i b r cs oc => dkW oc fun kvs => ∃ key, z = .ext (kD key) ∧ kvs.length < sizeLine ∧
  ((∀ a ∈ cs.map (·.1), a ∉ cs2.map (·.1)) → E.nx (env3.set i (.reg r (putC cs b (.dk (ptK kvs key d2)) ++ cs2))))
def dkK (_ : Nat) (_ : Addr) (_ : D) (_ : Cells) (oc : OC) : Prop := dkO oc fun _ => True
abbrev M2S (a : Expr) (m : Str) (apos : Pos) (b c : Expr) (cpos : Pos) : Prop := ∀ X : Cx, M2 X a m apos b c cpos
def dGet2R (t te tf : DT) : DT := fun Ex env Q => t Ex env fun x env1 => cellS env1 x dkK ∧ te Ex env1 fun y env2 => tf Ex env2 fun z env3 => frzD env3 z fun d3 env4 => cellS env4 x fun i _ _ _ oc => dkO oc fun kvs => ∃ key, y = .ext (kD key) ∧ Q (ptrD i ((luK kvs key).getD d3)) env4
def dPop1R (t te : DT) : DT := fun Ex env Q => t Ex env fun x env1 => cellS env1 x dkK ∧ te Ex env1 fun y env2 => cellS env2 x fun i b r cs oc => dkW oc fun kvs => ∃ key d, y = .ext (kD key) ∧ luK kvs key = some d ∧ Q (ptrD i d) (env2.set i (.reg r (putC cs b (.dk (drK kvs key)))))
def dPop2R (t te tf : DT) : DT := fun Ex env Q => t Ex env fun x env1 => cellS env1 x dkK ∧ te Ex env1 fun y env2 => tf Ex env2 fun z env3 => frzD env3 z fun d3 env4 => cellS env4 x fun i b r cs oc => dkW oc fun kvs => ∃ key, y = .ext (kD key) ∧
  Q (ptrD i ((luK kvs key).getD d3)) (env4.set i (.reg r (putC cs b (.dk (drK kvs key)))))
end
end HD
namespace HD
open PySem PySem.Spec PyProof.Rows L2
section
variable {X : Cx} {o e : Expr} {apos cpos : Pos} {td ty : TE}
theorem dtO_type {pins : List (Addr × Obj)} {σ : L2.St} {H : Hp} {s : Shared} {a : Addr} {kbs : KB} (I : Inv X pins σ H s) (h : Rd H a (dtO a kbs)) (hk : KeysOk X.K H kbs) : s.TypeIs (.ref a) "dict" ∧ (∀ b, Value.ref a = .ref b → ∃ ob, s.heap.get? b = some ob ∧ ob.dict = none) := by
  obtain ⟨_, _, xs, _, dd⟩ := dt_dict I h hk
  refine ⟨dd.typeIs, fun b eb => ?_⟩
  cases eb
  obtain ⟨ob, _, _, h1, h2, _⟩ := dd
  exact ⟨ob, h1, h2.2.1⟩
end
section
variable {G : GG} {N : List Str} {sc : SC} {k : Nat} {a b c : Expr} {ta tb tc : DT} {apos cpos p p2 pos pos2 py spos : Pos} {x : Str}
def dDGetTR (t te : DT) : DT := fun Ex env Q => t Ex env fun x env1 => te Ex env1 fun y env2 => cellS env2 x fun i _ _ _ oc => dtO' oc fun kvs => ∃ key d, y = .ext (kT key) ∧ luK kvs key = some d ∧ Q (ptrD i d) env2
def dDInTR (neg : Bool) (te t : DT) : DT := fun Ex env Q => te Ex env fun y env1 => t Ex env1 fun x env2 => cellS env2 x fun _ _ _ _ oc => dtO' oc fun kvs => ∃ key, y = .ext (kT key) ∧ Q (.ext (.bl (neg != (luK kvs key).isSome))) env2
def sPutTR (fz : Bool) (t tk tv : DT) : DTS := fun Ex E env => tv Ex env fun y env0 => stoS fz env0 y fun d2 cs2 env1 => t Ex env1 fun x env2 => tk Ex env2 fun z env3 => cellS env3 x fun i b r cs oc => dtW oc fun kvs => ∃ key, z = .ext (kT key) ∧ kvs.length < sizeLine ∧
  ((∀ a ∈ cs.map (·.1), a ∉ cs2.map (·.1)) → E.nx (env3.set i (.reg r (putC cs b (.dt (ptK kvs key d2)) ++ cs2))))
def dtK (_ : Nat) (_ : Addr) (_ : D) (_ : Cells) (oc : OC) : Prop := dtO' oc fun _ => True
def dPop1TR (t te : DT) : DT := fun Ex env Q => t Ex env fun x env1 => cellS env1 x dtK ∧ te Ex env1 fun y env2 => cellS env2 x fun i b r cs oc => dtW oc fun kvs => ∃ key d, y = .ext (kT key) ∧ luK kvs key = some d ∧ Q (ptrD i d) (env2.set i (.reg r (putC cs b (.dt (drK kvs key)))))
end
end HD
namespace HD
open PySem PyProof.Rows L2
inductive Bk where
  | no
  | slot (i : Nat)
  | part (i : Nat)
def lend1 (m : Nat) (env : Env') (x : Sl) (k : Sl → Bk → Env' → Prop) : Prop := match m with
  | 0 => froz env x fun d => k (.ext d) .no env
  | 1 => match x with
    | .al i a => match env[i]? with
      | some (.lst b ds) => b = a ∧ k (.lst a ds) (.slot i) (env.set i .un)
      | _ => False
    | .ar i b => match env[i]? with
      | some (.reg d cs) => rootOf d = some b ∧ k (.reg (.val (.ref b)) cs) (.slot i) (env.set i .un)
      | _ => False
    | .lst a ds => k (.lst a ds) .no env
    | .reg d cs => k (.reg d cs) .no env
    | .ext d => k (.ext d) .no env
    | .un => False
  | _ => match x with
    | .ar i b => match env[i]? with
      | some (.reg d cs) => ∃ sub rest, cs.Perm (sub ++ rest) ∧ k (.reg (.val (.ref b)) sub) (.part i) (env.set i (.reg d rest))
      | _ => False
    | _ => False
def lendM : List Nat → Env' → List Sl → (List Sl → List Bk → Env' → Prop) → Prop
  | [], env, [], k => k [] [] env
  | m :: ms, env, x :: xs, k => lend1 m env x fun s bk env1 => lendM ms env1 xs fun ss bks env2 => k (s :: ss) (bk :: bks) env2
  | _, _, _, _ => False
def give1 (b : Bk) (env : Env') (s : Sl) (k : Env' → Prop) : Prop := match b with
  | .no => k env
  | .slot i => s.plain ∧ k (env.set i s)
  | .part i => match s with
    | .reg _ sub => match env[i]? with
      | some (.reg d rest) => (∀ a ∈ rest.map (·.1), a ∉ sub.map (·.1)) → k (env.set i (.reg d (rest ++ sub)))
      | _ => False
    | _ => False
def giveM : List Bk → Env' → List Sl → (Env' → Prop) → Prop
  | [], env, _, k => k env
  | b :: bs, env, s :: ss, k => give1 b env s fun env1 => giveM bs env1 ss k
  | _ :: _, _, [], _ => False
section
variable {K : PySem.W.Frag} {e : Ent} {σ : L2.St} {H : Hp}
def callM (spec : DSpec) (ms : List Nat) (Ex : DX) (env : Env') (xs : List Sl) (Q : Sl → Env' → Prop) : Prop := lendM ms env xs fun ss bks env1 => spec ss (fun r fin => r.plain ∧ giveM bks env1 fin fun env2 => Q r env2) (fun c fin => giveM bks env1 fin fun env2 => Ex c env2)
end
def dCallM (spec : DSpec) (ms : List Nat) (ta : DTA) : DT := fun Ex env Q => ta Ex env fun xs env1 => callM spec ms Ex env1 xs Q
section
variable {G : GG} {N : List Str} {sc : SC} {k kf n : Nat} {x : Str} {spec : DSpec} {e o : Expr} {es : List Expr} {p pos apos : Pos}
def insK (c m : Str) (_ : Nat) (_ : Addr) (_ : D) (_ : Cells) (oc : OC) : Prop := insO oc fun c' _ fs => c' = c ∧ luK fs m = none
def objS (c m : Str) (env : Env') (x : Sl) : Prop := match x with
  | .reg (.val (.ref a)) cs => match cellOf cs a with
    | some (.ins c' _ fs) => c' = c ∧ luK fs m = none
    | _ => False
  | x => cellS env x (insK c m)
def dMethO (c m : Str) (spec : DSpec) (ms : List Nat) (to : DT) (ta : DTA) : DT := fun Ex env Q => to Ex env fun x env1 => objS c m env1 x ∧ ta Ex env1 fun xs env2 => callM spec ms Ex env2 (x :: xs) Q
end
end HD
namespace HD
open PySem PyProof.Rows L2
abbrev newS (c : Str) (a dx : Addr) : Sl := .reg (.val (.ref a)) [(a, .ins c dx []), (dx, .own a)]
def makeM (c : Str) (spec : DSpec) (ms : List Nat) (Ex : DX) (env : Env') (xs : List Sl) (Q : Sl → Env' → Prop) : Prop := lendM ms env xs fun ss bks env1 => ∀ a dx, a ≠ dx → spec (newS c a dx :: ss)
  (fun r fin => r = .ext .non ∧ match fin with | s0 :: fr => giveM bks env1 fr fun env2 => s0.plain ∧ Q s0 env2 | [] => False)
  (fun c fin => match fin with | _ :: fr => giveM bks env1 fr fun env2 => Ex c env2 | [] => False)
def dMake (c : Str) (spec : DSpec) (ms : List Nat) (ta : DTA) : DT := fun Ex env Q => ta Ex env fun xs env1 => makeM c spec ms Ex env1 xs Q
section
variable {G : GG} {N : List Str} {sc : SC} {k kf n : Nat} {spec : DSpec} {e o a : Expr} {es : List Expr} {p pos apos : Pos} {st : Stmt} {t : DTS} {ta : DT}
def sSetA (i : Nat) (t : DT) : DTS := fun Ex E env => t Ex env fun x env1 => match x with
  | .ar j b => E.nx (env1.set i (.ar j b))
  | .ext d => E.nx (env1.set i (.ext d))
  | _ => False
def dMoveR (i : Nat) : DT := fun _ env Q => match env[i]? with
  | some (.reg d cs) => Q (.reg d cs) (env.set i .un)
  | _ => False
end
end HD
namespace HD
open PySem PyProof.Rows L2
section
variable {G : GG} {N : List Str} {sc : SC} {k kf n : Nat} {e o a : Expr} {es : List Expr} {p pos apos : Pos} {st : Stmt} {t : DTS} {ta : DT}
def sSetG (i : Nat) (t : DT) : DTS := fun Ex E env => t Ex env fun x env1 => match x with
  | .lst a ds => E.nx (env1.set i (.reg (.val (.ref a)) [(a, .lst ds)]))
  | .reg d cs => E.nx (env1.set i (.reg d cs))
  | _ => False
def dExtTR (t te : DT) : DT := fun Ex env Q => t Ex env fun x env1 => cellS env1 x lstK ∧ te Ex env1 fun y env2 => match y with
  | .ext (.tup es) => cellS env2 x fun i b r cs oc => lstO oc fun ds => ds.length + es.length ≤ sizeLine ∧ Q (.ext .non) (env2.set i (.reg r (putC cs b (.lst (ds ++ es)))))
  | _ => False
end
theorem seq_setG (i : Nat) (t : DT) (u : DTS) (Ex : DX) (E : DEnds) (env : Env') : sSeq (sSetG i t) u Ex E env = sSetG i t Ex { E with nx := fun env1 => u Ex E env1 } env := rfl
theorem seq_setA (i : Nat) (t : DT) (u : DTS) (Ex : DX) (E : DEnds) (env : Env') : sSeq (sSetA i t) u Ex E env = sSetA i t Ex { E with nx := fun env1 => u Ex E env1 } env := rfl
theorem seq_attr (c f : Str) (fz : Bool) (t te : DT) (u : DTS) (Ex : DX) (E : DEnds) (env : Env') : sSeq (sAttr c f fz t te) u Ex E env = sAttr c f fz t te Ex { E with nx := fun env1 => u Ex E env1 } env := rfl
theorem seq_setR (fz : Bool) (t tI te : DT) (u : DTS) (Ex : DX) (E : DEnds) (env : Env') : sSeq (sSetR fz t tI te) u Ex E env = sSetR fz t tI te Ex { E with nx := fun env1 => u Ex E env1 } env := rfl
theorem seq_putR (fz : Bool) (t tI te : DT) (u : DTS) (Ex : DX) (E : DEnds) (env : Env') : sSeq (sPutR fz t tI te) u Ex E env = sPutR fz t tI te Ex { E with nx := fun env1 => u Ex E env1 } env := rfl
theorem seq_putTR (fz : Bool) (t tI te : DT) (u : DTS) (Ex : DX) (E : DEnds) (env : Env') : sSeq (sPutTR fz t tI te) u Ex E env = sPutTR fz t tI te Ex { E with nx := fun env1 => u Ex E env1 } env := rfl
end HD
namespace HD
open PySem L2
def RegS (o : Option Sl) (k : D → Cells → Prop) (_ : Tok k) : Prop := match o with
  | some (.reg d cs) => k d cs
  | _ => False
def CellS (o : Option OC) (k : OC → Prop) (_ : Tok k) : Prop := match o with
  | some oc => k oc
  | none => False
def RefS (o : Option Sl) (k1 : Addr → Prop) (k2 : Nat → Addr → Prop) (_ : Tok k1) (_ : Tok k2) : Prop := match o with
  | some (.reg d _) => ∃ q, rootOf d = some q ∧ k1 q
  | some (.ar j q) => k2 j q
  | _ => False
theorem RegS_reg (d : D) (cs : Cells) (k : D → Cells → Prop) (t : Tok k) : RegS (some (.reg d cs)) k t = k d cs := rfl
theorem CellS_some (oc : OC) (k : OC → Prop) (t : Tok k) : CellS (some oc) k t = k oc := rfl
theorem RefS_reg (a : Addr) (cs : Cells) (k1 : Addr → Prop) (k2 : Nat → Addr → Prop) (t : Tok k1) (u : Tok k2) : RefS (some (.reg (.val (.ref a)) cs)) k1 k2 t u = k1 a :=
  propext ⟨fun ⟨q, e, h⟩ => by cases e; exact h, fun h => ⟨a, rfl, h⟩⟩
theorem RefS_ar (j : Nat) (a : Addr) (k1 : Addr → Prop) (k2 : Nat → Addr → Prop) (t : Tok k1) (u : Tok k2) : RefS (some (.ar j a)) k1 k2 t u = k2 j a := rfl
theorem dVarR_w (i : Nat) (Ex : DX) (env : Env') (Q : Sl → Env' → Prop) : dVarR i Ex env Q = RefS env[i]? (fun q => Q (.ar i q) env) (fun j q => Q (.ar j q) env) .mk .mk := rfl
theorem cellS_ar (env : Env') (i : Nat) (b : Addr) (k : Nat → Addr → D → Cells → OC → Prop) : cellS env (.ar i b) k = RegS env[i]? (fun d cs => CellS (cellOf cs b) (fun oc => k i b d cs oc) .mk) .mk := by
  unfold RegS CellS cellS
  dsimp only <;> (rcases env[i]? with _ | s <;> first | rfl | (cases s <;> rfl))
theorem wd_ar (env : Env') (i : Nat) (b : Addr) (k : D → Prop) : wd env (.ar i b) k = RegS env[i]? (fun _ cs => CellS (cellOf cs b) (fun oc => lstO oc fun ds => k (.lst ds)) .mk) .mk := by
  unfold RegS CellS lstO wd
  dsimp only <;> (rcases env[i]? with _ | s <;> first | rfl | (cases s <;> first | rfl | (rename_i d cs; dsimp only <;> (rcases cellOf cs b with _ | oc <;> first | rfl | (cases oc <;> rfl)))))
theorem seqD_ar (env : Env') (i : Nat) (b : Addr) (q : List D → (Env' → Prop) → Prop) : seqD env (.ar i b) q = RegS env[i]? (fun _ cs => CellS (cellOf cs b) (fun oc => lstO oc fun ds => q ds (atC i b ds)) .mk) .mk := by
  unfold RegS CellS lstO seqD iterD
  dsimp only <;> (rcases env[i]? with _ | s <;> first | rfl | (cases s <;> first | rfl | (rename_i d cs; dsimp only <;> (rcases cellOf cs b with _ | oc <;> first | rfl | (cases oc <;> rfl)))))
theorem lstO_lst (ds : List D) (k : List D → Prop) : lstO (.lst ds) k = k ds := rfl
theorem insO_ins (c : Str) (dx : Addr) (fs : List (Str × D)) (k : Str → Addr → List (Str × D) → Prop) : insO (.ins c dx fs) k = k c dx fs := rfl
theorem dkO_dk (kvs : List (Key × D)) (k : List (Key × D) → Prop) : dkO (.dk kvs) k = k kvs := rfl
theorem dkO_lk (od : Obj) (vs : List (Key × V)) (kvs : List (Key × D)) (k : List (Key × D) → Prop) : dkO (.lkK od vs kvs) k = k kvs := rfl
theorem dtO_dt (kvs : List (List Int × D)) (k : List (List Int × D) → Prop) : dtO' (.dt kvs) k = k kvs := rfl
theorem dtO_lk (od : Obj) (kbs : List (List Int × Addr × V)) (kvs : List (List Int × D)) (k : List (List Int × D) → Prop) : dtO' (.lkT od kbs kvs) k = k kvs := rfl
theorem dkW_dk (kvs : List (Key × D)) (k : List (Key × D) → Prop) : dkW (.dk kvs) k = k kvs := rfl
theorem dtW_dt (kvs : List (List Int × D)) (k : List (List Int × D) → Prop) : dtW (.dt kvs) k = k kvs := rfl
theorem stoS_ext (fz : Bool) (env : Env') (d : D) (k : D → Cells → Env' → Prop) : stoS fz env (.ext d) k = k d [] env := rfl
theorem stoS_reg (fz : Bool) (env : Env') (d : D) (cs : Cells) (k : D → Cells → Env' → Prop) : stoS fz env (.reg d cs) k = k d cs env := rfl
theorem stoS_lstT (env : Env') (p : Addr) (ds : List D) (k : D → Cells → Env' → Prop) : stoS true env (.lst p ds) k = k (.lst ds) [] env := by
  simp [stoS]
theorem stoS_lstF (env : Env') (p : Addr) (ds : List D) (k : D → Cells → Env' → Prop) : stoS false env (.lst p ds) k = k (.val (.ref p)) [(p, .lst ds)] env := by
  simp [stoS]
theorem stoS_al (fz : Bool) (env : Env') (i : Nat) (a : Addr) (k : D → Cells → Env' → Prop) : stoS fz env (.al i a) k = AtL env[i]? fun b ds => b = a ∧ k (.lst ds) [] (env.set i (.ext (.lst ds))) := by
  simp only [AtL, ← AtL_eq] <;> rfl
theorem ptrD_ref (i : Nat) (q : Addr) : ptrD i (.val (.ref q)) = .ar i q := rfl
theorem ptrD_int (i : Nat) (n : Int) : ptrD i (.int n) = .ext (.int n) := rfl
theorem ptrD_str (i : Nat) (n : Str) : ptrD i (.str n) = .ext (.str n) := rfl
theorem ptrD_bl (i : Nat) (n : Bool) : ptrD i (.bl n) = .ext (.bl n) := rfl
theorem ptrD_non (i : Nat) : ptrD i .non = .ext .non := rfl
theorem ptrD_tup (i : Nat) (ds : List D) : ptrD i (.tup ds) = .ext (.tup ds) := rfl
theorem ptrD_tk (i : Nat) (ds : List D) : ptrD i (.tk ds) = .ext (.tk ds) := rfl
theorem ptrD_lst (i : Nat) (ds : List D) : ptrD i (.lst ds) = .ext (.lst ds) := rfl
theorem ptrD_fz (i : Nat) (ds : List D) : ptrD i (.fz ds) = .ext (.fz ds) := rfl
def setGS (i : Nat) (x : Sl) (env1 : Env') (k : Env' → Prop) : Prop := match x with
  | .lst a ds => k (env1.set i (.reg (.val (.ref a)) [(a, .lst ds)]))
  | .reg d cs => k (env1.set i (.reg d cs))
  | _ => False
theorem sSetG_w (i : Nat) (t : DT) (Ex : DX) (E : DEnds) (env : Env') : sSetG i t Ex E env = t Ex env fun x env1 => setGS i x env1 E.nx := rfl
theorem setGS_lst (i : Nat) (a : Addr) (ds : List D) (env1 : Env') (k : Env' → Prop) : setGS i (.lst a ds) env1 k = k (env1.set i (.reg (.val (.ref a)) [(a, .lst ds)])) := rfl
theorem setGS_reg (i : Nat) (d : D) (cs : Cells) (env1 : Env') (k : Env' → Prop) : setGS i (.reg d cs) env1 k = k (env1.set i (.reg d cs)) := rfl
def setAS (i : Nat) (x : Sl) (env1 : Env') (k : Env' → Prop) : Prop := match x with
  | .ar j b => k (env1.set i (.ar j b))
  | .ext d => k (env1.set i (.ext d))
  | _ => False
theorem sSetA_w (i : Nat) (t : DT) (Ex : DX) (E : DEnds) (env : Env') : sSetA i t Ex E env = t Ex env fun x env1 => setAS i x env1 E.nx := rfl
theorem setAS_ar (i j : Nat) (b : Addr) (env1 : Env') (k : Env' → Prop) : setAS i (.ar j b) env1 k = k (env1.set i (.ar j b)) := rfl
theorem setAS_ext (i : Nat) (d : D) (env1 : Env') (k : Env' → Prop) : setAS i (.ext d) env1 k = k (env1.set i (.ext d)) := rfl
def intS (y : Sl) (k : Int → Prop) : Prop := match y with
  | .ext (.int n) => k n
  | _ => False
theorem intS_int (n : Int) (k : Int → Prop) : intS (.ext (.int n)) k = k n := rfl
theorem dIxR_w (t te : DT) (Ex : DX) (env : Env') (Q : Sl → Env' → Prop) : dIxR t te Ex env Q = t Ex env fun x env1 => te Ex env1 fun y env2 => intS y fun n => cellS env2 x fun i _ _ _ oc => lstO oc fun ds => GetS (atI ds n) (fun d => Q (ptrD i d) env2) .mk := rfl
def tupS (y : Sl) (k : List D → Prop) : Prop := match y with
  | .ext (.tup es) => k es
  | _ => False
theorem tupS_tup (es : List D) (k : List D → Prop) : tupS (.ext (.tup es)) k = k es := rfl
theorem dExtTR_w (t te : DT) (Ex : DX) (env : Env') (Q : Sl → Env' → Prop) : dExtTR t te Ex env Q = t Ex env fun x env1 => cellS env1 x lstK ∧ te Ex env1 fun y env2 => tupS y fun es => cellS env2 x fun i b r cs oc => lstO oc fun ds => ds.length + es.length ≤ sizeLine ∧ Q (.ext .non) (env2.set i (.reg r (putC cs b (.lst (ds ++ es))))) := rfl
def lstS (d : D) (k : List D → Prop) : Prop := match d with
  | .lst es => k es
  | _ => False
theorem lstS_lst (es : List D) (k : List D → Prop) : lstS (.lst es) k = k es := rfl
theorem dExtR_w (t te : DT) (Ex : DX) (env : Env') (Q : Sl → Env' → Prop) : dExtR t te Ex env Q = t Ex env fun x env1 => cellS env1 x lstK ∧ te Ex env1 fun y env2 => wd env2 y fun d2 => lstS d2 fun es => cellS env2 x fun i b r cs oc => lstO oc fun ds => ds.length + es.length ≤ sizeLine ∧ Q (.ext .non) (env2.set i (.reg r (putC cs b (.lst (ds ++ es))))) := rfl
theorem dPopR_w (t : DT) (Ex : DX) (env : Env') (Q : Sl → Env' → Prop) : dPopR t Ex env Q = t Ex env fun x env1 => cellS env1 x fun i b r cs oc => lstO oc fun ds => GetS ds[ds.length - 1]? (fun d => Q (ptrD i d) (env1.set i (.reg r (putC cs b (.lst ds.dropLast))))) .mk := rfl
end HD
namespace HD
open PySem PyProof.Rows L2
def deepD (cs : Cells) : Nat → D → D
  | 0, d => d
  | n + 1, .val (.ref b) => match cellOf cs b with
    | some (.lst ds) => .lst (ds.map (deepD cs n))
    | _ => .val (.ref b)
  | n + 1, .lst ds => .lst (ds.map (deepD cs n))
  | n + 1, .tup ds => .tup (ds.map (deepD cs n))
  | _ + 1, d => d
section
variable {K : PySem.W.Frag} {F Fc H : Hp}
theorem reps_map {g : D → D} (h : ∀ d v, Rep K F d v → Rep K Fc (g d) v) : ∀ {ds : List D} {vs : List V}, Reps K F ds vs → Reps K Fc (ds.map g) vs
  | [], _, r => r
  | d :: ds, _, r => by
    obtain ⟨v, t, rfl, h1, h2⟩ := r
    exact ⟨v, t, rfl, h _ _ h1, reps_map h h2⟩
theorem deep_rep {cs : Cells} (hc : ∀ p ∈ cs, ∃ o, H p.1 = some o ∧ OC.ok K F p.1 p.2 o) (sm : Same F Fc) (sk : ∀ b ∈ cs.map (·.1), Fc b = H b) : ∀ (n : Nat) (d : D) (v : V), Rep K F d v → Rep K Fc (deepD cs n d) v
  | 0, d, v, r => Rep.same sm r
  | n + 1, .val u, v, r => by
    have e : v = u := r
    subst e
    cases v with
    | ref b =>
      unfold deepD
      split
      · rename_i ds hcell
        have hm := cellOf_mem hcell
        obtain ⟨o, ho, vs, eo, hr⟩ := hc _ hm
        refine ⟨b, vs, rfl, ?_, reps_map (deep_rep hc sm sk n) hr⟩
        rw [sk b (List.mem_map.2 ⟨_, hm, rfl⟩), ho, eo]
      · exact rfl
    | _ => exact rfl
  | n + 1, .lst ds, v, ⟨a, xs, e, h1, h2⟩ => ⟨a, xs, e, sm _ _ h1, reps_map (deep_rep hc sm sk n) h2⟩
  | n + 1, .tup ds, v, ⟨a, xs, e, h1, h2⟩ => ⟨a, xs, e, TupD.same sm h1, reps_map (deep_rep hc sm sk n) h2⟩
  | n + 1, .non, v, r => r
  | n + 1, .bl _, v, r => r
  | n + 1, .int _, v, r => r
  | n + 1, .str _, v, r => r
  | n + 1, .fz ds, v, r => Rep.same (d := .fz ds) sm r
  | n + 1, .tk ds, v, r => Rep.same (d := .tk ds) sm r
  | n + 1, .glo _, v, r => r
  | n + 1, .exc c, v, r => Rep.same (d := .exc c) sm r
  | n + 1, .dk ks ds, v, r => Rep.same (d := .dk ks ds) sm r
  | n + 1, .dt ks ds, v, r => Rep.same (d := .dt ks ds) sm r
end
def regC (env : Env') (i : Nat) (k : Cells → Prop) : Prop := match env[i]? with
  | some (.reg _ cs) => k cs
  | _ => False
def dCallD (i n : Nat) (spec : DSpec) (ta : DTA) : DT := fun Ex env Q => ta Ex env fun xs env1 => wds env1 xs fun ds => regC env1 i fun cs =>
  spec ((ds.map (deepD cs n)).map .ext) (fun r _ => r.imm = true ∧ r.plain ∧ Q r env1) (fun c _ => Ex c env1)
theorem im_callD {K : PySem.W.Frag} {W : WX} {spec : DSpec} {m i n : Nat} {ta : TA} {t : DTA} (h : ImA K W ta t) (hn : ∀ ds Q X, spec ds Q X → ds.length = m) : Im K W (tCallS (toSp K m spec) (WE W) ta) (dCallD i n spec t) := fun e Ex hl env T F σ H Q R hh ht hR => by
  refine h e Ex hl env T F σ H _ _ hh ht fun vs H1 F1 env1 xs le hh1 q1 => ?_
  obtain ⟨ds, F2, Fc0, q2, hh2, sm1, sm2, rr0, fh0, nw0, na⟩ := hh1.lend le q1
  unfold regC at q2
  split at q2
  · rename_i dr cs hi
    have hcell : ∀ p ∈ cs, F2 p.1 = none ∧ ∃ o, H1 p.1 = some o ∧ OC.ok K F2 p.1 p.2 o := by
      rcases hh2.slots i _ hi with z | ⟨w, hw, o1, o2, o3⟩
      · cases z
      · exact o3
    have hown : ∀ b ∈ cs.map (·.1), b ∈ ownedE env1 := fun b hb => mem_ownedE hi hb
    let Fc : Hp := fun b => if b ∈ cs.map (·.1) then H1 b else Fc0 b
    have eFc : ∀ b, Fc b = if b ∈ cs.map (·.1) then H1 b else Fc0 b := fun b => rfl
    have sm3 : Same Fc0 Fc := fun b o q => by
      rw [eFc]
      split
      · exact fh0 _ _ q
      · exact q
    have s2 : Same F2 Fc := sm2.trans sm3
    have fh : Same Fc H1 := fun b o q => by
      rw [eFc] at q
      split at q
      · exact q
      · exact fh0 _ _ q
    have nw : ∀ b, Fc b ≠ none → F2 b ≠ none ∨ b ∈ ownedE env1 := fun b q => by
      rw [eFc] at q
      split at q
      · rename_i hb
        exact .inr (hown b hb)
      · exact nw0 b q
    have rr : Reps K Fc (ds.map (deepD cs n)) vs := reps_map (deep_rep (H := H1) (fun p hp => by
      obtain ⟨_, o, ho, ok⟩ := hcell p hp
      exact ⟨o, ho, ok.same sm2⟩) sm3 (fun b hb => by rw [eFc, if_pos hb]) n) rr0
    have back : ∀ (H' F' : Hp), Same Fc F' → Same F' H' → (∀ a o, H1 a = some o → a ∉ ownedE ((ds.map (deepD cs n)).map Sl.ext) → H' a = some o ∧ (Fc a = none → F' a = none)) → Left [] Fc H1 F' H' := fun H' F' a b c => ⟨a, b, fun x o q _ => c x o q (by rw [ownedE_ext]; exact fun z => nomatch z)⟩
    refine ⟨Fc, (ds.map (deepD cs n)).map .ext, _, _, ?_, argsE fh rr, q2, fun v H' F' r fin hf hq => ?_, fun c H' F' fin hf hq => ?_⟩
    · rw [← hn _ _ _ q2, List.length_map, rr.length]
    · obtain ⟨im, qp, q3⟩ := hq
      have l := back H' F' hf.s1 hf.fh hf.s2
      have own : ∀ a ∈ r.owned, H1 a = none := fun a ha => by
        have m : a ∈ ownedE fin ++ ownedT [(v, r)] := List.mem_append_right _ (by
          show a ∈ r.owned ++ []
          rw [List.append_nil]
          exact ha)
        rcases hf.s3 a m with z | z
        · have z' : a ∈ ownedE ((ds.map (deepD cs n)).map Sl.ext) := z
          rw [ownedE_ext] at z'
          cases z'
        · exact z
      have ok := hf.temps (v, r) List.mem_cons_self
      obtain ⟨F3, l3, t1, t2, t3⟩ := hh2.thaw s2 nw l
      refine hR v H' F3 env1 r (hh2.left0 l3 ?_ own) q3
      cases r with
      | un => exact nomatch im
      | al i a => exact nomatch im
      | reg _ _ => exact nomatch im
      | ar _ _ => exact nomatch im
      | ext d => exact t1 d v im ok
      | lst a es =>
        obtain ⟨e1, e2, us, hu, hr⟩ := ok
        exact ⟨e1, t3 _ e2, us, hu, t2 es us im hr⟩
    · have l := back H' F' hf.s1 hf.fh hf.s2
      obtain ⟨F3, l3, _, _, _⟩ := hh2.thaw s2 nw l
      have h4 := hh2.left0 (v := .non) (r := .ext .non) l3 rfl (fun a z => nomatch z)
      exact hl c env1 F3 σ H' h4.bare hq
  · exact q2.elim
section
variable {G : GG} {N : List Str} {sc : SC} {k kf n : Nat} {x : Str} {spec : DSpec} {e o : Expr} {es : List Expr} {p pos apos : Pos}
theorem de_callD {ta : DTA} (i m : Nat) (d : Def G kf x n spec) (ha : DAs G N sc k (e :: es) ta) (hk : kf ≤ k := by decide) (hg : GlS sc x := by rfl) (hdb : (x == ("__debug__" : Str)) = false := by decide) (he : NoStar e es := by intro _; rfl) (hpl : ∀ env, (backTo pos (starEach es env)).any (·.1) = false := by intro _; rfl) :
    DE G N sc k (.Call (.Name x p) (e :: es) [] pos) (dCallD i m spec ta) := ⟨fun W => by
  obtain ⟨te, p1, i1⟩ := ha.ex W
  exact ⟨tCallS (toSp G.K n spec) (WE W) te, fun X S => d.pe S hk hg (p1 X S) hdb he hpl, im_callD i1 d.len⟩⟩
end
theorem regC_reg (env : Env') (i : Nat) (k : Cells → Prop) : regC env i k = RegS env[i]? (fun _ cs => k cs) .mk := by
  first | rfl | (unfold regC RegS <;> rfl)
theorem dMoveR_w (i : Nat) (Ex : DX) (env : Env') (Q : Sl → Env' → Prop) : dMoveR i Ex env Q = RegS env[i]? (fun d cs => Q (.reg d cs) (env.set i .un)) .mk := by
  first | rfl | (unfold dMoveR RegS <;> rfl)
theorem froz_lst (env : Env') (a : Addr) (ds : List D) (q : D → Prop) : froz env (.lst a ds) q = q (.lst ds) := rfl
theorem froz_ext (env : Env') (d : D) (q : D → Prop) : froz env (.ext d) q = q d := rfl
def dMoveL (i : Nat) : DT := fun _ env Q => AtL env[i]? fun a ds => Q (.lst a ds) (env.set i .un)
abbrev PR := Addr × List Int × Addr × V
def rDictP (K : PySem.W.Frag) : List V → Hp → VK → Prop := fun vs H Q => ∃ (a : Addr) (kps : List PR), vs = [.ref a] ∧ SqL K H a (kps.map fun p => V.ref p.1) ∧ (∀ p ∈ kps, TupD K H p.1 [.ref p.2.2.1, p.2.2.2]) ∧ KeysOk K H (kps.map (·.2)) ∧ ((kps.map (·.2)).map (·.1)).Nodup ∧
  ∀ q, H q = none → Q (.ref q) (upd H q (dtO q (kps.map (·.2))))
def tDictP (K : PySem.W.Frag) (ta : TA) : TE := fun σ H Q => ta σ H fun vs H1 => rDictP K vs H1 Q
section
variable {X : Cx} {pins : List (Addr × Obj)} {σ : L2.St} {H : Hp} {s : Shared}
theorem pairs_at (I : Inv X pins σ H s) : ∀ {kps : List PR} {its : List Value}, Vals (kps.map fun p => V.ref p.1) its → (∀ p ∈ kps, TupD X.K H p.1 [.ref p.2.2.1, p.2.2.2]) →
    ∃ ys : List (List Int × Addr × Value), PX (kps.map (·.2)) ys ∧ ys.length = kps.length ∧ its = kps.map (fun p => Value.ref p.1) ∧ ∀ (j : Nat) (p : PR) (y : List Int × Addr × Value), kps[j]? = some p → ys[j]? = some y → PySem.PairAt s.heap p.1 (.ref y.2.1) y.2.2
  | [], its, h, _ => by
    cases h
    exact ⟨[], .nil, rfl, rfl, fun j p y h => by simp at h⟩
  | p :: kps, its, h, ht => by
    cases h with
    | cons r t =>
      obtain ⟨ys, h1, h2, h3, h4⟩ := pairs_at I (kps := kps) t fun q hq => ht q (List.mem_cons_of_mem _ hq)
      obtain ⟨zs, rz, ⟨o, g1, g2, n, g3⟩, _⟩ := I.tuple (ht p List.mem_cons_self).sq
      obtain ⟨z1, z2, rfl, rz1, rz2⟩ := vals2 rz
      cases rz1
      cases r
      refine ⟨(p.2.1, p.2.2.1, z2) :: ys, .cons ⟨rfl, rfl, rz2⟩ h1, by simp [h2], by rw [h3]; rfl, fun j q y hq hy => ?_⟩
      cases j with
      | zero =>
        cases hq
        cases hy
        exact .inl ⟨o, g1, g2, n, g3⟩
      | succ j => exact h4 j q y hq hy
theorem px_len {kbs : KB} {xs : List (List Int × Addr × Value)} (h : PX kbs xs) : kbs.length = xs.length := by
  have e := congrArg List.length (px_keys h)
  rw [List.length_map, List.length_map] at e
  exact e.symm
theorem pe_dictP {e : Expr} {ta : TA} {p pos : Pos} (hu : X.A.units + 3 < cLine) (hc : X.calm = true) (hg : Gl X "dict") (hm : X.mg "dict" = none) (ha : PA X [e] ta)
    (hs : starEach [e] X.env = (false, eval e X.env) :: starEach [] X.env) (hpl : (backTo pos (starEach [] X.env)).any (·.1) = false) :
    PE X (.Call (.Name "dict" p) [e] [] pos) (tDictP X.K ta) := by
  refine ⟨fun pins s σ H Q I h => ?_⟩
  refine PyProof.Rows.Call_ (ld_blt I hg hm boot_dict (PyProof.Rows.callWith_type1 (thn (ha.run pos pins s σ H _ I h) fun us s1 ⟨vs, H1, I1, r1, q1⟩ => ?_) hs hpl))
  obtain ⟨a, kps, ex, hsq, hpr, hky, nd, q⟩ := q1
  subst ex
  rw [Vals.ref1 r1]
  obtain ⟨its, rv, hl, hz⟩ := I1.list hsq
  obtain ⟨ys, px, ly, eits, hat⟩ := pairs_at I1 rv hpr
  have hh := I1.ok.hd hc
  have lk : ((kps.map (·.2) : KB)).length = ys.length := px_len px
  rw [List.length_map] at lk
  have hzl : kps.length ≤ sizeLine := by rwa [List.length_map] at hz
  let ps : List (Value × Value) := ys.map fun y => (.ref y.2.1, y.2.2)
  let Ts : Nat → Addr := fun j => ((kps[j]?).map (·.1)).getD 0
  have eps : ps.length = kps.length := by show (ys.map _).length = _; rw [List.length_map, ly]
  have hPI : PySem.PairItems s1.heap its.toArray Ts ps := ⟨by rw [List.size_toArray, eits, List.length_map, eps], fun j kk v hj => by
    have hj' : (ys.map fun y => ((.ref y.2.1, y.2.2) : Value × Value))[j]? = some (kk, v) := hj
    rw [List.getElem?_map] at hj'
    cases hy : ys[j]? with
    | none => rw [hy] at hj'; cases hj'
    | some y =>
      rw [hy] at hj'
      cases hj'
      have hjl : j < kps.length := by rw [← ly]; exact (List.getElem?_eq_some_iff.1 hy).1
      have hk : kps[j]? = some kps[j] := List.getElem?_eq_getElem hjl
      have eT : Ts j = kps[j].1 := by show ((kps[j]?).map (·.1)).getD 0 = _; rw [hk]; rfl
      rw [eT]
      refine ⟨?_, hat j _ y hk hy⟩
      rw [List.getElem?_toArray, eits, List.getElem?_map, hk]
      rfl⟩
  obtain ⟨ol, nl, g1, g2, g3, g4⟩ := hl
  have P := PySem.PairArg.list (prog := X.prog) (w := X.w) a its.toArray Ts ps
  have kis := px_is I1 px hky
  have nd' : (ys.map (·.1)).Nodup := by rw [px_keys px]; exact nd
  refine PySem.call_dict_pairsH (s := s1) (knd := tkI X.prog X.w) (ps := ys) P hh (by show X.A.units + 1 + 1 < cLine; omega) ⟨⟨ol, nl, g1, g2, g3, g4⟩, hPI⟩ ⟨by rw [eps, ly], fun i key v hr => ?_⟩ (fun h2 hk2 x hx => ?_) (by rw [eps]; exact hzl) fun h2 tk hd hk' => ?_
  · have hr' : (ys.map fun y => ((.ref y.2.1, y.2.2) : Value × Value))[i]? = some (key, v) := hr
    rw [List.getElem?_map] at hr'
    cases hy : ys[i]? with
    | none => rw [hy] at hr'; cases hr'
    | some y =>
      rw [hy] at hr'
      cases hr'
      exact ⟨y.1, y.2.1, rfl, rfl⟩
  · obtain ⟨o, arr, n, j1, j2, j3, j4⟩ := kis x hx
    exact ⟨o, arr, n, hk2 _ o (Nat.ne_of_lt (Heap.lt_size j1)) (fun z => nomatch z) j1, j2, j3, j4⟩
  · rw [storedAllH_nil_of_nodup _ nd'] at hd
    obtain ⟨o, es, ep, j1, j2, j3, j4, _, _⟩ := hd
    have hk2 : ∀ c o, s1.heap.get? c = some o → h2.get? c = some o := fun c o e => hk' c o (fun z => nomatch z) e
    exact ⟨.ref s1.heap.objs.size, _, I1.laid (a := s1.heap.objs.size) (o := dtO s1.heap.objs.size (kps.map (·.2))) (t' := tk) hk2 (Nat.le_refl _) (dtO_mk (by rw [List.length_map]; exact hzl) (beq_eq_false_iff_ne.mpr (Ne.symm (Nat.ne_of_lt I1.big))) nd px j1 j2 j3 j4), rfl, q _ (I1.hok.fresh (Nat.le_refl _))⟩
end
section
variable {K : PySem.W.Frag} {F : Hp}
theorem kp_of : ∀ {kvs : List (List Int × D)} {vs : List V}, Reps K F (kvs.map fun p => D.tup [kT p.1, p.2]) vs → ∃ kps : List PR, vs = kps.map (fun p => V.ref p.1) ∧ (∀ p ∈ kps, TupD K F p.1 [.ref p.2.2.1, p.2.2.2]) ∧ EntT K F kvs (kps.map (·.2)) ∧ (kps.map (·.2)).map (·.1) = kvs.map (·.1)
  | [], vs, h1 => by
    have e1 : vs = [] := h1
    subst e1
    exact ⟨[], rfl, (fun p hp => nomatch hp), .nil, rfl⟩
  | p :: kvs, vs, h1 => by
    obtain ⟨v, r, rfl, g1, g2⟩ := h1
    obtain ⟨kps, rfl, h2, h3, h4⟩ := kp_of (kvs := kvs) g2
    obtain ⟨c, xs, rfl, hc, y1, t1, rfl, k1, y2, t2, rfl, k2, e0⟩ := g1
    have e0' : t2 = [] := e0
    subst e0'
    obtain ⟨b, rfl, hb⟩ := ints_rep k1
    obtain ⟨r1, r2, r3⟩ := entT_iff.1 h3
    refine ⟨(c, p.1, b, y2) :: kps, rfl, fun q hq => ?_, entT_iff.2 ⟨by rw [List.map_cons, List.map_cons, List.map_cons, r1], fun x hx => ?_, ⟨y2, _, rfl, k2, r3⟩⟩, by rw [List.map_cons, List.map_cons, List.map_cons, h4]⟩
    · rcases List.mem_cons.1 hq with rfl | hq
      · exact hc
      · exact h2 q hq
    · rcases List.mem_cons.1 hx with e | e
      · subst e; exact hb
      · exact r2 x e
end
section
variable {G : GG} {N : List Str} {sc : SC} {k : Nat} {a b : Expr} {ta tb : DT} {p p2 pos pos2 apos cpos : Pos}
def dDictP (ta : DT) : DT := fun Ex env Q => ta Ex env fun x env1 => froz env1 x fun d => match d with
  | .lst xs => ∃ kvs : List (List Int × D), xs = kvs.map (fun p => D.tup [kT p.1, p.2]) ∧ (kvs.map (·.1)).Nodup ∧ ∀ a, Q (dtS a kvs) env1
  | _ => False
theorem de_dictP (ha : DE G N sc k a ta) (hm : G.mg "dict" = none) (hg : GlS sc "dict" := by rfl) (hs : NoStar a [] := by intro _; rfl) (hpl : ∀ env, (backTo pos (starEach [] env)).any (·.1) = false := by intro _; rfl) :
    DE G N sc k (.Call (.Name "dict" p) [a] [] pos) (dDictP ta) := ⟨fun W => by
  obtain ⟨te, p1, i1⟩ := ha.ex W
  refine ⟨tDictP G.K (tCons te tNil), fun X S => ?_, fun e Ex hl env T F σ H Q R hh ht hR => ?_⟩
  · rw [← S.K]
    have hu := S.units
    exact pe_dictP (by omega) S.calm (S.gl hg) (by rw [S.mg]; exact hm) (pa_cons (p1 X S) pa_nil (hs _)) (hs _) (hpl _)
  · refine i1 e Ex hl env T F σ H _ _ hh ht fun v H1 F1 env1 x hh1 q1 => ?_
    obtain ⟨d, F2, sm, hh2, rd, q2⟩ := hh1.froz1 q1
    split at q2
    · rename_i xs
      obtain ⟨kvs, rfl, nd, q3⟩ := q2
      obtain ⟨c, us, rfl, hc, hr⟩ := rd
      obtain ⟨kps, rfl, h1, h2, h3⟩ := kp_of hr
      refine ⟨c, kps, rfl, SqL.of (hh2.fh _ _ hc), fun p hp => TupD.same hh2.fh (h1 p hp), h2.2.same hh2.fh, by rw [h3]; exact nd, fun q hq => ?_⟩
      refine hR _ _ F2 env1 (dtS q kvs) (hh2.push (Grow.loose hh2.fh hq) (dt_ok.2 ⟨rfl, hh2.fh.free hq, kps.map (·.2), upd_same, h2⟩) fun c hc => ?_) (q3 q)
      rw [List.mem_singleton.mp hc]
      exact hq
    · exact q2.elim⟩
end
def upK (kvs more : List (List Int × D)) : List (List Int × D) := more.foldl (fun acc p => ptK acc p.1 p.2) kvs
section
variable {G : GG} {N : List Str} {sc : SC} {k : Nat} {a b : Expr} {ta tb : DT} {apos cpos : Pos}
def dUpdTR (t te : DT) : DT := fun Ex env Q => t Ex env fun x env1 => cellS env1 x dtK ∧ te Ex env1 fun y env2 => cellS env2 x fun i b r cs oc => dtW oc fun kvs => ∃ b2 more, y = dtS b2 more ∧ (kvs ≠ [] ∨ (more.map fun p => hT p.1).Nodup) ∧ kvs.length + more.length ≤ sizeLine ∧
  Q (.ext .non) (env2.set i (.reg r (putC cs b (.dt (upK kvs more)))))
end
end HD
namespace HD
open PySem PySem.Spec PyProof.Rows L2
open PySem.W (AlikeAll minD dataLt min_list_data readsAll_at keyToks keyToksAll)
abbrev qD (p : Int × List Int) : D := .tup [.int p.1, .tup (p.2.map D.int)]
theorem lt_qd (p q : Int × List Int) : ∃ b : Bool, dataLt (qD p).py (qD q).py = (decide (p.1 < q.1) || (!decide (q.1 < p.1) && b)) := by
  refine ⟨PyProof.Rows.lexLt itemOrd (keyToksAll [(D.tup (p.2.map D.int)).py]) (keyToksAll [(D.tup (q.2.map D.int)).py]), ?_⟩
  show PyProof.Rows.lexLt itemOrd (.inl 1 :: .inl p.1 :: keyToksAll [(D.tup (p.2.map D.int)).py]) (.inl 1 :: .inl q.1 :: keyToksAll [(D.tup (q.2.map D.int)).py]) = _
  rw [lex_cons, lex_cons]
  show ((decide ((1 : Int) < 1)) || (!decide ((1 : Int) < 1) && (decide (p.1 < q.1) || (!decide (q.1 < p.1) && _)))) = _
  simp
theorem minD_qs (p : Int × List Int) (ps : List (Int × List Int)) : ∃ m ∈ p :: ps, minD (qD p).py (ps.map fun q => (qD q).py) = (qD m).py ∧ ∀ q ∈ p :: ps, m.1 ≤ q.1 := by
  induction ps generalizing p with
  | nil => exact ⟨p, List.mem_cons_self, rfl, fun q hq => by rw [List.mem_singleton.1 hq]; exact Int.le_refl _⟩
  | cons y ys ih =>
    have e : minD (qD p).py ((y :: ys).map fun q => (qD q).py) = minD (if dataLt (qD y).py (qD p).py = true then (qD y).py else (qD p).py) (ys.map fun q => (qD q).py) := rfl
    obtain ⟨b, l⟩ := lt_qd y p
    rw [e, l]
    by_cases h : (decide (y.1 < p.1) || (!decide (p.1 < y.1) && b)) = true
    · rw [if_pos h]
      have hle : y.1 ≤ p.1 := by
        rw [Bool.or_eq_true, Bool.and_eq_true, Bool.not_eq_true', decide_eq_true_eq, decide_eq_false_iff_not] at h
        omega
      obtain ⟨m, h1, h2, h3⟩ := ih y
      refine ⟨m, List.mem_cons_of_mem _ h1, h2, fun q hq => ?_⟩
      rcases List.mem_cons.1 hq with e | hq
      · subst e
        exact Int.le_trans (h3 y List.mem_cons_self) hle
      · exact h3 q hq
    · rw [if_neg h]
      have hle : p.1 ≤ y.1 := by
        rw [Bool.or_eq_true, decide_eq_true_eq] at h
        omega
      obtain ⟨m, h1, h2, h3⟩ := ih p
      refine ⟨m, (List.mem_cons.1 h1).elim (fun e => by rw [e]; exact List.mem_cons_self) fun h => List.mem_cons_of_mem _ (List.mem_cons_of_mem _ h), h2, fun q hq => ?_⟩
      rcases List.mem_cons.1 hq with e | hq
      · exact h3 q (by rw [e]; exact List.mem_cons_self)
      · rcases List.mem_cons.1 hq with e | hq
        · subst e
          exact Int.le_trans (h3 p List.mem_cons_self) hle
        · exact h3 q (List.mem_cons_of_mem _ hq)
theorem qy_inj {p q : Int × List Int} (h : (qD p).py = (qD q).py) : p.1 = q.1 := by
  have h' : PyData.tuple [.int p.1, (D.tup (p.2.map D.int)).py] = .tuple [.int q.1, (D.tup (q.2.map D.int)).py] := h
  injection h' with h'
  injection h' with e1 h'
  injection e1 with e1
def fMinQ : List D → (Sl → Prop) → Prop
  | [.lst ds], Q => ∃ ps : List (Int × List Int), ds = ps.map qD ∧ ps ≠ [] ∧ ∀ p ∈ ps, (∀ q ∈ ps, p.1 ≤ q.1) → Q (.ext (qD p))
  | _, _ => False
theorem noVals_ints (l : List Int) : (D.tup (l.map D.int)).noVal = true := by
  show D.noVals (l.map D.int) = true
  induction l with
  | nil => rfl
  | cons x l ih => exact ih
theorem dp_qs {K : PySem.W.Frag} {H : Hp} : ∀ {ps : List (Int × List Int)} {vs : List V}, Reps K H (ps.map qD) vs → DpAll K H vs (ps.map fun q => (qD q).py)
  | [], vs, h => by
    have e : vs = [] := h
    subst e
    exact .nil
  | p :: ps, vs, h => by
    obtain ⟨v, r, rfl, h1, h2⟩ := h
    exact .cons (Rep.dp (by
      show (true && ((D.tup (p.2.map D.int)).noVal && true)) = true
      rw [noVals_ints]; rfl) h1) (dp_qs h2)
theorem pys_ints' (l : List Int) : D.pys (l.map D.int) = l.map PyData.int := by
  induction l with
  | nil => rfl
  | cons x l ih => exact congrArg (PyData.int x :: ·) ih
theorem alike_qs (ps : List (Int × List Int)) : AlikeAll (ps.map fun q => (qD q).py) := by
  refine ⟨fun x hx y hy => ?_, fun x hx => ?_⟩
  · obtain ⟨p, _, rfl⟩ := List.mem_map.1 hx
    obtain ⟨q, _, rfl⟩ := List.mem_map.1 hy
    show (true && (PySem.W.alikeAll (D.pys (p.2.map D.int)) (D.pys (q.2.map D.int)) && true)) = true
    rw [pys_ints', pys_ints', alike_ints]
    rfl
  · obtain ⟨p, _, rfl⟩ := List.mem_map.1 hx
    intro e
    cases e
theorem depth_qs (ps : List (Int × List Int)) : PyData.depthAll (ps.map fun q => (qD q).py) ≤ 60 := by
  induction ps with
  | nil => exact Nat.zero_le _
  | cons p ps ih =>
    show max _ _ ≤ 60
    refine Nat.max_le.2 ⟨?_, ih⟩
    show (max 0 (max (PyData.depthAll (D.pys (p.2.map D.int)) + 1) 0)) + 1 ≤ 60
    rw [pys_ints', depth_all]
    decide
theorem b_minQ : BR "min" fMinQ := ⟨fun _ _ K => rMinD K, fun _ _ K F H vs ds Q R fh hr hf ha => by
    unfold fMinQ at hf
    split at hf
    · obtain ⟨v, rfl, r⟩ := hr.one
      obtain ⟨ps, rfl, hne, q⟩ := hf
      obtain ⟨a, us, rfl, e1, r1⟩ := r.lst fh
      cases ps with
      | nil => exact absurd rfl hne
      | cons p ps =>
        refine ⟨a, us, (qD p).py, ps.map fun q => (qD q).py, rfl, SqL.of e1, dp_qs (ps := p :: ps) (r1.same fh), alike_qs (p :: ps), depth_qs (p :: ps), fun i v hv hm => ?_⟩
        obtain ⟨d, hd, rd⟩ := r1.getV hv
        rw [List.getElem?_map] at hd
        cases hp : (p :: ps)[i]? with
        | none => rw [hp] at hd; cases hd
        | some y =>
          rw [hp] at hd
          cases hd
          obtain ⟨m, h1, h2, h3⟩ := minD_qs p ps
          have e2 : ((p :: ps).map fun q => (qD q).py).getD i .none = (qD y).py := by
            rw [List.getD_eq_getElem?_getD, List.getElem?_map, hp]
            rfl
          have e3 : (qD y).py = (qD m).py := e2.symm.trans (hm.trans h2)
          have e4 := qy_inj e3
          exact ha.ext fh rd (q y (List.mem_of_getElem? hp) fun z hz => by rw [e4]; exact h3 z hz)
    · exact hf.elim, fun X hc hu => cr_minD hc hu⟩
def tDispT1 (K : PySem.W.Frag) (tk tv : TE) : TE := fun σ H Q => ∀ p, H p = none → tPairs [(tk, tv)] σ (upd H p (dtO p [])) fun ps H2 => H2 p = some (dtO p []) ∧ ∃ b ks v, ps = [(.ref b, v)] ∧ TupD K H2 b (ks.map V.int) ∧ Q (.ref p) (upd H2 p (dtO p [(ks, b, v)]))
section
variable {X : Cx} {a b o e f : Expr} {pos apos cpos : Pos} {tk tv td ty tx : TE}
theorem pe_dispT1 (hu : X.A.units + 1 < cLine) (h : PPs X pos [some a] [b] [(tk, tv)]) : PE X (.Dict [some a] [b] pos) (tDispT1 X.K tk tv) := by
  refine ⟨fun pins s σ H Q I q => ?_⟩
  have hn := I.hok.fresh (Nat.le_refl s.heap.objs.size)
  have I1 := I.laid (a := s.heap.objs.size) (o := dtO s.heap.objs.size []) (h' := s.heap.push { cls := .type "dict", data := .dict #[] }) (t' := s.toks) (fun _ _ q => Heap.get?_push_of_some _ q) (Nat.le_refl _)
    (dtO_mk (Nat.zero_le _) (beq_eq_false_iff_ne.mpr (Ne.symm (Nat.ne_of_lt I.big))) List.nodup_nil (xs := []) .nil (Heap.get?_push_size _ rfl) ⟨rfl, rfl, rfl⟩ rfl rfl)
  rw [arm_eval_Dict, zip_pairTrees [some a] [b] X.env pos rfl rfl, dictDisplay_pairs _ (by simp [pairTrees]) (by simp [pairTrees])]
  refine wpAny_bind (wpAny_standAt (wpAny_bind (wpAny_subDictH (knd := tkI X.prog X.w) (Q := fun d s' => wpAny (model X.prog X.w) X.A (pure (Value.ref d)) (EP X pins σ Q) X.xe s') ?_ (by simp [pairTrees]) (thn (h.run pins _ σ _ _ I1 (q _ hn)) fun ws s2 ⟨ps, H2, I2, rel, e, b', ks, v, ep, hb, q2⟩ => ?_))))
  · show X.A.units < cLine
    omega
  subst ep
  cases rel with
  | @cons a₁ z as bs r t =>
    cases t
    obtain ⟨zk, zv⟩ := z
    obtain ⟨r1, r2⟩ := r
    obtain rfl : zk = Value.ref b' := r1
    obtain ⟨z, hd, xs, px, dd⟩ := dt_dict I2 (.inl e) (fun x hx => nomatch hx)
    cases px
    refine ⟨[(ks, b', zv)], ⟨rfl, rfl, key_is I2 hb, trivial⟩, dd, fun h' tk dd' hs => wpAny_pure ?_⟩
    obtain ⟨o, es, ep, hq, h2, h3, h4, _, h5⟩ := dd'
    have px' : PX [(ks, b', v)] [(ks, b', zv)] := .cons ⟨rfl, rfl, r2⟩ .nil
    exact ⟨.ref s.heap.objs.size, _, d_write I2 (by rw [e]; exact True.intro) hs ⟨o, hq⟩ (dtO_mk (kbs := [(ks, b', v)]) (by show (1 : Nat) ≤ sizeLine; decide) hd (by simp) px' hq h2 h3 h4), rfl, q2⟩
def tTGet2 (K : PySem.W.Frag) (td ty tx : TE) : TE := fun σ H Q => td σ H fun x H1 => ∃ a kbs0, x = .ref a ∧ Rd H1 a (dtO a kbs0) ∧ KeysOk K H1 kbs0 ∧ ty σ H1 fun y H2 => tx σ H2 fun z H3 => ∃ b kbs ks, y = .ref b ∧ Rd H3 a (dtO a kbs) ∧ KeysOk K H3 kbs ∧ TupD K H3 b (ks.map V.int) ∧ Q ((luK (kvB kbs) ks).getD z) H3
theorem pe_tget2 (hu : X.A.units + 1 < cLine) (ho : PE X o td) (he : PE X e ty) (hf : PE X f tx) (m : M2 X o "get" apos e f cpos) : PE X (.Call (.Attribute o "get" apos) [e, f] [] cpos) (tTGet2 X.K td ty tx) := by
  refine ⟨fun pins s σ H Q I h => ?_⟩
  refine wpAny_Call_method m.base m.few m.line PySem.F.plainAttrs_dict PySem.F.slot_dict_get PySem.F.type_dict_get (thn (ho.run pins s σ H _ I h) fun u s1 ⟨x, H1, I1, rx, a, kbs0, ex, d, dk, q1⟩ => ?_)
  subst ex
  obtain rfl : u = Value.ref a := rx
  obtain ⟨t1, t2⟩ := dtO_type I1 d dk
  refine ⟨t1, t2, ?_⟩
  rw [m.trees]
  refine Calls.callWith_builtin rfl (Calls.evalArgs_plain (Calls.spliced_cons (thn (he.run pins s1 σ H1 _ I1 q1) fun iv s2 ⟨y, H2, I2, ry, q2⟩ =>
    Calls.spliced_cons (thn (hf.run pins s2 σ H2 _ I2 q2) fun fv s3 ⟨z, H3, I3, rz, b, kbs, ks, ey, rd, hk, hb, q3⟩ => Calls.spliced_nil ?_))))
  subst ey
  obtain rfl : iv = Value.ref b := ry
  obtain ⟨_, hd, xs, px, dd⟩ := dt_dict I3 rd hk
  refine call_meetsIn PySem.F.slot_dict_get dd.typeIs PySem.F.entry_dict_get (PySem.F.args_dict_get_3 _ _ _) (meetsH_dict_get_default (tkI X.prog X.w) a b hd fv) ⟨tupleKind_room_in1 hu, ks, xs, key_is I3 hb, dd, ?_⟩
  have hp := px_at ks px
  cases hv : luK (kvB kbs) ks with
  | some v =>
    obtain ⟨p, hp1, rp⟩ := hp.1 v hv
    rw [hv] at q3
    exact ⟨v, H3, I3.tok _, by rw [hp1]; exact rp, q3⟩
  | none =>
    have h2 := hp.2
    rw [hv] at h2
    rw [hv] at q3
    cases hx : atKey xs ks with
    | some p => rw [hx] at h2; cases h2
    | none => exact ⟨z, H3, I3.tok _, rz, q3⟩
end
section
variable {G : GG} {N : List Str} {sc : SC} {k : Nat} {a b c : Expr} {ta tb tc : DT} {apos cpos p p2 pos pos2 py spos : Pos} {x : Str}
def dDOneT (tk tv : DT) : DT := fun Ex env Q => tk Ex env fun x env1 => tv Ex env1 fun y env2 => ∃ key, x = .ext (kT key) ∧ frzD env2 y fun d env3 => ∀ a, Q (dtS a [(key, d)]) env3
theorem de_doneT (hi : DE G N sc k a ta) (hb : DE G N sc k b tb) : DE G N sc k (.Dict [some a] [b] pos) (dDOneT ta tb) := ⟨fun W => by
  obtain ⟨te, p1, i1⟩ := hi.ex W
  obtain ⟨tf, p2, i2⟩ := hb.ex W
  refine ⟨tDispT1 G.K te tf, fun X S => by rw [← S.K]; exact pe_dispT1 S.u1 (pps_cons (p1 X S) (p2 X S) pps_nil), fun e Ex hl env T F σ H Q R hh ht hR p hp => ?_⟩
  have h0 : Holds G.K e env ((V.ref p, dtS p []) :: T) F σ (upd H p (dtO p [])) := hh.push (Grow.loose hh.fh hp) (dt_ok.2 ⟨rfl, hh.fh.free hp, [], upd_same, .nil⟩) fun c hc => by
    rw [List.mem_singleton.mp hc]
    exact hp
  refine i1 e Ex hl env _ F σ _ _ _ h0 ht fun u H1 F1 env1 z hh1 q1 => ?_
  refine i2 e Ex hl env1 _ F1 σ H1 _ _ hh1 q1 fun w H2 F2 env2 y hh2 q2 => ?_
  obtain ⟨key, rfl, q2⟩ := q2
  obtain ⟨d, F3, env3, _, hh3, rd, q3⟩ := hh2.frz1 q2
  obtain ⟨b', rfl, hb'⟩ := ints_rep (hh3.temps (u, .ext (kT key)) List.mem_cons_self)
  have hh4 := hh3.pop
  obtain ⟨_, _, kbs, hH, en⟩ := dt_ok.1 (hh4.temps (V.ref p, dtS p []) List.mem_cons_self)
  have ev : kbs = [] := List.map_eq_nil_iff.1 (entT_iff.1 en).1
  subst ev
  have en2 : EntT G.K F3 [(key, d)] [(key, b', w)] := EntT.put rd hb' EntT.nil
  refine ⟨hH, b', key, w, rfl, TupD.same hh4.fh hb', hR _ _ F3 env3 (dtS p [(key, d)]) (hh4.retop (fun c hc => ?_) (fun c hc => .inl hc) (dt_ok.2 ⟨rfl, ?_, [(key, b', w)], upd_same, en2⟩)) (q3 p)⟩
  · exact upd_ne fun z => hc (by rw [z]; exact List.mem_singleton.mpr rfl)
  · exact (hh4.ownedH p (List.mem_append_right _ (List.mem_append_left _ (List.mem_singleton.mpr rfl)))).1⟩
def dGet2T (i : Nat) (te tf : DT) : DT := fun Ex env Q => (∃ kvs, dtAt env i kvs) ∧ te Ex env fun y env1 => tf Ex env1 fun z env2 => frzD env2 z fun d3 env3 => ∃ key kvs, y = .ext (kT key) ∧ dtAt env3 i kvs ∧ Q (.ext ((luK kvs key).getD d3)) env3
theorem de_get2T (i : Nat) (hb : DE G N sc k b tb) (hc : DE G N sc k c tc) (hv : VisV N sc i x := by exact ⟨rfl, by first | exact Or.inl rfl | exact Or.inr (Or.inl rfl) | exact Or.inr (Or.inr rfl), by decide, by decide⟩)
    (m : M2S (.Name x py) "get" apos b c cpos := by intro _; exact ⟨rfl, rfl, rfl, rfl⟩) : DE G N sc k (.Call (.Attribute (.Name x py) "get" apos) [b, c] [] cpos) (dGet2T i tb tc) := ⟨fun W => by
  obtain ⟨tf, p2, i2⟩ := hb.ex W
  obtain ⟨tg, p3, i3⟩ := hc.ex W
  refine ⟨tTGet2 G.K (tVar i) tf tg, fun X S => ?_, fun e Ex hl env T F σ H Q R hh ht hR => ?_⟩
  · rw [← S.K]
    exact pe_tget2 S.u1 (pe_var (by rw [S.nms]; exact hv.1) (S.vis hv.2.1) hv.2.2.1 hv.2.2.2) (p2 X S) (p3 X S) (m X)
  obtain ⟨⟨kvs0, w0⟩, ht⟩ := ht
  obtain ⟨a0, kbs0, hs0, rd0, en0⟩ := hh.dtAt w0
  refine ⟨_, hs0, a0, kbs0, rfl, rd0, en0.2.same hh.fh, ?_⟩
  refine i2 e Ex hl env T F σ H _ _ hh ht fun u H1 F1 env1 y hh1 q1 => ?_
  refine i3 e Ex hl env1 _ F1 σ H1 _ _ hh1 q1 fun w H2 F2 env2 z hh2 q2 => ?_
  obtain ⟨d3, F3, env3, _, hh3, rd3, q3⟩ := hh2.frz1 q2
  obtain ⟨key, kvs, rfl, w1, q⟩ := q3
  obtain ⟨b', rfl, hb'⟩ := ints_rep (hh3.temps (u, .ext (kT key)) List.mem_cons_self)
  obtain ⟨ad, kbs, hs1, rd, en⟩ := hh3.dtAt w1
  rw [hs0] at hs1
  cases hs1
  refine ⟨b', kbs, key, rfl, rd, en.2.same hh3.fh, TupD.same hh3.fh hb', ?_⟩
  have hl1 := en.1.lu key
  cases hk : luK kvs key with
  | some d =>
    obtain ⟨v, hv', rv⟩ := hl1.1 d hk
    rw [hv']
    rw [hk] at q
    exact hR v H2 F3 env3 (.ext d) (hh3.pop.pushE rv) q
  | none =>
    have e0 : luK (kvB kbs) key = none := by
      have := hl1.2
      rw [hk] at this
      cases hv2 : luK (kvB kbs) key with
      | none => rfl
      | some _ => rw [hv2] at this; cases this
    rw [e0]
    rw [hk] at q
    exact hR w H2 F3 env3 (.ext d3) (hh3.pop.pushE rd3) q⟩
def dDGetTmp (ta tb : DT) : DT := fun Ex env Q => ta Ex env fun x env1 => tb Ex env1 fun y env2 => ∃ a kvs key d, x = dtS a kvs ∧ y = .ext (kT key) ∧ luK kvs key = some d ∧ Q (.ext d) env2
end
end HD
namespace LS
open PM
theorem perm_map_inv {α β : Type} {f : α → β} {l : List α} {m : List β} (h : m.Perm (l.map f)) : ∃ k : List α, k.Perm l ∧ m = k.map f := by
  generalize e : l.map f = m' at h
  induction h generalizing l with
  | nil => exact ⟨[], by rw [List.map_eq_nil_iff.1 e], rfl⟩
  | cons x _ ih =>
    cases l with
    | nil => cases e
    | cons a l =>
      rw [List.map_cons, List.cons.injEq] at e
      obtain ⟨k, hk, rfl⟩ := ih e.2
      exact ⟨a :: k, hk.cons a, by rw [List.map_cons, e.1]⟩
  | swap x y t =>
    match l, e with
    | a :: b :: l, e =>
      rw [List.map_cons, List.map_cons, List.cons.injEq, List.cons.injEq] at e
      exact ⟨b :: a :: l, List.Perm.swap _ _ _, by rw [List.map_cons, List.map_cons, e.1, e.2.1, e.2.2]⟩
  | trans _ _ i1 i2 =>
    obtain ⟨k, hk, rfl⟩ := i2 e
    obtain ⟨k', hk', rfl⟩ := i1 rfl
    exact ⟨k', hk'.trans hk, rfl⟩
end LS
namespace LS
namespace FL
open PySem L2 HD PM BT
local macro_rules | `(tactic| and_intros) => `(tactic| try simp -dsimp only [↓sIf, ↓sRet, ↓retD_ext, ↓retD_lst, ↓retD_al, ↓sSet, ↓sSetE, ↓sAsg, ↓sDrop, ↓sNext, ↓sFor, ↓sRetN, ↓sCont, ↓sBreak, ↓dTest, ↓dOp, ↓dC, ↓dCons, ↓dNil, ↓dTup, ↓dLst, ↓frzDs, ↓frzD_ext, ↓frzD_lst, ↓frzD_al, ↓wd_ext, ↓wd_lst, ↓wd_al, ↓wds, ↓AtS_ext, ↓AtS_lst, ↓AtL, ↓fAdd, ↓fSub, ↓fMul, ↓fDiv, ↓fMod, ↓fPow, ↓fCmp, ↓fIn, ↓fEq_ii, ↓fEq_ss, ↓fEq_bb, ↓fEq_tt, ↓fEq_ll, ↓fNe_ii, ↓fNe_ss, ↓fNe_bb, ↓fNe_tt, ↓fNe_ll, ↓fIx_l, ↓fIx_t, ↓fIx_k, ↓fIx_f, ↓GetS_some, ↓NatS_some, ↓fSl, ↓fIsN, ↓fNotN, ↓D.knN, ↓dNot, ↓dAnd, ↓dOr, ↓dAndV_w, ↓dOrV_w, ↓dNotV, ↓dIf, ↓dNeg, ↓dChain_w, ↓BlS_bl, ↓dCall_w, ↓dCallJ_w, ↓anyAl, ↓frozs, ↓froz, ↓gSet, ↓gTupD, ↓gsCons, ↓gsNil, ↓dSeq, ↓seqD_tup, ↓seqD_elst, ↓seqD_lst, ↓seqD_al, ↓dRange1, ↓dRange2, ↓dZip, ↓dCB, ↓dLc, ↓dYes, ↓dNoPart, ↓dPart, ↓dSl, ↓fLen, ↓fMin, ↓fMax, ↓fSum, ↓fAll, ↓fAny, ↓fSorted, ↓fTuple, ↓fList, ↓dRg1, ↓dRg2, ↓dLstRg, ↓dTupRg, ↓dIndex, ↓fIdx, ↓dAppend_w, ↓dExtend_w, ↓extD_lst, ↓dPopAt_w, ↓popD_int, ↓dPop_w, ↓mutD_w, ↓sSetItem_w, ↓setD_int, ↓dSortSet, ↓dTable_w, ↓wipeE, finals1, finals2, finals3, finals4, finals5, finals6, fin1_ext, fin1_lst, List.getElem?_cons_zero, List.getElem?_cons_succ, List.getElem?_nil, List.set_cons_zero, List.set_cons_succ, List.cons_append, List.nil_append, List.append_nil, List.replicate_succ, List.replicate_zero, List.map_cons, List.map_nil, List.length_cons, List.length_nil, true_and, and_true, ite_true, ite_false, if_true, if_false, Bool.false_eq_true, decide_eq_true_eq, Sl.plain, D.isSq, eq_self_iff_true, forall_const, reduceIte, true_or, or_true, atI_0, atI_1, atI_2, atI_3, ixN_0, ixN_1, ixN_2, AtS_ext, AtS_lst, FzS_lst, FzS_ext, GetS_some, NatS_some, ↓fIsi1, ↓fIsi2, BoolS_some, HD.kb_non_tuple, HD.kb_non_list, HD.kb_non_bool, HD.kb_non_int, HD.kb_non_str, HD.kb_bl_tuple, HD.kb_bl_list, HD.kb_bl_bool, HD.kb_bl_int, HD.kb_bl_str, HD.kb_int_tuple, HD.kb_int_list, HD.kb_int_bool, HD.kb_int_int, HD.kb_int_str, HD.kb_str_tuple, HD.kb_str_list, HD.kb_str_bool, HD.kb_str_int, HD.kb_str_str, HD.kb_lst_tuple, HD.kb_lst_list, HD.kb_lst_bool, HD.kb_lst_int, HD.kb_lst_str, HD.kb_tup_tuple, HD.kb_tup_list, HD.kb_tup_bool, HD.kb_tup_int, HD.kb_tup_str, ↓sFz_w, ↓FzS_lst, ↓FzS_ext, ↓dSortSetL, ↓fAbs, ↓fInt, ↓fRepr, ↓fLtT, ↓sRaise, ↓sTryKeep, ↓dCallV_w, ↓dMeth, ↓fCount, ↓fSplit, ↓seq_setE, ↓seq_set, ↓seq_drop, ↓seq_asg, ↓seq_if, ↓seq_for, ↓dStep, ↓fStep, ↓fMulT, ↓fIsB, ↓fNotB, ↓sPar, ↓dEnum, ↓dListZip, ↓dNest, ↓sSeal, ↓dNApp, ↓retD_reg, ↓dLenSet, ↓fSum2, ↓seq_putD, ↓seq_sealD, ↓dDIn, ↓dDGet, ↓sPutD, ↓dDNew, ↓dDOne, ↓sSealD, ↓dKeys, ↓keyS_dk, ↓dExtT, ↓fSortT, ↓fMinP, ↓dRemove, ↓dDInT, ↓dDGetT, ↓sPutDT, ↓dDNewT, ↓sSealDT, ↓dKeysT, ↓keyST_dt, ↓fSortK, ↓seq_putDT, ↓seq_sealDT, ↓dVarR_w, ↓dAttr, ↓dAppR, ↓dExtR_w, ↓dExtTR_w, ↓dClrR, ↓dPopR_w, ↓dIxR_w, ↓dDGetR, ↓dDInR, ↓dGet2R, ↓dPop1R, ↓dPop2R, ↓dDGetTR, ↓dDInTR, ↓dPop1TR, ↓dCallM, ↓dMethO, ↓dMake, ↓dMoveR, ↓dPtr, ↓sAttr, ↓sSetR, ↓sPutR, ↓sPutTR, ↓sSetA_w, ↓sSetG_w, ↓seq_setG, ↓seq_setA, ↓seq_attr, ↓seq_setR, ↓seq_putR, ↓seq_putTR, ↓RegS_reg, ↓CellS_some, ↓RefS_reg, ↓RefS_ar, ↓cellS_ar, ↓wd_ar, ↓seqD_ar, ↓lstO_lst, ↓insO_ins, ↓dkO_dk, ↓dkO_lk, ↓dtO_dt, ↓dtO_lk, ↓dkW_dk, ↓dtW_dt, ↓stoS_ext, ↓stoS_reg, ↓stoS_lstT, ↓stoS_lstF, ↓stoS_al, ↓ptrD_ref, ↓ptrD_int, ↓ptrD_str, ↓ptrD_bl, ↓ptrD_non, ↓ptrD_tup, ↓ptrD_tk, ↓ptrD_lst, ↓ptrD_fz, ↓setGS_lst, ↓setGS_reg, ↓setAS_ar, ↓setAS_ext, ↓intS_int, ↓tupS_tup, ↓lstS_lst, ↓lstK, ↓dkK, ↓dtK, ↓retD_reg, ↓dSortSetB, ↓fSortD, ↓dCallD, ↓regC_reg, ↓dMoveL, ↓dMoveR_w, ↓dDictP, ↓froz_lst, ↓froz_ext, ↓dUpdTR, ↓dSortSetP, ↓HD.dStep, ↓dChain3, ↓fSortE, ↓fSortLen, ↓fMinQ, ↓dDOneT, ↓dGet2T, ↓dDGetTmp, ↓dv0, ↓dw0, ↓dv1, ↓dw1, ↓dv2, ↓dw2, ↓dv3, ↓dw3, ↓dv4, ↓dw4, ↓dv5, ↓dw5, ↓dv6, ↓dw6, ↓dv7, ↓dw7, ↓dv8, ↓dw8, ↓dv9, ↓dw9, ↓dv10, ↓dw10, ↓dv11, ↓dw11, ↓dv12, ↓dw12, ↓dv13, ↓dw13, ↓dv14, ↓dw14, ↓dv15, ↓dw15, ↓dv16, ↓dw16, ↓dv17, ↓dw17, ↓dv18, ↓dw18, ↓dv19, ↓dw19])
theorem hsz {k : Nat} (hk : k ≤ 10000) : k ≤ sizeLine := Nat.le_trans hk (by decide)
theorem lu_map {β : Type} (g : List Nat → β) {l : List (List Nat)} {s : List Nat} (h : s ∈ l) : luK (l.map fun s => (cI s, g s)) (cI s) = some (g s) := by
  induction l with
  | nil => cases h
  | cons x l ih =>
    rw [List.map_cons, luK_cons]
    by_cases e : cI x = cI s
    · rw [if_pos e, cI_inj e]
    · rw [if_neg e]
      exact ih ((List.mem_cons.1 h).resolve_left fun z => e (by rw [z]))
theorem pt_map {β : Type} (g : List Nat → β) {l : List (List Nat)} {s : List Nat} (h : s ∉ l) (d : β) : ptK (l.map fun s => (cI s, g s)) (cI s) d = l.map (fun s => (cI s, g s)) ++ [(cI s, d)] := by
  unfold ptK
  rw [if_neg]
  intro z
  rw [List.any_map, List.any_eq_true] at z
  obtain ⟨x, hx, hk⟩ := z
  exact h (cI_inj (of_decide_eq_true hk) ▸ hx)
theorem kT_c (s : List Nat) : kT (cI s) = .tup (nD s) := by
  unfold kT nD cI
  rw [List.map_map]
  rfl
def sp_need_few : DSpec := fun args Q X => ∃ (S : List Nat) (ps : List Part), args = [.ext (dSh S ps)] ∧ (S.length ≤ 8 → ∀ fin, Q (.ext .non) fin) ∧ (8 < S.length → ∀ fin, X "TooMany" fin)
def t_need_few : DTS :=
    (sIf (dTest (dOp (fCmp fun i j => decide (j < i)) (dCB fLen (dCons (dOp fIx (dVar 0) (dC (.int 0))) dNil)) (dC (.int 8)))) (sRaise "TooMany") sNext)
theorem m_need_few : Meets t_need_few 1 0 sp_need_few := by
  rintro args Qd Xd ⟨S, ps, rfl, hQ, hX⟩
  show t_need_few _ _ [_]
  unfold t_need_few
  and_intros
  rw [nD_len]
  by_cases h : 8 < S.length
  · rw [if_pos (by omega)]
    exact hX h _
  · rw [if_neg (by omega)]
    exact hQ (by omega) _
theorem noVals_fD (L : List (List Nat)) : D.noVals (fD L) = true := by
  induction L with
  | nil => rfl
  | cons B L ih =>
    show ((D.tup (nD B)).noVal && D.noVals (fD L)) = true
    rw [ih, Bool.and_true]
    show D.noVals (nD B) = true
    induction B with
    | nil => rfl
    | cons x B ihB => exact ihB
def sp_all_sets : DSpec := fun args Q _ => ∃ n : Nat, args = [dI (n : Nat)] ∧ n ≤ 8 ∧ ∀ a L fin, L.Perm (setsN n) → L.Pairwise (fun a b : List Nat => a.length ≤ b.length) → Q (.lst a (fD L)) fin
def e1_all_sets : DT :=
    (dOp fAdd (dVar 3) (dTup (dCons (dVar 2) dNil)))
def b2_all_sets : DTS :=
    (sSetE 1 (dOp fAdd (dVar 1) (dLc (dSeq (dVar 1)) (gSet 3) dYes e1_all_sets [3])))
def k3_all_sets : DTS :=
    (sRet (dCB fSortLen (dCons (dVar 1) dNil)))
def t_all_sets : DTS :=
    (sSeq (sSetE 1 (dLst (dCons (dTup dNil) dNil)))
    (sSeq (sFor (dRange1 (dCons (dVar 0) dNil)) (gSet 2) b2_all_sets)
    k3_all_sets))
theorem m_all_sets : Meets t_all_sets 1 3 sp_all_sets := by
  rintro args Qd Xd ⟨n, rfl, hn, hQ⟩
  show t_all_sets _ _ [_, .un, .un, .un]
  unfold t_all_sets
  and_intros
  refine ⟨by decide, by decide, ⟨by omega, by omega⟩, ?_⟩
  rw [rgD_nat]
  refine for_ind (fun i : Nat => D.int (i : Nat)) (fun xs env => ∃ (u2 : Sl) (m : Nat), env = [dI (n : Nat), .ext (.lst (fD (setsN m))), u2, .un] ∧ List.range n = List.range m ++ xs) ?_ ?_ (List.range n) _ ⟨_, 0, rfl, rfl⟩
  · rintro env ⟨u2, m, rfl, he⟩
    rw [List.append_nil] at he
    have e : n = m := by
      have := congrArg List.length he
      rwa [List.length_range, List.length_range] at this
    subst e
    refine ⟨True.intro, ?_⟩
    unfold k3_all_sets
    and_intros
    obtain ⟨t, et⟩ := sets_cons n
    refine ⟨noVals_fD _, fun d hd => ?_, fun ds' a hp hs => ?_⟩
    · obtain ⟨B, hB, rfl⟩ := List.mem_map.1 hd
      refine ⟨nD B, rfl, ?_⟩
      rw [nD_len]
      have := rising_len (mem_sets.1 hB).1 (mem_sets.1 hB).2
      omega
    · obtain ⟨L, hL, rfl⟩ := perm_map_inv hp
      exact hQ a L _ hL ((List.pairwise_map.1 hs).imp fun {a b} h => by
        have h : (nD a).length ≤ (nD b).length := h
        rwa [nD_len, nD_len] at h)
  · rintro k xs env N ⟨u2, m, rfl, he⟩ hN
    have ek : k = m := by
      have h1 : (List.range n)[m]? = (List.range m ++ k :: xs)[m]? := by rw [he]
      rw [List.getElem?_append_right (by rw [List.length_range]; exact Nat.le_refl _), List.length_range, Nat.sub_self] at h1
      have hm : m < n := by
        have := congrArg List.length he
        rw [List.length_append, List.length_range, List.length_range, List.length_cons] at this
        omega
      rw [List.getElem?_range hm] at h1
      exact (Option.some.inj h1).symm
    subst ek
    have hm : k < n := List.mem_range.1 (by rw [he]; simp)
    have hl : (setsN k).length ≤ 128 := by
      rw [sets_len]
      exact Nat.le_trans (Nat.pow_le_pow_right (by decide) (by omega : k ≤ 7)) (by decide)
    refine ⟨True.intro, ?_⟩
    unfold b2_all_sets
    and_intros
    refine lc_map (fun B : List Nat => D.tup (nD B)) (fun B => D.tup (nD (B ++ [k]))) True.intro (setsN k) (hsz (by omega)) (fun B hB R hR => ?_) fun a => ?_
    · unfold e1_all_sets
      and_intros
      have := rising_len (mem_sets.1 hB).1 (mem_sets.1 hB).2
      refine ⟨by decide, hsz (by rw [nD_len]; omega), ?_⟩
      rw [show nD B ++ [D.int (k : Nat)] = nD (B ++ [k]) by rw [nD_app]; rfl]
      exact hR
    and_intros
    refine ⟨hsz (by rw [List.length_map, List.length_map]; omega), ?_⟩
    rw [show fD (setsN k) ++ (setsN k).map (fun B => D.tup (nD (B ++ [k]))) = fD (setsN (k + 1)) by
      rw [setsN, fD_app]
      congr 1
      show _ = ((setsN k).map (· ++ [k])).map fun B => D.tup (nD B)
      rw [List.map_map]
      rfl]
    exact hN _ ⟨_, k + 1, rfl, by rw [List.range_succ, List.append_assoc]; exact he⟩
def sp_is_floor : DSpec := fun args Q _ => ∃ (n : Nat) (d : D) (k : Nat), args = [dI (n : Nat), .ext d] ∧ D.pl k d = true ∧ ∀ (b : Bool) fin, (b = true ↔ ∃ (s : List Nat) (i : Int), d = .tup [.tup (nD s), .int i] ∧ Rising s ∧ ∀ m ∈ s, m < n) → Q (.ext (.bl b)) fin
def k1_is_floor : DTS :=
    (sRet (dAndV (dCall sp_are_names (dCons (dVar 0) (dCons (dOp fIx (dVar 1) (dC (.int 0))) dNil))) (dCall sp_is_whole (dCons (dOp fIx (dVar 1) (dC (.int 1))) dNil))))
def t_is_floor : DTS :=
    (sSeq (sIf (dOr (dNot (dTest (dCB fIsi (dCons (dVar 1) (dCons (dC (.val (.ty "tuple"))) dNil))))) (dTest (dOp fNe (dCB fLen (dCons (dVar 1) dNil)) (dC (.int 2))))) (sRet (dC (.bl false))) sNext)
    k1_is_floor)
theorem m_is_floor : Meets t_is_floor 2 0 sp_is_floor := by
  rintro args Qd Xd ⟨n, d, k, rfl, hp, hQ⟩
  show t_is_floor _ _ [_, _]
  unfold t_is_floor
  and_intros
  have nv := pl_noVal k d hp
  have no : ∀ {d : D}, (∀ (s : List Nat) (i : Int), d ≠ .tup [.tup (nD s), .int i]) → (false = true ↔ ∃ (s : List Nat) (i : Int), d = .tup [.tup (nD s), .int i] ∧ Rising s ∧ ∀ m ∈ s, m < n) := fun h => ⟨fun z => (nomatch z), fun ⟨s, i, e, _⟩ => absurd e (h s i)⟩
  cases d with
  | val _ => cases k <;> simp [D.pl] at hp
  | fz _ => cases k <;> simp [D.pl] at hp
  | tk _ => cases k <;> simp [D.pl] at hp
  | exc _ => cases k <;> simp [D.pl] at hp
  | glo _ => cases k <;> simp [D.pl] at hp
  | dk _ _ => cases k <;> simp [D.pl] at hp
  | dt _ _ => cases k <;> simp [D.pl] at hp
  | tup ds =>
    obtain ⟨j, rfl, hl, hds⟩ := pl_tup hp
    and_intros
    refine ⟨nv, rfl, ?_⟩
    and_intros
    rw [if_neg (by decide)]
    by_cases h2 : ds.length = 2
    · rw [if_neg (by simp [h2])]
      obtain ⟨x, y, rfl⟩ : ∃ x y, ds = [x, y] := by
        match ds, h2 with
        | [x, y], _ => exact ⟨x, y, rfl⟩
      unfold k1_is_floor
      and_intros
      refine ⟨(n : Nat), x, j, rfl, hds x (by simp), fun b fin hb => ?_⟩
      and_intros
      cases b with
      | false =>
        rw [if_neg (by decide)]
        refine hQ _ _ ⟨fun z => (nomatch z), fun ⟨s, i, e, h1, h3⟩ => ?_⟩
        exact absurd (hb.2 ⟨s, (List.cons.inj (D.tup.inj e)).1, h1, fun m hm => by have := h3 m hm; omega⟩) (by decide)
      | true =>
        rw [if_pos rfl]
        obtain ⟨s, rfl, h1, h4⟩ := hb.1 rfl
        refine ⟨y, j, rfl, hds y (by simp), fun fin => ?_⟩
        and_intros
        refine hQ _ _ ?_
        constructor
        · intro h
          cases y with
          | int i => exact ⟨s, i, rfl, h1, fun m hm => by have := h4 m hm; omega⟩
          | _ => cases h
        · rintro ⟨s', i, e, _⟩
          rw [(List.cons.inj (List.cons.inj (D.tup.inj e)).2).1]
          rfl
    · rw [if_pos (by simp; omega)]
      refine hQ _ _ (no fun s i e => h2 (by rw [D.tup.inj e]; rfl))
  | _ =>
    and_intros
    simp only [nv, D.isFz, true_and, Bool.not_true, Bool.not_false, if_true]
    exact hQ _ _ (no fun s i e => by cases e)
abbrev dtF (l : List (List Nat)) (f : List Nat → Int) : D := dtD (l.map fun s => (cI s, D.int (f s)))
open Classical in
def sp_holds : DSpec := fun args Q _ => ∃ (S : List Nat) (ps : List Part) (l : List (List Nat)) (f : List Nat → Int) (s : List Nat), args = [.ext (dSh S ps), .ext (tiD S.length (gsOf ps)), .ext (dtF l f), .ext (.tup (nD s))] ∧ SzOk S ∧ S.length ≤ 24 ∧ Rising s ∧ (∀ m ∈ s, m < S.length) ∧ s ∈ l ∧ (∀ x ∈ s, wo s x ∈ l) ∧
  ∀ (b : Bool) fin, (b = true ↔ (s = [] → f [] ≤ 1) ∧ ∀ x ∈ s, f s ≤ max (f (wo s x)) (psz S (bagN S.length (gsOf ps) (wo s x) x) : Nat)) → Q (.ext (.bl b)) fin
def e1_holds : DT :=
    (dVar 6)
def b2_holds : DTS :=
    (sSeq (sSetE 5 (dCB fTuple (dCons (dLc (dSeq (dVar 3)) (gSet 6) (dTest (dOp fNe (dVar 6) (dVar 4))) e1_holds [6]) dNil)))
    (sIf (dTest (dOp (fCmp fun i j => decide (j < i)) (dDGetT 2 (dVar 3)) (dCB fMax (dCons (dDGetT 2 (dVar 5)) (dCons (dCall sp_room_by (dCons (dVar 0) (dCons (dCall sp_bag_by (dCons (dVar 1) (dCons (dVar 5) (dCons (dVar 4) dNil)))) dNil))) dNil))))) (sRet (dC (.bl false))) sNext))
def k3_holds : DTS :=
    (sRet (dC (.bl true)))
def t_holds : DTS :=
    (sSeq (sIf (dTest (dOp fEq (dVar 3) (dTup dNil))) (sRet (dOp (fCmp fun i j => decide (i ≤ j)) (dDGetT 2 (dVar 3)) (dC (.int 1)))) sNext)
    (sSeq (sFor (dSeq (dVar 3)) (gSet 4) b2_holds)
    k3_holds))
theorem m_holds : Meets t_holds 4 3 sp_holds := by
  rintro args Qd Xd ⟨S, ps, l, f, s, rfl, hS, h24, hr, hlt, hs, hw, hQ⟩
  show t_holds _ _ [_, _, _, _, .un, .un, .un]
  unfold t_holds
  and_intros
  have hsl := rising_len hr hlt
  refine ⟨by decide, cmp_natsT s, cmp_natsT [], ?_⟩
  have dta : dtAt [.ext (dSh S ps), .ext (tiD S.length (gsOf ps)), .ext (dtF l f), .ext (.tup (nD s)), .un, .un, .un] 2 (l.map fun s => (cI s, D.int (f s))) := .inr rfl
  cases s with
  | nil =>
    rw [if_pos (by decide : (D.tup (nD [])).eqv (D.tup []) = true)]
    refine ⟨⟨_, dta⟩, [], _, _, rfl, dta, lu_map (fun s => D.int (f s)) hs, ?_⟩
    and_intros
    exact hQ _ _ (by
      rw [decide_eq_true_eq]
      exact ⟨fun h => ⟨fun _ => h, fun x hx => nomatch hx⟩, fun h => h.1 rfl⟩)
  | cons y s' =>
    rw [if_neg (by show ¬ (D.eqv (.tup (nD (y :: s'))) (.tup [])) = true; exact (by decide : ¬ (false = true)))]
    generalize hss : y :: s' = s at *
    have hne : s ≠ [] := by rw [← hss]; exact fun z => nomatch z
    refine for_ind (fun x : Nat => D.int (x : Nat)) (fun xs env => ∃ (u4 u5 : Sl) (pre : List Nat), env = [.ext (dSh S ps), .ext (tiD S.length (gsOf ps)), .ext (dtF l f), .ext (.tup (nD s)), u4, u5, .un] ∧ s = pre ++ xs ∧ ∀ x ∈ pre, f s ≤ max (f (wo s x)) (psz S (bagN S.length (gsOf ps) (wo s x) x) : Nat)) ?_ ?_ s _ ⟨_, _, [], rfl, rfl, fun x hx => nomatch hx⟩
    · rintro env ⟨u4, u5, pre, rfl, he, hpre⟩
      rw [List.append_nil] at he
      refine ⟨True.intro, ?_⟩
      unfold k3_holds
      and_intros
      exact hQ _ _ ⟨fun _ => ⟨fun z => absurd z hne, fun x hx => hpre x (he ▸ hx)⟩, fun _ => rfl⟩
    · rintro x xs env N ⟨u4, u5, pre, rfl, he, hpre⟩ hN
      have hx : x ∈ s := by rw [he]; simp
      refine ⟨True.intro, ?_⟩
      unfold b2_holds
      and_intros
      refine lc_filter (fun m : Nat => D.int (m : Nat)) (fun m : Nat => D.int (m : Nat)) (fun m => decide (m ≠ x)) True.intro s (hsz (by omega)) (fun m hm R hR => ?_) fun a => ?_
      · and_intros
        by_cases e : m = x
        · rw [if_neg (by rw [e]; simp)]
          rw [if_neg (by simpa using e)] at hR
          exact hR
        · rw [if_pos (by rw [Bool.not_eq_true', beq_eq_false_iff_ne]; omega)]
          rw [if_pos (by simpa using e)] at hR
          unfold e1_holds
          and_intros
          exact hR
      · and_intros
        rw [show (s.filter fun m => decide (m ≠ x)) = wo s x from rfl]
        have dtb : dtAt [.ext (dSh S ps), .ext (tiD S.length (gsOf ps)), .ext (dtF l f), .ext (.tup (nD s)), dI (x : Nat), .ext (.tup (nD (wo s x))), .un] 2 (l.map fun s => (cI s, D.int (f s))) := .inr rfl
        refine ⟨⟨_, dtb⟩, _, _, _, congrArg Sl.ext (kT_c s).symm, dtb, lu_map (fun s => D.int (f s)) hs, ?_⟩
        refine ⟨⟨_, dtb⟩, _, _, _, congrArg Sl.ext (kT_c (wo s x)).symm, dtb, lu_map (fun s => D.int (f s)) (hw x hx), ?_⟩
        have hxl := hlt x hx
        refine ⟨S.length, gsOf ps, wo s x, _, x, rfl, .inl rfl, h24, hxl, fun z => (mem_wo.1 z).2 rfl, fun fin => ?_⟩
        and_intros
        have hbr := bag_rising S.length (gsOf ps) (wo s x) x
        refine ⟨S, ps, _, rfl, hS, hbr.imp Nat.ne_of_lt, fun m hm => (mem_bag.1 hm).1, fun fin => ?_⟩
        and_intros
        generalize hr' : psz S (bagN S.length (gsOf ps) (wo s x) x) = r
        have emx : (if ((r : Nat) : Int) > f (wo s x) then ((r : Nat) : Int) else f (wo s x)) = max (f (wo s x)) (r : Nat) := by
          split <;> omega
        rw [emx]
        by_cases c : max (f (wo s x)) (r : Nat) < f s
        · rw [if_pos c]
          refine hQ _ _ ⟨fun z => (nomatch z), fun ⟨_, h⟩ => ?_⟩
          have := h x hx
          rw [hr'] at this
          omega
        · rw [if_neg c]
          refine hN _ ⟨_, _, pre ++ [x], rfl, by rw [List.append_assoc]; exact he, fun y hy => ?_⟩
          rcases List.mem_append.1 hy with hy | hy
          · exact hpre y hy
          · rw [List.mem_singleton.1 hy, hr']
            omega
theorem pl_lst {k : Nat} {ds : List D} (h : D.pl k (.lst ds) = true) : ∃ j, k = j + 1 ∧ ds.length ≤ 100000 ∧ ∀ d ∈ ds, D.pl j d = true := by
  cases k with
  | zero => cases h
  | succ j =>
    rw [D.pl, Bool.and_eq_true, decide_eq_true_eq, List.all_eq_true] at h
    exact ⟨j, rfl, h.1, h.2⟩
theorem cmp_fDL (l : List (List Nat)) : (D.lst (fD l)).cmp := pi_cmp (k := 2) (by decide) (by
  rw [D.pi, fD, List.all_map, List.all_eq_true]
  intro f _
  show D.pi 1 (.tup (nD f)) = true
  rw [D.pi]; exact pi_nats 0 f)
theorem eqvAll_natsF (l m : List Nat) : PyData.eqvAll (D.pys (nD l)) (D.pys (nD m)) = decide (l = m) := by
  induction l generalizing m with
  | nil => cases m <;> rfl
  | cons x l ih =>
    cases m with
    | nil => rfl
    | cons y m =>
      show (decide ((x : Int) = (y : Int)) && PyData.eqvAll (D.pys (nD l)) (D.pys (nD m))) = _
      rw [ih, Bool.eq_iff_iff]
      simp
      intro _
      omega
theorem eqv_fDL (a b : List (List Nat)) : (D.lst (fD a)).eqv (.lst (fD b)) = decide (a = b) := by
  have key : ∀ a b : List (List Nat), PyData.eqvAll (D.pys (fD a)) (D.pys (fD b)) = decide (a = b) := by
    intro a
    induction a with
    | nil => intro b; cases b <;> rfl
    | cons x a ih =>
      intro b
      cases b with
      | nil => rfl
      | cons y b =>
        show (PyData.eqvAll (D.pys (nD x)) (D.pys (nD y)) && PyData.eqvAll (D.pys (fD a)) (D.pys (fD b))) = _
        rw [eqvAll_natsF, ih, Bool.eq_iff_iff]
        simp
  exact key a b
theorem pys_nD (l : List Nat) : D.pys (nD l) = (cI l).map PyData.int := by
  induction l with
  | nil => rfl
  | cons x l ih => exact congrArg (PyData.int x :: ·) ih
theorem lt_sets (a b : List Nat) : W.dataLt (D.tup (nD a)).py (D.tup (nD b)).py = HT.lexLt (cI a) (cI b) := by
  show PyProof.Rows.lexLt PyProof.Rows.itemOrd (W.keyToksAll (D.pys (nD a))) (W.keyToksAll (D.pys (nD b))) = _
  rw [pys_nD, pys_nD]
  exact toks_ints _ _
theorem srt_sets {n : Nat} {L : List (List Nat)} (hp : L.Perm (setsN n)) (h0 : ∃ t, L = [] :: t) : SrtE (fD L) := by
  obtain ⟨t, et⟩ := h0
  refine ⟨noVals_fD L, ⟨fD t, by rw [et]; rfl⟩, fun d hd => ?_, fun x hx y hy => ?_, fun d hd => ?_⟩
  · obtain ⟨B, _, rfl⟩ := List.mem_map.1 hd
    exact ⟨_, rfl⟩
  · obtain ⟨d, hd, rfl⟩ := pys_mem' hx
    obtain ⟨B, _, rfl⟩ := List.mem_map.1 hd
    obtain ⟨e, he, rfl⟩ := pys_mem' hy
    obtain ⟨C, _, rfl⟩ := List.mem_map.1 he
    show W.alikeAll (D.pys (nD B)) (D.pys (nD C)) = true
    rw [pys_nD, pys_nD]
    exact HD.alike_ints _ _
  · obtain ⟨B, _, rfl⟩ := List.mem_map.1 hd
    show PyData.depthAll (D.pys (nD B)) + 1 ≤ 50
    rw [pys_nD, depth_all]
    decide
theorem sorted_sets {n : Nat} {L : List (List Nat)} {ds : List D} (hp : L.Perm (setsN n)) (hd : ds.Perm (fD L)) (hs : ds.Pairwise fun x y => W.dataLt y.py x.py = false) : ds = fD (setsL n) := by
  obtain ⟨M, hM, rfl⟩ := perm_map_inv hd
  show fD M = _
  rw [setsL_uniq (hM.trans hp) ((List.pairwise_map.1 hs).imp fun {a b} h => by rwa [lt_sets] at h)]
theorem len_first {n : Nat} {L : List (List Nat)} (hp : L.Perm (setsN n)) (hl : L.Pairwise fun a b : List Nat => a.length ≤ b.length) : ∃ t, L = [] :: t := by
  have h0 : [] ∈ L := hp.mem_iff.2 (mem_sets.2 ⟨List.Pairwise.nil, fun m hm => nomatch hm⟩)
  cases L with
  | nil => cases h0
  | cons x t =>
    rcases List.mem_cons.1 h0 with e | h1
    · exact ⟨t, by rw [← e]⟩
    · have := (List.pairwise_cons.1 hl).1 [] h1
      rw [List.length_nil] at this
      exact ⟨t, by rw [List.length_eq_zero_iff.1 (by omega : x.length = 0)]⟩
theorem fun_of {β : Type} : ∀ (L : List (List Nat × β)), (L.map (·.1)).Nodup → β → ∃ f : List Nat → β, L = (L.map (·.1)).map fun s => (s, f s)
  | [], _, b => ⟨fun _ => b, rfl⟩
  | (s, y) :: L, nd, b => by
    obtain ⟨n1, n2⟩ := List.nodup_cons.1 nd
    obtain ⟨f, e⟩ := fun_of L n2 b
    refine ⟨fun t => if t = s then y else f t, ?_⟩
    rw [List.map_cons, List.map_cons]
    have e1 : (if s = s then y else f s) = y := if_pos rfl
    show (s, y) :: L = (s, if s = s then y else f s) :: _
    rw [e1]
    congr 1
    refine e.trans (List.map_congr_left fun t ht => ?_)
    show (t, f t) = (t, if t = s then y else f t)
    have hts : ¬ t = s := fun z => n1 (z ▸ ht)
    rw [if_neg hts]
open Classical in
def FloorsD (S : List Nat) (gs : List (List Nat)) (d : D) (number : Int) : Prop := ∃ f : List Nat → Int, d = .lst ((setsL S.length).map fun s => .tup [.tup (nD s), .int (f s)]) ∧ FlOk S gs f number
def sp_are_floors : DSpec := fun args Q X => ∃ (S : List Nat) (ps : List Part) (d : D) (k : Nat) (number : Int), args = [.ext (dSh S ps), .ext d, dI number] ∧ NsOk S ps ∧ SzOk S ∧ D.pl k d = true ∧ (∀ ds, d = .lst ds → ds.length ≤ 10000) ∧
  (S.length ≤ 8 → ∀ (b : Bool) fin, (b = true ↔ FloorsD S (gsOf ps) d number) → Q (.ext (.bl b)) fin) ∧ (8 < S.length → ∀ fin, X "TooMany" fin)
def e1_are_floors : DT :=
    (dCall sp_is_floor (dCons (dVar 3) (dCons (dVar 4) dNil)))
def e2_are_floors : DT :=
    (dOp fIx (dVar 4) (dC (.int 0)))
def e3_are_floors : DT :=
    (dCall sp_holds (dCons (dVar 0) (dCons (dVar 6) (dCons (dVar 5) (dCons (dVar 7) dNil)))))
def k4_are_floors : DTS :=
    (sSeq (sIf (dTest (dOp fNe (dLc (dSeq (dVar 1)) (gSet 4) dYes e2_are_floors [4]) (dCB fSortE (dCons (dCall sp_all_sets (dCons (dVar 3) dNil)) dNil)))) (sRet (dC (.bl false))) sNext)
    (sSeq (sSet 5 (dDictP (dVar 1)))
    (sSeq (sSetE 6 (dCall sp_ties_of (dCons (dVar 0) dNil)))
    (sSeq (sSealDT 5 (sIf (dNot (dTest (dCB fAll (dCons (dLc (dKeysT (dVar 5)) (gSet 7) dYes e3_are_floors [7]) dNil)))) (sRet (dC (.bl false))) sNext))
    (sRet (dOp fEq (dDGetT 5 (dTupRg (dRg1 (dVar 3)))) (dVar 2)))))))
def t_are_floors : DTS :=
    (sSeq (sDrop (dCall sp_need_few (dCons (dVar 0) dNil)))
    (sSeq (sSetE 3 (dCB fLen (dCons (dOp fIx (dVar 0) (dC (.int 0))) dNil)))
    (sSeq (sIf (dOr (dNot (dTest (dCB fIsi (dCons (dVar 1) (dCons (dC (.val (.ty "list"))) dNil))))) (dNot (dTest (dCB fAll (dCons (dLc (dSeq (dVar 1)) (gSet 4) dYes e1_are_floors [4]) dNil))))) (sRet (dC (.bl false))) sNext)
    k4_are_floors)))
open Classical in
theorem m_are_floors : Meets t_are_floors 3 5 sp_are_floors := by
  rintro args Qd Xd ⟨S, ps, d, k, number, rfl, ok, hS, hp, hl, hQ, hX⟩
  show t_are_floors _ _ [_, _, _, .un, .un, .un, .un, .un]
  unfold t_are_floors
  and_intros
  refine ⟨S, ps, rfl, fun h8 fin => ?_, fun h8 fin => hX h8 _⟩
  and_intros
  have nv := pl_noVal k d hp
  have hS8 := h8
  have no : ∀ {d : D}, (∀ f : List Nat → Int, d ≠ .lst ((setsL S.length).map fun s => .tup [.tup (nD s), .int (f s)])) → (false = true ↔ FloorsD S (gsOf ps) d number) := fun h => ⟨fun z => (nomatch z), fun ⟨f, e, _⟩ => absurd e (h f)⟩
  cases d with
  | val _ => cases k <;> simp [D.pl] at hp
  | fz _ => cases k <;> simp [D.pl] at hp
  | tk _ => cases k <;> simp [D.pl] at hp
  | exc _ => cases k <;> simp [D.pl] at hp
  | glo _ => cases k <;> simp [D.pl] at hp
  | dk _ _ => cases k <;> simp [D.pl] at hp
  | dt _ _ => cases k <;> simp [D.pl] at hp
  | lst ds =>
    obtain ⟨j, rfl, _, hds⟩ := pl_lst hp
    have hdl := hl ds rfl
    and_intros
    refine ⟨nv, rfl, ?_⟩
    and_intros
    rw [if_neg (by decide), nD_len]
    refine K01.lc_mapD (fun e : D => .bl (decide (∃ (s : List Nat) (i : Int), e = .tup [.tup (nD s), .int i] ∧ Rising s ∧ ∀ m ∈ s, m < S.length))) True.intro ds (hsz hdl) (fun e he R hR => ?_) fun b => ?_
    · unfold e1_are_floors
      and_intros
      refine ⟨S.length, e, j, rfl, hds e he, fun b fin hb => ?_⟩
      and_intros
      rw [show b = decide (∃ (s : List Nat) (i : Int), e = .tup [.tup (nD s), .int i] ∧ Rising s ∧ ∀ m ∈ s, m < S.length) by rw [Bool.eq_iff_iff, decide_eq_true_eq]; exact hb]
      exact hR
    and_intros
    refine ⟨ds.map fun e => decide (∃ (s : List Nat) (i : Int), e = .tup [.tup (nD s), .int i] ∧ Rising s ∧ ∀ m ∈ s, m < S.length), by rw [List.map_map]; rfl, ?_⟩
    by_cases c : ∀ e ∈ ds, ∃ (s : List Nat) (i : Int), e = .tup [.tup (nD s), .int i] ∧ Rising s ∧ ∀ m ∈ s, m < S.length
    · rw [if_neg (by
        have : (ds.map fun e => decide (∃ (s : List Nat) (i : Int), e = .tup [.tup (nD s), .int i] ∧ Rising s ∧ ∀ m ∈ s, m < S.length)).all id = true := by
          rw [List.all_map, List.all_eq_true]
          exact fun e he => decide_eq_true (c e he)
        rw [this]; decide)]
      obtain ⟨L, rfl, hL⟩ := all_of (fun p : List Nat × Int => D.tup [.tup (nD p.1), .int p.2]) (P := fun e => ∃ (s : List Nat) (i : Int), e = .tup [.tup (nD s), .int i] ∧ Rising s ∧ ∀ m ∈ s, m < S.length) (R := fun p => Rising p.1 ∧ ∀ m ∈ p.1, m < S.length) (fun d ⟨s, i, e, h⟩ => ⟨(s, i), e, h⟩) ds c
      rw [List.length_map] at hdl
      unfold k4_are_floors
      and_intros
      refine lc_map (fun p : List Nat × Int => D.tup [.tup (nD p.1), .int p.2]) (fun p => D.tup (nD p.1)) True.intro L (hsz hdl) (fun p hp R hR => ?_) fun b2 => ?_
      · unfold e2_are_floors
        and_intros
        exact hR
      and_intros
      refine ⟨S.length, rfl, h8, fun a L0 fin hp hs => ?_⟩
      and_intros
      refine ⟨srt_sets hp (len_first hp hs), fun ds' hp' hs' => ?_⟩
      rw [sorted_sets hp hp' hs']
      and_intros
      have eL : L.map (fun p => D.tup (nD p.1)) = fD (L.map (·.1)) := by
        unfold fD
        rw [List.map_map]
        rfl
      rw [eL]
      refine ⟨cmp_fDL _, cmp_fDL _, ?_⟩
      rw [eqv_fDL]
      by_cases c2 : L.map (·.1) = setsL S.length
      · rw [if_neg (by rw [decide_eq_true c2]; decide)]
        obtain ⟨f, eF⟩ := fun_of L (by rw [c2]; exact setsL_nodup _) 0
        rw [c2] at eF
        clear eL c2
        subst eF
        have hmem : ∀ {s : List Nat}, s ∈ setsL S.length ↔ Rising s ∧ ∀ m ∈ s, m < S.length := mem_setsL
        refine ⟨(setsL S.length).map fun s => (cI s, D.int (f s)), ?_, ?_, fun a5 => ?_⟩
        · rw [List.map_map, List.map_map]
          refine List.map_congr_left fun s _ => ?_
          show D.tup [.tup (nD s), .int (f s)] = D.tup [kT (cI s), .int (f s)]
          rw [kT_c]
        · rw [List.map_map]
          exact List.pairwise_map.2 ((setsL_nodup S.length).imp fun {a b} h e => h (cI_inj e))
        refine ⟨S, ps, rfl, ok, fun a6 fin => ?_⟩
        and_intros
        refine ⟨a5, _, rfl, ?_⟩
        have ek : (((setsL S.length).map fun s => (cI s, D.int (f s))).map (·.1)).map kT = (setsL S.length).map fun s => D.tup (nD s) := by
          rw [List.map_map, List.map_map]
          exact List.map_congr_left fun s _ => kT_c s
        rw [ek]
        have hsl : (setsL S.length).length ≤ 256 := by
          rw [setsL_len]
          exact Nat.le_trans (Nat.pow_le_pow_right (by decide) h8) (by decide)
        have ednr : ∀ s ∈ setsL S.length, ∀ x ∈ s, wo s x ∈ setsL S.length := fun s hs x _ => hmem.2 (wo_sets (hmem.1 hs) x)
        refine lc_map (fun s : List Nat => D.tup (nD s)) (fun s => .bl (decide ((s = [] → f [] ≤ 1) ∧ ∀ x ∈ s, f s ≤ max (f (wo s x)) (psz S (bagN S.length (gsOf ps) (wo s x) x) : Nat)))) True.intro (setsL S.length) (hsz (by omega)) (fun s hs R hR => ?_) fun b3 => ?_
        · unfold e3_are_floors
          and_intros
          refine ⟨S, ps, setsL S.length, f, s, rfl, hS, ok.few, (hmem.1 hs).1, (hmem.1 hs).2, hs, ednr s hs, fun b fin hb => ?_⟩
          and_intros
          rw [show b = decide ((s = [] → f [] ≤ 1) ∧ ∀ x ∈ s, f s ≤ max (f (wo s x)) (psz S (bagN S.length (gsOf ps) (wo s x) x) : Nat)) by rw [Bool.eq_iff_iff, decide_eq_true_eq]; exact hb]
          exact hR
        and_intros
        refine ⟨(setsL S.length).map fun s => decide ((s = [] → f [] ≤ 1) ∧ ∀ x ∈ s, f s ≤ max (f (wo s x)) (psz S (bagN S.length (gsOf ps) (wo s x) x) : Nat)), by rw [List.map_map]; rfl, ?_⟩
        have eD : (((setsL S.length).map fun s => (s, f s)).map fun p => D.tup [.tup (nD p.1), .int p.2]) = (setsL S.length).map fun s => D.tup [.tup (nD s), .int (f s)] := by
          rw [List.map_map]
          rfl
        have hiff : ∀ f' : List Nat → Int, D.lst (((setsL S.length).map fun s => (s, f s)).map fun p => D.tup [.tup (nD p.1), .int p.2]) = .lst ((setsL S.length).map fun s => .tup [.tup (nD s), .int (f' s)]) → ∀ s ∈ setsL S.length, f s = f' s := fun f' e s hs => by
          rw [eD] at e
          have e := List.map_inj_left.1 (D.lst.inj e) s hs
          have e := D.tup.inj e
          exact D.int.inj (List.cons.inj (List.cons.inj e).2).1
        have h0 : [] ∈ setsL S.length := hmem.2 ⟨List.Pairwise.nil, fun m hm => nomatch hm⟩
        have ht : List.range S.length ∈ setsL S.length := hmem.2 ⟨rising_range _, fun m hm => List.mem_range.1 hm⟩
        by_cases c3 : ∀ s ∈ setsL S.length, (s = [] → f [] ≤ 1) ∧ ∀ x ∈ s, f s ≤ max (f (wo s x)) (psz S (bagN S.length (gsOf ps) (wo s x) x) : Nat)
        · rw [if_neg (by
            have : ((setsL S.length).map fun s => decide ((s = [] → f [] ≤ 1) ∧ ∀ x ∈ s, f s ≤ max (f (wo s x)) (psz S (bagN S.length (gsOf ps) (wo s x) x) : Nat))).all id = true := by
              rw [List.all_map, List.all_eq_true]
              exact fun s hs => decide_eq_true (c3 s hs)
            rw [this]
            decide)]
          have dtb : dtAt [.ext (dSh S ps), .ext (.lst (((setsL S.length).map fun s => (s, f s)).map fun p => D.tup [.tup (nD p.1), .int p.2])), dI number, dI (S.length : Nat), .un, .ext (dtD ((setsL S.length).map fun s => (cI s, D.int (f s)))), .ext (.lst (tiDs S.length (gsOf ps))), .un] 5 ((setsL S.length).map fun s => (cI s, D.int (f s))) := .inr rfl
          refine ⟨⟨_, dtb⟩, ⟨by omega, by omega⟩, cI (List.range S.length), _, _, ?_, dtb, lu_map (fun s => D.int (f s)) ht, ?_⟩
          · rw [kT_c, rgD_nat]
          and_intros
          refine hQ h8 _ _ ?_
          rw [beq_iff_eq]
          constructor
          · intro h
            exact ⟨f, congrArg D.lst eD, (c3 [] h0).1 rfl, fun s h1 h2 x hx => (c3 s (hmem.2 ⟨h1, h2⟩)).2 x hx, h⟩
          · rintro ⟨f', e, hf⟩
            rw [hiff f' e _ ht]
            exact hf.top
        · rw [if_pos (by
            rw [Bool.not_eq_true', List.all_map]
            refine Bool.eq_false_iff.2 fun z => c3 fun s hs => ?_
            exact of_decide_eq_true (List.all_eq_true.1 z s hs))]
          refine hQ h8 _ _ ⟨fun z => (nomatch z), fun ⟨f', e, hf⟩ => absurd (fun s hs => ?_) c3⟩
          have he := hiff f' e
          refine ⟨fun _ => by rw [he [] h0]; exact hf.base, fun x hx => ?_⟩
          rw [he s hs, he _ (ednr s hs x hx)]
          exact hf.step s (hmem.1 hs).1 (hmem.1 hs).2 x hx
      · rw [if_pos (by rw [decide_eq_false c2]; decide)]
        refine hQ h8 _ _ (no fun f e => c2 ?_)
        have e := D.lst.inj e
        have e2 : L.map (fun p => D.tup [.tup (nD p.1), .int p.2]) = ((setsL S.length).map fun s => (s, f s)).map fun p => D.tup [.tup (nD p.1), .int p.2] := by
          rw [List.map_map]
          exact e
        have e3 := (List.map_inj_right (fun x y hxy => by
          have z := D.tup.inj hxy
          have z1 := nD_inj (D.tup.inj (List.cons.inj z).1)
          have z2 := D.int.inj (List.cons.inj (List.cons.inj z).2).1
          exact Prod.ext z1 z2)).1 e2
        rw [e3, List.map_map]
        exact List.map_id' _
    · rw [if_pos (by
        rw [Bool.not_eq_true', List.all_map]
        refine Bool.eq_false_iff.2 fun z => c fun e he => ?_
        exact of_decide_eq_true (List.all_eq_true.1 z e he))]
      refine hQ h8 _ _ (no fun f e => c fun x hx => ?_)
      rw [D.lst.inj e] at hx
      obtain ⟨s, hs, rfl⟩ := List.mem_map.1 hx
      exact ⟨s, f s, rfl, mem_setsL.1 hs⟩
  | _ =>
    and_intros
    simp only [nv, D.isFz, true_and, Bool.not_true, Bool.not_false, if_true]
    exact hQ h8 _ _ (no fun f e => by cases e)
structure LrOk (S : List Nat) (gs : List (List Nat)) (v : Nat) (o : List Nat) (f : List Nat → Nat) : Prop where
  perm : o.Perm (List.range S.length)
  room : ro S gs o = v
  best : ∀ s : List Nat, Rising s → (∀ m ∈ s, m < S.length) → Best S gs s (f s)
  top : f (List.range S.length) = v
structure KnOk (S : List Nat) (gs : List (List Nat)) (s : List Nat) (p : Nat × List Nat) : Prop where
  best : Best S gs s p.1
  perm : p.2.Perm s
  room : ro S gs p.2 = p.1
def e1_least_room : DT :=
    (dVar 7)
def b2_least_room : DTS :=
    (sSeq (sSetE 6 (dCB fTuple (dCons (dLc (dSeq (dVar 3)) (gSet 7) (dTest (dOp fNe (dVar 7) (dVar 5))) e1_least_room [7]) dNil)))
    (sSeq (sAsg (dDGetT 2 (dVar 6)) (gTupD 2 (gsCons (gSet 8) (gsCons (gSet 9) gsNil))))
    (sDrop (dAppend 4 (dTup (dCons (dCB fMax (dCons (dVar 8) (dCons (dCall sp_room_by (dCons (dVar 0) (dCons (dCall sp_bag_by (dCons (dVar 1) (dCons (dVar 6) (dCons (dVar 5) dNil)))) dNil))) dNil))) (dCons (dOp fAdd (dVar 9) (dTup (dCons (dVar 5) dNil))) dNil)))))))
def k3_least_room : DTS :=
    (sIf (dTest (dOp fNe (dVar 4) (dLst dNil))) (sPutDT 2 (dVar 3) (dCB fMinQ (dCons (dVar 4) dNil))) sNext)
def b4_least_room : DTS :=
    (sSeq (sSet 4 (dLst dNil))
    (sSeq (sFor (dSeq (dVar 3)) (gSet 5) b2_least_room)
    k3_least_room))
abbrev knD (p : Nat × List Nat) : D := .tup [.int (p.1 : Nat), .tup (nD p.2)]
abbrev kvsN (l : List (List Nat)) (g : List Nat → Nat × List Nat) : List (List Int × D) := l.map fun s => (cI s, knD (g s))
section
variable {Ex : DX} {E : DEnds} {S : List Nat} {ps : List Part} {l : List (List Nat)} {g : List Nat → Nat × List Nat} {a2 a4 : Addr} {u1 u6 u7 u8 u9 : Sl}
noncomputable abbrev lrE (S : List Nat) (ps : List Part) (a2 : Addr) (l : List (List Nat)) (g : List Nat → Nat × List Nat) (u3 u4 u5 u6 u7 u8 u9 : Sl) : Env' := [.ext (dSh S ps), .ext (tiD S.length (gsOf ps)), dtS a2 (kvsN l g), u3, u4, u5, u6, u7, u8, u9]
noncomputable def chN (S : List Nat) (gs : List (List Nat)) (g : List Nat → Nat × List Nat) (s : List Nat) (x : Nat) : Nat × List Nat := (max (g (wo s x)).1 (psz S (bagN S.length gs (wo s x) x)), (g (wo s x)).2 ++ [x])
theorem kn_qD (p : Nat × List Nat) : knD p = qD ((p.1 : Int), cI p.2) := by
  show D.tup [.int (p.1 : Nat), .tup (nD p.2)] = D.tup [.int (p.1 : Nat), .tup ((cI p.2).map D.int)]
  rw [← kT_c]
theorem cmp_kns (l : List (Nat × List Nat)) : (D.lst (l.map knD)).cmp := pi_cmp (k := 3) (by decide) (by
  rw [D.pi, List.all_map, List.all_eq_true]
  intro f _
  show (D.pi 1 (.int f.1) && (D.pi 1 (.tup (nD f.2)) && true)) = true
  rw [Bool.and_true, D.pi, D.pi]
  exact pi_nats 0 _)
theorem b4_lr {s : List Nat} {u4 u5 : Sl} (hS : SzOk S) (h24 : S.length ≤ 24) (hs : Rising s ∧ ∀ m ∈ s, m < S.length) (hk : ∀ t ∈ l, KnOk S (gsOf ps) t (g t)) (hw : ∀ x ∈ s, wo s x ∈ l) (hsn : s ≠ [] → s ∉ l) (hll : l.length ≤ 500)
    (hE : ∀ u3 u4 u5 u6 u8 u9, (s = [] → E.nx (lrE S ps a2 l g u3 u4 u5 u6 .un u8 u9)) ∧ (s ≠ [] → ∀ p, KnOk S (gsOf ps) s p → E.nx (lrE S ps a2 (l ++ [s]) (fun t => if t = s then p else g t) u3 u4 u5 u6 .un u8 u9))) :
    b4_least_room Ex E (lrE S ps a2 l g (.ext (.tup (nD s))) u4 u5 u6 .un u8 u9) := by
  have hsl := rising_len hs.1 hs.2
  unfold b4_least_room lrE
  and_intros
  refine ⟨by decide, fun a => ?_⟩
  refine for_ind (fun x : Nat => D.int (x : Nat)) (fun xs env => ∃ (u5 u6 u8 u9 : Sl) (pre : List Nat), env = lrE S ps a2 l g (.ext (.tup (nD s))) (.lst a ((pre.map (chN S (gsOf ps) g s)).map knD)) u5 u6 .un u8 u9 ∧ s = pre ++ xs) ?_ ?_ s _ ⟨_, _, _, _, [], rfl, rfl⟩
  · rintro env ⟨u5, u6, u8, u9, pre, rfl, he⟩
    rw [List.append_nil] at he
    subst he
    refine ⟨True.intro, ?_⟩
    unfold k3_least_room lrE
    and_intros
    refine ⟨by decide, cmp_kns _, cmp_natsL [], ?_⟩
    have hlen0 : (D.lst ((s.map (chN S (gsOf ps) g s)).map knD)).eqv (.lst []) = s.isEmpty := by cases s <;> rfl
    rw [hlen0]
    by_cases hsn' : s = []
    · rw [if_neg (by rw [hsn']; decide)]
      exact (hE _ _ _ _ _ _).1 hsn'
    · rw [if_pos (by rw [Bool.not_eq_true', List.isEmpty_eq_false_iff]; exact hsn')]
      refine ⟨(s.map (chN S (gsOf ps) g s)).map fun p => ((p.1 : Int), cI p.2), ?_, by simpa using hsn', fun p hp hmin => ?_⟩
      · rw [List.map_map (g := qD)]
        exact List.map_congr_left fun p _ => kn_qD p
      obtain ⟨q, hq, rfl⟩ := List.mem_map.1 hp
      obtain ⟨x, hx, rfl⟩ := List.mem_map.1 hq
      refine ⟨⟨_, _, rfl⟩, a2, kvsN l g, cI s, rfl, congrArg Sl.ext (kT_c s).symm, Nat.lt_of_le_of_lt (by rw [List.length_map]; exact hll) (by decide), ?_⟩
      have hkx := hk _ (hw x hx)
      have nd : s.Nodup := hs.1.imp Nat.ne_of_lt
      have K : KnOk S (gsOf ps) s (chN S (gsOf ps) g s x) := by
        refine ⟨Best.step S (gsOf ps) (f := fun t => (g t).1) nd hsn' (fun y hy => (hk _ (hw y hy)).best) ⟨x, hx, rfl⟩ fun y hy => ?_, perm_wo nd hx hkx.perm, ?_⟩
        · have := hmin _ (List.mem_map.2 ⟨_, List.mem_map.2 ⟨y, hy, rfl⟩, rfl⟩)
          exact Int.ofNat_le.1 this
        · show ro S (gsOf ps) ((g (wo s x)).2 ++ [x]) = _
          rw [ro_snoc, hkx.room, bag_perm (fun t => hkx.perm.mem_iff)]
          rfl
      have e : ptK (kvsN l g) (cI s) (qD (((chN S (gsOf ps) g s x).1 : Int), cI (chN S (gsOf ps) g s x).2)) = kvsN (l ++ [s]) (fun t => if t = s then chN S (gsOf ps) g s x else g t) := by
        unfold kvsN
        rw [pt_map (fun s => knD (g s)) (hsn hsn'), ← kn_qD, List.map_append]
        congr 1
        · refine List.map_congr_left fun t ht => ?_
          have hts : ¬ t = s := fun z => hsn hsn' (z ▸ ht)
          show (cI t, knD (g t)) = (cI t, knD (if t = s then chN S (gsOf ps) g s x else g t))
          rw [if_neg hts]
        · show _ = [(cI s, knD (if s = s then chN S (gsOf ps) g s x else g s))]
          rw [if_pos rfl]
      rw [e]
      exact (hE _ _ _ _ _ _).2 hsn' _ K
  · rintro x xs env N ⟨u5, u6, u8, u9, pre, rfl, he⟩ hN
    have hx : x ∈ s := by rw [he]; simp
    refine ⟨True.intro, ?_⟩
    unfold b2_least_room lrE
    and_intros
    refine lc_filter (fun m : Nat => D.int (m : Nat)) (fun m : Nat => D.int (m : Nat)) (fun m => decide (m ≠ x)) True.intro s (hsz (by omega)) (fun m hm R hR => ?_) fun a7 => ?_
    · and_intros
      by_cases e : m = x
      · rw [if_neg (by rw [e]; simp)]
        rw [if_neg (by simpa using e)] at hR
        exact hR
      · rw [if_pos (by rw [Bool.not_eq_true', beq_eq_false_iff_ne]; omega)]
        rw [if_pos (by simpa using e)] at hR
        unfold e1_least_room
        and_intros
        exact hR
    and_intros
    rw [show ((s.filter fun m => decide (m ≠ x)).map fun m : Nat => D.int (m : Nat)) = nD (wo s x) from rfl]
    have hxl := hs.2 x hx
    have hwx := hw x hx
    have dtb : ∀ u3 u4 u5 u6 u7 u8 u9, dtAt (lrE S ps a2 l g u3 u4 u5 u6 u7 u8 u9) 2 (kvsN l g) := fun _ _ _ _ _ _ _ => .inl ⟨a2, rfl⟩
    refine ⟨⟨_, dtb ..⟩, _, _, _, congrArg Sl.ext (kT_c (wo s x)).symm, dtb .., lu_map (fun s => knD (g s)) hwx, ?_⟩
    and_intros
    refine ⟨S.length, gsOf ps, wo s x, _, x, rfl, .inl rfl, h24, hxl, fun z => (mem_wo.1 z).2 rfl, fun fin => ?_⟩
    and_intros
    refine ⟨S, ps, _, rfl, hS, (bag_rising S.length (gsOf ps) (wo s x) x).imp Nat.ne_of_lt, fun m hm => (mem_bag.1 hm).1, fun fin => ?_⟩
    and_intros
    have hol : (g (wo s x)).2.length ≤ 24 := by
      rw [(hk _ hwx).perm.length_eq]
      have := wo_len hx
      omega
    have hpl : pre.length ≤ 24 := by
      have := congrArg List.length he
      rw [List.length_append] at this
      omega
    refine ⟨by decide, hsz (by rw [nD_len]; omega), by decide, Nat.lt_of_le_of_lt (by rw [List.length_map, List.length_map]; exact hpl) (by decide), ?_⟩
    refine hN _ ⟨dI (x : Nat), .ext (.tup (nD (wo s x))), dI ((g (wo s x)).1 : Nat), .ext (.tup (nD (g (wo s x)).2)), pre ++ [x], ?_, by rw [List.append_assoc]; exact he⟩
    have emx : (if ((psz S (bagN S.length (gsOf ps) (wo s x) x) : Nat) : Int) > ((g (wo s x)).1 : Nat) then ((psz S (bagN S.length (gsOf ps) (wo s x) x) : Nat) : Int) else ((g (wo s x)).1 : Nat)) = ((max (g (wo s x)).1 (psz S (bagN S.length (gsOf ps) (wo s x) x)) : Nat) : Int) := by
      split <;> omega
    rw [emx, List.map_append, List.map_append, show nD (g (wo s x)).2 ++ [D.int (x : Nat)] = nD ((g (wo s x)).2 ++ [x]) by rw [nD_app]; rfl]
    rfl
end
theorem lt_prs (f : List Nat → Nat) {a b : List Nat} (h : HT.lexLt (cI a) (cI b) = true) : W.dataLt (D.tup [.tup (nD a), .int (f a : Nat)]).py (D.tup [.tup (nD b), .int (f b : Nat)]).py = true := by
  have hal : W.alike (D.tup (nD a)).py (D.tup (nD b)).py = true := by
    show W.alikeAll (D.pys (nD a)) (D.pys (nD b)) = true
    rw [pys_nD, pys_nD]
    exact HD.alike_ints _ _
  have hne : PyData.eqv (D.tup (nD a)).py (D.tup (nD b)).py = false := by
    show PyData.eqvAll (D.pys (nD a)) (D.pys (nD b)) = false
    rw [eqvAll_natsF]
    refine decide_eq_false fun e => ?_
    rw [e, lex_irr] at h
    cases h
  show PyProof.Rows.lexLt PyProof.Rows.itemOrd (.inl 1 :: (W.keyToks (D.tup (nD a)).py ++ W.keyToksAll [(D.int (f a : Nat)).py])) (.inl 1 :: (W.keyToks (D.tup (nD b)).py ++ W.keyToksAll [(D.int (f b : Nat)).py])) = true
  exact (PySem.W.lex_pre [Sum.inl 1] _ _).trans (((PySem.W.toks_eqv _ _ hal).2 hne _ _).trans ((lt_sets a b).trans h))
theorem sorted_prs (f : List Nat → Nat) {n : Nat} {L : List (List Nat)} {ds : List D} (hp : L.Perm (setsN n)) (hd : ds.Perm (L.map fun s => D.tup [.tup (nD s), .int (f s : Nat)])) (hs : ds.Pairwise fun x y => W.dataLt y.py x.py = false) : ds = (setsL n).map fun s => D.tup [.tup (nD s), .int (f s : Nat)] := by
  obtain ⟨M, hM, rfl⟩ := perm_map_inv hd
  rw [setsL_uniq (hM.trans hp) ((List.pairwise_map.1 hs).imp fun {a b} h => Bool.eq_false_iff.2 fun z => by
    rw [lt_prs f z] at h
    cases h)]
theorem srt_prs (f : List Nat → Nat) (L : List (List Nat)) : SrtD (L.map fun s => D.tup [.tup (nD s), .int (f s : Nat)]) := by
  refine ⟨?_, fun d hd => ?_, fun x hx y hy => ?_, fun d hd => ?_⟩
  · induction L with
    | nil => rfl
    | cons B L ih =>
      show ((D.noVals [.tup (nD B), .int (f B : Nat)]) && D.noVals _) = true
      rw [ih, Bool.and_true]
      show ((D.tup (nD B)).noVal && true) = true
      rw [Bool.and_true]
      have := noVals_fD [B]
      show (D.tup (nD B)).noVal = true
      have h : ((D.tup (nD B)).noVal && true) = true := this
      rwa [Bool.and_true] at h
  · obtain ⟨B, _, rfl⟩ := List.mem_map.1 hd
    exact ⟨_, _, rfl⟩
  · obtain ⟨d, hd, rfl⟩ := pys_mem' hx
    obtain ⟨B, _, rfl⟩ := List.mem_map.1 hd
    obtain ⟨e, he, rfl⟩ := pys_mem' hy
    obtain ⟨C, _, rfl⟩ := List.mem_map.1 he
    show (W.alikeAll (D.pys (nD B)) (D.pys (nD C)) && true) = true
    rw [pys_nD, pys_nD, HD.alike_ints]
    rfl
  · obtain ⟨B, _, rfl⟩ := List.mem_map.1 hd
    show (max (PyData.depthAll (D.pys (nD B)) + 1) (max 0 0)) + 1 ≤ 50
    rw [pys_nD, depth_all]
    decide
theorem nd_subL {α : Type} [DecidableEq α] : ∀ {a b : List α}, a.Nodup → (∀ x ∈ a, x ∈ b) → a.length ≤ b.length
  | [], b, _, _ => Nat.zero_le _
  | x :: a, b, nd, h => by
    obtain ⟨n1, n2⟩ := List.nodup_cons.1 nd
    have hx := h x List.mem_cons_self
    have h1 : a.length ≤ (b.erase x).length := nd_subL n2 fun y hy => (List.mem_erase_of_ne fun e => n1 (by rw [← e]; exact hy)).2 (h y (List.mem_cons_of_mem _ hy))
    rw [List.length_erase_of_mem hx] at h1
    have := List.length_pos_of_mem hx
    rw [List.length_cons]
    omega
end FL
end LS
namespace LS
namespace FL
open PySem L2 HD PM BT
abbrev flT (n : Nat) (f : List Nat → Int) : List D := (setsL n).map fun s => D.tup [.tup (nD s), .int (f s)]
theorem flT_dc {k n : Nat} {f : List Nat → Int} (hn : n ≤ 8) (hf : ∀ s ∈ setsL n, (f s).natAbs < 10 ^ 60) : Dcs (k + 2) 3000 (flT n f) := by
  have hl : (setsL n).length ≤ 256 := by
    rw [setsL_len]
    exact Nat.le_trans (Nat.pow_le_pow_right (by decide) hn) (by decide)
  have key : ∀ L : List (List Nat), (∀ s ∈ L, (f s).natAbs < 10 ^ 60 ∧ s.length ≤ 8 ∧ ∀ m ∈ s, m < 8) → Dcs (k + 2) (L.length * 11) (L.map fun s => D.tup [.tup (nD s), .int (f s)]) := by
    intro L
    induction L with
    | nil => intro _; exact Dcs.nil
    | cons s L ih =>
      intro h
      obtain ⟨h0, h1, h2⟩ := h s List.mem_cons_self
      refine (Dcs.cons (n := 10) (Dc.t2 (n := 8) (n' := 0) (Dc.tup ((Dcs.nats fun m hm => ?_).mono h1)) (Dc.int h0)) (ih fun t ht => h t (List.mem_cons_of_mem _ ht))).mono (by rw [List.length_cons]; omega)
      have := h2 m hm
      omega
  refine (key (setsL n) fun s hs => ?_).mono (by omega)
  obtain ⟨h1, h2⟩ := mem_setsL.1 hs
  have := rising_len h1 h2
  exact ⟨hf s hs, by omega, fun m hm => by have := h2 m hm; omega⟩
theorem flT_len {n : Nat} {f : List Nat → Int} (hn : n ≤ 8) : (flT n f).length ≤ 256 ∧ 0 < (flT n f).length := by
  have e : (flT n f).length = 2 ^ n := by rw [List.length_map, setsL_len]
  rw [e]
  exact ⟨Nat.le_trans (Nat.pow_le_pow_right (by decide) hn) (by decide), Nat.pow_pos (by decide)⟩
section
variable {S : List Nat}
theorem best_le {gs : List (List Nat)} {s : List Nat} {v : Nat} (hS : SzOk S) (h : Best S gs s v) : v ≤ 4096 := by
  obtain ⟨o, _, rfl⟩ := h.has
  unfold ro
  generalize o.reverse = r
  induction r with
  | nil => exact (by decide : 1 ≤ 4096)
  | cons x r ih => exact Nat.max_le.2 ⟨ih, psz_le_nd hS ((bag_rising S.length gs r x).imp Nat.ne_of_lt) fun m hm => (mem_bag.1 hm).1⟩
end
theorem fl_pl {n : Nat} {f : List Nat → Int} (hn : n ≤ 8) (hf : ∀ s ∈ setsL n, (f s).natAbs < 10 ^ 60) : D.pl 5 (.lst (flT n f)) = true := (Dc.lst (flT_dc (k := 2) hn hf)).pl
theorem fl_few {n : Nat} {f : List Nat → Int} (hn : n ≤ 8) : ∀ xs, D.lst (flT n f) = .lst xs → xs.length ≤ 10000 := fun xs e => by
  rw [← D.lst.inj e]
  have := (flT_len (f := f) hn).1
  omega
end FL
end LS
namespace HD
open PySem PyProof.Rows L2
def mgK (kvs more : List (Key × D)) : List (Key × D) := more.foldl (fun acc p => ptK acc p.1 p.2) kvs
section
variable {G : GG} {N : List Str} {sc : SC} {k : Nat} {a b : Expr} {ta tb : DT} {apos cpos : Pos}
def dUpdKR (t te : DT) : DT := fun Ex env Q => t Ex env fun x env1 => cellS env1 x dkK ∧ te Ex env1 fun y env2 => cellS env2 x fun i b r cs oc => dkW oc fun kvs => ∃ b2 more, y = .reg (.val (.ref b2)) [(b2, .dk more)] ∧ kvs.length + more.length ≤ sizeLine ∧
  Q (.ext .non) (env2.set i (.reg r (putC cs b (.dk (mgK kvs more)))))
end
section
variable {G : GG} {N : List Str} {sc : SC} {k : Nat} {a b : Expr} {ta tb : DT} {p p2 pos pos2 : Pos}
def dDictZipK (ta tb : DT) : DT := fun Ex env Q => ta Ex env fun x env1 => tb Ex env1 fun y env2 => seqD env2 x fun xs _ => seqD env2 y fun ys _ => ∃ kvs : List (Key × D), xs = kvs.map (fun p => kD p.1) ∧ ys = kvs.map (·.2) ∧ ∀ a, Q (dkS a (mgK [] kvs)) env2
end
section
variable {G : GG} {N : List Str} {sc : SC} {k : Nat} {a : Expr} {ta : DT} {p pos : Pos}
def dDictC (ta : DT) : DT := fun Ex env Q => ta Ex env fun x env1 => cellS env1 x fun _ _ _ _ oc => dkO oc fun kvs => ∀ a, Q (dkS a kvs) env1
end
end HD
namespace HD
open PySem PyProof.Rows L2
section
variable {G : GG} {N : List Str} {sc : SC} {k : Nat}
def lcR (g : DTG) (te : DT) (vs : List Nat) (keep : Env' → Prop) (Q : Sl → Env' → Prop) (A : Addr) : List D → List D → Cells → Env' → Prop
  | [], acc, cs, env => keep env ∧ Q (.reg (.val (.ref A)) ((A, .lst acc) :: cs)) env
  | d :: ds, acc, cs, env => keep env ∧ acc.length < sizeLine ∧ g d env fun env1 => te noX env1 fun x env3 => stoS false env3 x fun d' cs' env4 => (∀ a ∈ A :: cs.map (·.1), a ∉ cs'.map (·.1)) → lcR g te vs keep Q A ds (acc ++ [d']) (cs ++ cs') (wipeE env4 vs)
def dLcR (ti : DTI) (g : DTG) (te : DT) (vs : List Nat) : DT := fun Ex env Q => ti Ex env fun items keep env1 => ∀ A, lcR g te vs keep Q A items [] [] (wipeE env1 vs)
variable {elt tg iter : Expr} {scope : Scope} {own : List (Str × Nat)} {pos : Pos} {ti : DTI} {g : DTG} {te : DT}
end
end HD
namespace HD
open PySem L2
section
variable {G : GG} {N : List Str} {sc : SC} {k : Nat} {a : Expr} {ta : DT} {p pos pl : Pos}
def dSumL (t : DT) : DT := fun Ex env Q => t Ex env fun x env1 => wd env1 x fun d => match d with
  | .lst ds => ∃ lss : List (List D), ds = lss.map D.lst ∧ lss.flatten.length ≤ sizeLine ∧ ∀ c, Q (.lst c lss.flatten) env1
  | _ => False
end
end HD
namespace HD
open PySem PyProof.Rows L2
section
variable {G : GG} {N : List Str} {sc : SC} {k : Nat} {st : Stmt} {t : DTS}
def sFzR (i n : Nat) (t : DTS) : DTS := fun Ex E env => RegS env[i]? (fun d cs => t Ex E (env.set i (.ext (deepD cs n d)))) .mk
end
end HD
namespace HD
open PySem PyProof.Rows L2
def regOf : Sl → Option (D × Cells)
  | .ext d => some (d, [])
  | .lst p ds => some (.val (.ref p), [(p, .lst ds)])
  | .reg d cs => some (d, cs)
  | _ => none
def regsOf : List Sl → Option (List D × Cells)
  | [] => some ([], [])
  | x :: xs => match regOf x, regsOf xs with
    | some (d, cs), some (ds, es) => some (d :: ds, cs ++ es)
    | _, _ => none
section
variable {K : PySem.W.Frag} {e : Ent} {env : Env'} {T : Tmp} {F : Hp} {σ : L2.St} {H : Hp}
theorem regOf_ok {v : V} {x : Sl} {d : D} {cs : Cells} (h : SlOk K F H v x) (e : regOf x = some (d, cs)) : SlOk K F H v (.reg d cs) ∧ cs.map (·.1) = x.owned := by
  cases x with
  | un => cases e
  | al _ _ => cases e
  | ar _ _ => cases e
  | ext d' =>
    cases e
    exact ⟨⟨h, List.nodup_nil, fun p hp => nomatch hp⟩, rfl⟩
  | lst p ds =>
    cases e
    obtain ⟨rfl, q, us, hv, hr⟩ := h
    refine ⟨⟨rfl, List.pairwise_singleton _ _, fun p hp => ?_⟩, rfl⟩
    rw [List.mem_singleton.mp hp]
    exact ⟨q, _, hv, us, rfl, hr⟩
  | reg d' cs' =>
    cases e
    exact ⟨h, rfl⟩
theorem regsOf_ok : ∀ {vs : List V} {xs : List Sl} {ds : List D} {cs : Cells}, vs.length = xs.length → (∀ p ∈ vs.zip xs, SlOk K F H p.1 p.2) → regsOf xs = some (ds, cs) → Reps K F ds vs ∧ cs.map (·.1) = ownedT (vs.zip xs) ∧ ∀ p ∈ cs, F p.1 = none ∧ ∃ o, H p.1 = some o ∧ OC.ok K F p.1 p.2 o
  | [], [], ds, cs, _, _, e => by
    cases e
    exact ⟨rfl, rfl, fun p hp => nomatch hp⟩
  | [], _ :: _, _, _, l, _, _ => by cases l
  | _ :: _, [], _, _, l, _, _ => by cases l
  | v :: vs, x :: xs, ds, cs, l, h, e => by
    unfold regsOf at e
    split at e
    · rename_i d1 c1 d2 c2 e1 e2
      cases e
      obtain ⟨h1, h2⟩ := regOf_ok (h (v, x) List.mem_cons_self) e1
      obtain ⟨r1, r2, r3⟩ := regsOf_ok (by simpa using l) (fun p hp => h p (List.mem_cons_of_mem _ hp)) e2
      refine ⟨⟨v, vs, rfl, h1.1, r1⟩, by rw [List.map_append, h2, r2]; rfl, fun p hp => ?_⟩
      rcases List.mem_append.mp hp with hp | hp
      · exact h1.2.2 p hp
      · exact r3 p hp
    · cases e
theorem Holds.tupR {vs : List V} {xs : List Sl} {ds : List D} {cs : Cells} {p : Addr} {o : Obj} (h : Holds K e env (vs.zip xs ++ T) F σ H) (l : vs.length = xs.length) (q : regsOf xs = some (ds, cs)) (hp : H p = none) (od : o.dict = none) :
    ∃ F1, Same F F1 ∧ Holds K e env ((V.ref p, .reg (.tup ds) cs) :: T) F1 σ (upd H p (.frz o (.tup vs))) := by
  have g := Grow.frozen (o := .frz o (.tup vs)) h.fh hp
  have h1 := h.grow g
  refine ⟨_, g.ff, ?_⟩
  obtain ⟨r1, r2, r3⟩ := regsOf_ok (K := K) l (fun q hq => h1.temps q (List.mem_append_left _ hq)) q
  have nd : (ownedE env ++ ownedT (vs.zip xs ++ T)).Nodup := h1.nd
  have eT : ownedT (vs.zip xs ++ T) = ownedT (vs.zip xs) ++ ownedT T := by unfold ownedT; rw [List.flatMap_append]
  have eo : ownedE env ++ ownedT ((V.ref p, Sl.reg (.tup ds) cs) :: T) = ownedE env ++ ownedT (vs.zip xs ++ T) := by
    rw [eT, ← r2]
    rfl
  refine h1.regroup h1.len h1.slots (fun q hq => ?_) (by rw [eo]; exact nd) (fun a ha => by rw [← eo]; exact ha)
  rcases List.mem_cons.mp hq with rfl | hq
  · refine ⟨⟨p, vs, rfl, .inl ⟨o, upd_same, od⟩, r1⟩, ?_, r3⟩
    rw [r2]
    rw [eT] at nd
    exact (List.nodup_append.mp (List.nodup_append.mp nd).2.1).1
  · exact h1.temps q (List.mem_append_right _ hq)
end
section
variable {G : GG} {N : List Str} {sc : SC} {k : Nat} {a : Expr} {es : List Expr} {t : DT} {tA : DTA} {pos : Pos}
def dTupM (t : DTA) : DT := fun Ex env Q => t Ex env fun xs env1 => xs.length ≤ sizeLine ∧ ∃ ds cs, regsOf xs = some (ds, cs) ∧ Q (.reg (.tup ds) cs) env1
theorem de_tupM {x1} (h : DAs G N sc k es tA) : DE G N sc k (.Tuple es x1 pos) (dTupM tA) := ⟨fun W => by
  obtain ⟨te, p1, i1⟩ := h.ex W
  refine ⟨tTupF te, fun X S => pe_tupF (p1 X S), fun e Ex hl env T F σ H Q R hh ht hR => ?_⟩
  refine i1 e Ex hl env T F σ H _ _ hh ht fun vs H1 F1 env1 xs le hh1 q1 => ⟨by rw [le]; exact q1.1, fun p o hp od => ?_⟩
  obtain ⟨ds, cs, q2, q3⟩ := q1.2
  obtain ⟨F2, _, hh2⟩ := hh1.tupR le q2 hp od
  exact hR _ _ F2 env1 _ hh2 q3⟩
def dVarG (i : Nat) : DT := fun _ env Q => RegS env[i]? (fun d _ => Q (.ext d) env) .mk
theorem de_varG (i : Nat) {x : Str} {pos : Pos} (hN : N[i]? = some x := by rfl) (hv : Vis sc.sc x := by first | exact Or.inl rfl | exact Or.inr (Or.inl rfl) | exact Or.inr (Or.inr rfl))
    (hd : (x == ("__debug__" : Str)) = false := by decide) (hcd : (x == ("__classdict__" : Str)) = false := by decide) : DE G N sc k (.Name x pos) (dVarG i) :=
  ⟨fun W => ⟨tVar i, fun X S => pe_var (by rw [S.nms]; exact hN) (S.vis hv) hd hcd, fun e Ex _ env T F σ H Q R hh ht hR => by
    have ht' : RegS env[i]? (fun d _ => Q (.ext d) env) .mk := ht
    unfold RegS at ht'
    split at ht'
    · rename_i d cs q
      rcases hh.slots i _ q with z | ⟨v, hv, ok⟩
      · cases z
      exact ⟨v, hv, hR v H F env (.ext d) (hh.pushE ok.1) ht'⟩
    · exact ht'.elim⟩⟩
def asP (i : Nat) (x : Sl) (q : Sl → Prop) : Prop := match x with
  | .ext (.val (.ref b)) => q (.ar i b)
  | _ => False
def dAsP (i : Nat) (t : DT) : DT := fun Ex env Q => t Ex env fun x env1 => asP i x fun y => Q y env1
theorem de_asP (i : Nat) (h : DE G N sc k a t) : DE G N sc k a (dAsP i t) := ⟨fun W => by
  obtain ⟨te, p1, i1⟩ := h.ex W
  refine ⟨te, p1, fun e Ex hl env T F σ H Q R hh ht hR => ?_⟩
  refine i1 e Ex hl env T F σ H _ _ hh ht fun v H1 F1 env1 x hh1 q1 => ?_
  have q1' : asP i x fun y => Q y env1 := q1
  unfold asP at q1'
  split at q1'
  · rename_i b
    exact hR v H1 F1 env1 (.ar i b) (hh1.retemp (hh1.temps (v, .ext (.val (.ref b))) List.mem_cons_self) List.nodup_nil fun a ha => nomatch ha) q1'
  · exact q1'.elim⟩
theorem asP_ref (i : Nat) (b : Addr) (q : Sl → Prop) : asP i (.ext (.val (.ref b))) q = q (.ar i b) := rfl
def frzT (n : Nat) (x : Sl) (q : Sl → Prop) : Prop := match x with
  | .reg d cs => q (.ext (deepD cs n d))
  | _ => False
def dFrzT (n : Nat) (t : DT) : DT := fun Ex env Q => t Ex env fun x env1 => frzT n x fun y => Q y env1
theorem frzT_reg (n : Nat) (d : D) (cs : Cells) (q : Sl → Prop) : frzT n (.reg d cs) q = q (.ext (deepD cs n d)) := rfl
end
end HD
namespace HD
open PySem PyProof.Rows L2
section
variable {G : GG} {N : List Str} {sc : SC} {k : Nat} {x : Str} {py apos cpos : Pos}
def dClear (i : Nat) : DT := fun _ env Q => AtL env[i]? fun a _ => mutD env i a (fun _ q => q .non []) Q
end
end HD
namespace HD
open PySem PySem.Spec PyProof.Rows L2
section
variable {G : GG} {N : List Str} {sc : SC} {k : Nat} {a : Expr} {ta : DT} {p apos cpos pos : Pos}
def dListItems (ta : DT) : DT := fun Ex env Q => ta Ex env fun x env1 => ∃ b kvs, x = dkS b kvs ∧ ∀ a, Q (.lst a (kvs.map fun q => D.tup [kD q.1, q.2])) env1
end
end HD
namespace HD
open PySem PySem.Spec PyProof.Rows L2
section
variable {G : GG} {N : List Str} {sc : SC} {k : Nat} {a : Expr} {ta : DT} {p pos : Pos}
def dLenK (ta : DT) : DT := fun Ex env Q => ta Ex env fun x env1 => cellS env1 x fun _ _ _ _ oc => dkO oc fun kvs => Q (.ext (.int kvs.length)) env1
def dSortKI (ta : DT) : DT := fun Ex env Q => ta Ex env fun x env1 => cellS env1 x fun _ _ _ _ oc => dkO oc fun kvs => ∃ ks : List Int, kvs.map (·.1) = ks.map Sum.inl ∧ ks.length < 64 ∧ ∀ (ys : List Int) (b : Addr), ys.Perm ks → ys.Pairwise (· ≤ ·) → Q (.lst b (ys.map D.int)) env1
end
end HD
namespace HD
open PySem PySem.Spec PyProof.Rows L2
section
variable {G : GG} {N : List Str} {sc : SC} {k : Nat} {a : Expr} {ta : DT} {p pos : Pos} {y : Str} {cs : List Str}
def dInC (neg : Bool) (cs : List Str) (ta : DT) : DT := fun Ex env Q => ta Ex env fun x env1 => wd env1 x fun d => match d with
  | .str z => Q (.ext (.bl (if neg then !decide (z ∈ cs) else decide (z ∈ cs)))) env1
  | _ => False
end
end HD
namespace HD
open PySem PySem.Spec PySem.Calls PyProof.Rows L2
def fMinT : List D → (Sl → Prop) → Prop
  | [.tup ds], Q => ∃ ns : List Int, ds = ns.map D.int ∧ ns ≠ [] ∧ ∀ m, m ∈ ns → (∀ y, y ∈ ns → m ≤ y) → Q (.ext (.int m))
  | _, _ => False
def fMaxT : List D → (Sl → Prop) → Prop
  | [.tup ds], Q => ∃ ns : List Int, ds = ns.map D.int ∧ ns ≠ [] ∧ ∀ m, m ∈ ns → (∀ y, y ∈ ns → y ≤ m) → Q (.ext (.int m))
  | _, _ => False
end HD
namespace HD
open PySem PySem.Spec PyProof.Rows L2
section
variable {G : GG} {N : List Str} {sc : SC} {k : Nat} {a : Expr} {ta : DT} {p pos : Pos}
def dListKT (ta : DT) : DT := fun Ex env Q => ta Ex env fun x env1 => cellS env1 x fun _ _ _ _ oc => dtO' oc fun kvs => ∀ a, Q (.lst a (kvs.map fun q => kT q.1)) env1
end
end HD
namespace HD
open PySem PySem.Spec PyProof.Rows L2
section
variable {G : GG} {N : List Str} {sc : SC} {k : Nat} {a e : Expr} {es : List Expr} {ta : DT} {tA : DTA} {p pos : Pos}
def dListR (ta : DT) : DT := fun Ex env Q => ta Ex env fun x env1 => cellS env1 x fun _ _ _ _ oc => lstO oc fun ds => ∀ a, Q (.lst a ds) env1
def rListL (K : PySem.W.Frag) : List V → Hp → VK → Prop := fun xs H Q => ∃ p ys, xs = [V.ref p] ∧ (SqL K H p ys ∨ SqT K H p ys) ∧ ∀ l, H l = none → Q (.ref l) (upd H l (.lst ys))
theorem de_listR (ha : DE G N sc k a ta) (hm : G.mg "list" = none) (hg : GlS sc "list" := by rfl) (hs : NoStar a [] := by intro _; rfl) (hpl : ∀ env, (backTo pos (starEach [] env)).any (·.1) = false := by intro _; rfl) :
    DE G N sc k (.Call (.Name "list" p) [a] [] pos) (dListR ta) := ⟨fun W => by
  obtain ⟨te, p1, i1⟩ := ha.ex W
  refine ⟨tCB (rListL G.K) (tCons te tNil), fun X S => ?_, fun e Ex hl env T F σ H Q R hh ht hR => ?_⟩
  · have c : CallR X (.type "list") (rListL X.K) := call_list_of
    rw [S.K] at c
    exact pe_callTy c (S.gl hg) (by rw [S.mg]; exact hm) (by decide +kernel) (pa_cons (p1 X S) pa_nil (hs _)) (by decide) (by decide) (hs _) (hpl _)
  refine i1 e Ex hl env T F σ H _ _ hh ht fun v H1 F1 env1 x hh1 q1 => ?_
  obtain ⟨i, b, d, cs, oc, rfl, rfl, hi, hcell, ⟨_, o, ho, okc⟩, q⟩ := hh1.cellS List.mem_cons_self q1
  cases oc with
  | lst ds =>
    obtain ⟨us, rfl, rr⟩ := okc
    exact ⟨b, us, rfl, .inl (SqL.of ho), fun p' h3 => (hh1.pop.done hR).lst hh1.fh h3 rr (q p')⟩
  | _ => exact q.elim⟩
def isLR (env : Env') : List Sl → (Sl → Env' → Prop) → Prop
  | [x, .ext (.val (.ty T))], Q => cellS env x fun _ _ _ _ oc => lstO oc fun _ => ∃ b, kitB "list" T = some b ∧ Q (.ext (.bl b)) env
  | _, _ => False
def dIsLR (tA : DTA) : DT := fun Ex env Q => tA Ex env fun xs env1 => isLR env1 xs Q
theorem de_isLR (hm : G.mg "isinstance" = none) (ha : DAs G N sc k (e :: es) tA) (hg : GlS sc "isinstance" := by rfl)
    (he : NoStar e es := by intro _; rfl) (hpl : ∀ env, (backTo pos (starEach es env)).any (·.1) = false := by intro _; rfl) : DE G N sc k (.Call (.Name "isinstance" p) (e :: es) [] pos) (dIsLR tA) := ⟨fun W => by
  obtain ⟨ta, p1, i1⟩ := ha.ex W
  refine ⟨tCB (rIsi G.K) ta, fun X S => ?_, fun e Ex hl env T F σ H Q R hh ht hR => ?_⟩
  · have c : CallR X (.builtin "isinstance") (rIsi X.K) := call_isi
    rw [S.K] at c
    exact pe_callB c (S.gl hg) (by rw [S.mg]; exact hm) (by decide +kernel) (p1 X S) (by decide) (by decide) (he _) (hpl _)
  refine i1 e Ex hl env T F σ H _ _ hh ht fun vs H1 F1 env1 xs le hh1 q1 => ?_
  have q1' : isLR env1 xs Q := q1
  unfold isLR at q1'
  split at q1'
  · rename_i x T'
    match vs, le with
    | [v, u], _ =>
      have hu : u = .ty T' := hh1.temps (u, .ext (.val (.ty T'))) (List.mem_append_left _ (List.mem_cons_of_mem _ List.mem_cons_self))
      subst hu
      obtain ⟨i, b, d, cs, oc, rfl, rfl, hi, hcell, ⟨_, o, ho, okc⟩, q⟩ := hh1.cellS (v := v) (x := x) (List.mem_append_left _ List.mem_cons_self) q1'
      cases oc with
      | lst ds =>
        obtain ⟨us, rfl, rr⟩ := okc
        obtain ⟨bb, hb, q⟩ := q
        exact ⟨.ref b, _, _, _, bb, rfl, .ty T', .base (.lst ho), kit_ty hb, ((hh1.sub (List.sublist_append_right _ _)).done hR).bl hh1.fh q⟩
      | _ => exact q.elim
  · exact q1'.elim⟩
end
def fIsiT : List D → (Sl → Prop) → Prop
  | [.tup _, .val (.ty T)], Q => ∃ b, kitB "tuple" T = some b ∧ Q (.ext (.bl b))
  | _, _ => False
theorem b_isiT : BR "isinstance" fIsiT := ⟨fun _ _ K => rIsi K, fun _ _ K F H vs ds Q R fh hr hf ha => by
    unfold fIsiT at hf
    split at hf
    · rename_i d T
      obtain ⟨v, u, rfl, r1, r2⟩ := hr.two
      obtain ⟨b, hb, q⟩ := hf
      rw [r2.val]
      obtain ⟨a, xs, rfl, hs, _⟩ := r1.tup fh
      have ty : TyX K H (.ref a) (.type "tuple") := by
        rcases hs with (hs | ⟨o, hs⟩) | ⟨o, its, m, hs, hc, _⟩
        · exact .base (.tup hs)
        · exact .fTuple hs
        · exact .kTuple hs hc
      exact ⟨.ref a, _, _, _, b, rfl, .ty T, ty, kit_ty hb, ha.bl fh q⟩
    · exact hf.elim, fun X _ _ => call_isi⟩
end HD
namespace LS
open PM Classical
theorem sorted_one {α : Type} {r : α → α → Prop} (anti : ∀ a b, r a b → r b a → a = b) : ∀ {l m : List α}, l.Perm m → l.Pairwise r → m.Pairwise r → l = m
  | [], m, h, _, _ => (List.nil_perm.1 h).symm
  | a :: l, [], h, _, _ => by cases List.perm_nil.1 h
  | a :: l, b :: m, h, p, q => by
    obtain ⟨p1, p2⟩ := List.pairwise_cons.1 p
    obtain ⟨q1, q2⟩ := List.pairwise_cons.1 q
    have e : a = b := by
      rcases List.mem_cons.1 (h.mem_iff.1 List.mem_cons_self) with e | e
      · exact e
      · rcases List.mem_cons.1 (h.mem_iff.2 List.mem_cons_self) with e' | e'
        · exact e'.symm
        · exact anti _ _ (p1 _ e') (q1 _ e)
    subst e
    rw [sorted_one anti ((List.perm_cons _).1 h) p2 q2]
end LS
namespace LS
namespace FL
namespace K43
open PySem L2 HD PM BT
local macro_rules | `(tactic| trivial) => `(tactic| try simp -dsimp only [↓sIf, ↓sRet, ↓retD_ext, ↓retD_lst, ↓retD_al, ↓sSet, ↓sSetE, ↓sAsg, ↓sDrop, ↓sNext, ↓sFor, ↓sRetN, ↓sCont, ↓sBreak, ↓dTest, ↓dOp, ↓dVar_w, ↓dC, ↓dCons, ↓dNil, ↓dTup, ↓dLst, ↓frzDs, ↓frzD_ext, ↓frzD_lst, ↓frzD_al, ↓wd_ext, ↓wd_lst, ↓wd_al, ↓wds, ↓AtS_ext, ↓AtS_lst, ↓AtL, ↓fAdd, ↓fSub, ↓fMul, ↓fDiv, ↓fMod, ↓fPow, ↓fCmp, ↓fIn, ↓fEq_ii, ↓fEq_ss, ↓fEq_bb, ↓fEq_tt, ↓fEq_ll, ↓fNe_ii, ↓fNe_ss, ↓fNe_bb, ↓fNe_tt, ↓fNe_ll, ↓fIx_l, ↓fIx_t, ↓fIx_k, ↓fIx_f, ↓GetS_some, ↓NatS_some, ↓fSl, ↓fIsN, ↓fNotN, ↓D.knN, ↓dNot, ↓dAnd, ↓dOr, ↓dAndV_w, ↓dOrV_w, ↓dNotV, ↓dIf, ↓dNeg, ↓dChain_w, ↓BlS_bl, ↓dCall_w, ↓dCallJ_w, ↓anyAl, ↓frozs, ↓froz, ↓gSet, ↓gTupD, ↓gsCons, ↓gsNil, ↓dSeq, ↓seqD_tup, ↓seqD_elst, ↓seqD_lst, ↓seqD_al, ↓dRange1, ↓dRange2, ↓dZip, ↓dCB, ↓dLc, ↓dYes, ↓dNoPart, ↓dPart, ↓dSl, ↓fLen, ↓fMin, ↓fMax, ↓fSum, ↓fAll, ↓fAny, ↓fSorted, ↓fTuple, ↓fList, ↓dRg1, ↓dRg2, ↓dLstRg, ↓dTupRg, ↓dIndex, ↓fIdx, ↓dAppend_w, ↓dExtend_w, ↓extD_lst, ↓dPopAt_w, ↓popD_int, ↓dPop_w, ↓mutD_w, ↓sSetItem_w, ↓setD_int, ↓dSortSet, ↓dTable_w, ↓wipeE, finals1, finals2, finals3, finals4, finals5, finals6, fin1_ext, fin1_lst, List.getElem?_cons_zero, List.getElem?_cons_succ, List.getElem?_nil, List.set_cons_zero, List.set_cons_succ, List.cons_append, List.nil_append, List.append_nil, List.replicate_succ, List.replicate_zero, List.map_cons, List.map_nil, List.length_cons, List.length_nil, true_and, and_true, ite_true, ite_false, if_true, if_false, Bool.false_eq_true, decide_eq_true_eq, Sl.plain, D.isSq, eq_self_iff_true, forall_const, reduceIte, true_or, or_true, atI_0, atI_1, atI_2, atI_3, ixN_0, ixN_1, ixN_2, AtS_ext, AtS_lst, FzS_lst, FzS_ext, GetS_some, NatS_some, ↓fIsi1, ↓fIsi2, BoolS_some, HD.kb_non_tuple, HD.kb_non_list, HD.kb_non_bool, HD.kb_non_int, HD.kb_non_str, HD.kb_bl_tuple, HD.kb_bl_list, HD.kb_bl_bool, HD.kb_bl_int, HD.kb_bl_str, HD.kb_int_tuple, HD.kb_int_list, HD.kb_int_bool, HD.kb_int_int, HD.kb_int_str, HD.kb_str_tuple, HD.kb_str_list, HD.kb_str_bool, HD.kb_str_int, HD.kb_str_str, HD.kb_lst_tuple, HD.kb_lst_list, HD.kb_lst_bool, HD.kb_lst_int, HD.kb_lst_str, HD.kb_tup_tuple, HD.kb_tup_list, HD.kb_tup_bool, HD.kb_tup_int, HD.kb_tup_str, ↓sFz_w, ↓FzS_lst, ↓FzS_ext, ↓dSortSetL, ↓fAbs, ↓fInt, ↓fRepr, ↓fLtT, ↓sRaise, ↓sTryKeep, ↓dCallV_w, ↓dMeth, ↓fCount, ↓fSplit, ↓seq_setE, ↓seq_set, ↓seq_drop, ↓seq_asg, ↓seq_if, ↓seq_for, ↓dStep, ↓fStep, ↓fMulT, ↓fIsB, ↓fNotB, ↓sPar, ↓dEnum, ↓dListZip, ↓dNest, ↓sSeal, ↓dNApp, ↓retD_reg, ↓dLenSet, ↓fSum2, ↓seq_putD, ↓seq_sealD, ↓dDIn, ↓dDGet, ↓sPutD, ↓dDNew, ↓dDOne, ↓sSealD, ↓dKeys, ↓keyS_dk, ↓dExtT, ↓fSortT, ↓fMinP, ↓dRemove, ↓dDInT, ↓dDGetT, ↓sPutDT, ↓dDNewT, ↓sSealDT, ↓dKeysT, ↓keyST_dt, ↓fSortK, ↓seq_putDT, ↓seq_sealDT, ↓dVarR_w, ↓dAttr, ↓dAppR, ↓dExtR_w, ↓dExtTR_w, ↓dClrR, ↓dPopR_w, ↓dIxR_w, ↓dDGetR, ↓dDInR, ↓dGet2R, ↓dPop1R, ↓dPop2R, ↓dDGetTR, ↓dDInTR, ↓dPop1TR, ↓dCallM, ↓dMethO, ↓dMake, ↓dMoveR, ↓dPtr, ↓sAttr, ↓sSetR, ↓sPutR, ↓sPutTR, ↓sSetA_w, ↓sSetG_w, ↓seq_setG, ↓seq_setA, ↓seq_attr, ↓seq_setR, ↓seq_putR, ↓seq_putTR, ↓RegS_reg, ↓CellS_some, ↓RefS_reg, ↓RefS_ar, ↓cellS_ar, ↓wd_ar, ↓seqD_ar, ↓lstO_lst, ↓insO_ins, ↓dkO_dk, ↓dkO_lk, ↓dtO_dt, ↓dtO_lk, ↓dkW_dk, ↓dtW_dt, ↓stoS_ext, ↓stoS_reg, ↓stoS_lstT, ↓stoS_lstF, ↓stoS_al, ↓ptrD_ref, ↓ptrD_int, ↓ptrD_str, ↓ptrD_bl, ↓ptrD_non, ↓ptrD_tup, ↓ptrD_tk, ↓ptrD_lst, ↓ptrD_fz, ↓setGS_lst, ↓setGS_reg, ↓setAS_ar, ↓setAS_ext, ↓intS_int, ↓tupS_tup, ↓lstS_lst, ↓lstK, ↓dkK, ↓dtK, ↓retD_reg, ↓dSortSetB, ↓fSortD, ↓dCallD, ↓regC_reg, ↓dMoveL, ↓dMoveR_w, ↓dDictP, ↓froz_lst, ↓froz_ext, ↓dUpdTR, ↓dUpdKR, ↓dDictZipK, ↓dDictC, ↓dClear, ↓fStr, ↓dListItems, ↓dLenK, ↓dSortKI, ↓dInC, ↓fMinT, ↓fMaxT, ↓dListKT, ↓dLcR, ↓dSumL, ↓sFzR, ↓dSortSetP, ↓HD.dStep, ↓dChain3, ↓fSortE, ↓fSortLen, ↓dVarG, ↓dAsP, ↓asP_ref, ↓dTupM, ↓regsOf, ↓regOf, ↓dFrzT, ↓frzT_reg, ↓dListR, ↓dIsLR, ↓isLR, ↓fIsiT, ↓fMinQ, ↓dDOneT, ↓dGet2T, ↓dDGetTmp])
local macro_rules | `(tactic| and_intros) => `(tactic| try simp -dsimp only [↓sIf, ↓sRet, ↓retD_ext, ↓retD_lst, ↓retD_al, ↓sSet, ↓sSetE, ↓sAsg, ↓sDrop, ↓sNext, ↓sFor, ↓sRetN, ↓sCont, ↓sBreak, ↓dTest, ↓dOp, ↓dC, ↓dCons, ↓dNil, ↓dTup, ↓dLst, ↓frzDs, ↓frzD_ext, ↓frzD_lst, ↓frzD_al, ↓wd_ext, ↓wd_lst, ↓wd_al, ↓wds, ↓AtS_ext, ↓AtS_lst, ↓AtL, ↓fAdd, ↓fSub, ↓fMul, ↓fDiv, ↓fMod, ↓fPow, ↓fCmp, ↓fIn, ↓fEq_ii, ↓fEq_ss, ↓fEq_bb, ↓fEq_tt, ↓fEq_ll, ↓fNe_ii, ↓fNe_ss, ↓fNe_bb, ↓fNe_tt, ↓fNe_ll, ↓fIx_l, ↓fIx_t, ↓fIx_k, ↓fIx_f, ↓GetS_some, ↓NatS_some, ↓fSl, ↓fIsN, ↓fNotN, ↓D.knN, ↓dNot, ↓dAnd, ↓dOr, ↓dAndV_w, ↓dOrV_w, ↓dNotV, ↓dIf, ↓dNeg, ↓dChain_w, ↓BlS_bl, ↓dCall_w, ↓dCallJ_w, ↓anyAl, ↓frozs, ↓froz, ↓gSet, ↓gTupD, ↓gsCons, ↓gsNil, ↓dSeq, ↓seqD_tup, ↓seqD_elst, ↓seqD_lst, ↓seqD_al, ↓dRange1, ↓dRange2, ↓dZip, ↓dCB, ↓dLc, ↓dYes, ↓dNoPart, ↓dPart, ↓dSl, ↓fLen, ↓fMin, ↓fMax, ↓fSum, ↓fAll, ↓fAny, ↓fSorted, ↓fTuple, ↓fList, ↓dRg1, ↓dRg2, ↓dLstRg, ↓dTupRg, ↓dIndex, ↓fIdx, ↓dAppend_w, ↓dExtend_w, ↓extD_lst, ↓dPopAt_w, ↓popD_int, ↓dPop_w, ↓mutD_w, ↓sSetItem_w, ↓setD_int, ↓dSortSet, ↓dTable_w, ↓wipeE, finals1, finals2, finals3, finals4, finals5, finals6, fin1_ext, fin1_lst, List.getElem?_cons_zero, List.getElem?_cons_succ, List.getElem?_nil, List.set_cons_zero, List.set_cons_succ, List.cons_append, List.nil_append, List.append_nil, List.replicate_succ, List.replicate_zero, List.map_cons, List.map_nil, List.length_cons, List.length_nil, true_and, and_true, ite_true, ite_false, if_true, if_false, Bool.false_eq_true, decide_eq_true_eq, Sl.plain, D.isSq, eq_self_iff_true, forall_const, reduceIte, true_or, or_true, atI_0, atI_1, atI_2, atI_3, ixN_0, ixN_1, ixN_2, AtS_ext, AtS_lst, FzS_lst, FzS_ext, GetS_some, NatS_some, ↓fIsi1, ↓fIsi2, BoolS_some, HD.kb_non_tuple, HD.kb_non_list, HD.kb_non_bool, HD.kb_non_int, HD.kb_non_str, HD.kb_bl_tuple, HD.kb_bl_list, HD.kb_bl_bool, HD.kb_bl_int, HD.kb_bl_str, HD.kb_int_tuple, HD.kb_int_list, HD.kb_int_bool, HD.kb_int_int, HD.kb_int_str, HD.kb_str_tuple, HD.kb_str_list, HD.kb_str_bool, HD.kb_str_int, HD.kb_str_str, HD.kb_lst_tuple, HD.kb_lst_list, HD.kb_lst_bool, HD.kb_lst_int, HD.kb_lst_str, HD.kb_tup_tuple, HD.kb_tup_list, HD.kb_tup_bool, HD.kb_tup_int, HD.kb_tup_str, ↓sFz_w, ↓FzS_lst, ↓FzS_ext, ↓dSortSetL, ↓fAbs, ↓fInt, ↓fRepr, ↓fLtT, ↓sRaise, ↓sTryKeep, ↓dCallV_w, ↓dMeth, ↓fCount, ↓fSplit, ↓seq_setE, ↓seq_set, ↓seq_drop, ↓seq_asg, ↓seq_if, ↓seq_for, ↓dStep, ↓fStep, ↓fMulT, ↓fIsB, ↓fNotB, ↓sPar, ↓dEnum, ↓dListZip, ↓dNest, ↓sSeal, ↓dNApp, ↓retD_reg, ↓dLenSet, ↓fSum2, ↓seq_putD, ↓seq_sealD, ↓dDIn, ↓dDGet, ↓sPutD, ↓dDNew, ↓dDOne, ↓sSealD, ↓dKeys, ↓keyS_dk, ↓dExtT, ↓fSortT, ↓fMinP, ↓dRemove, ↓dDInT, ↓dDGetT, ↓sPutDT, ↓dDNewT, ↓sSealDT, ↓dKeysT, ↓keyST_dt, ↓fSortK, ↓seq_putDT, ↓seq_sealDT, ↓dVarR_w, ↓dAttr, ↓dAppR, ↓dExtR_w, ↓dExtTR_w, ↓dClrR, ↓dPopR_w, ↓dIxR_w, ↓dDGetR, ↓dDInR, ↓dGet2R, ↓dPop1R, ↓dPop2R, ↓dDGetTR, ↓dDInTR, ↓dPop1TR, ↓dCallM, ↓dMethO, ↓dMake, ↓dMoveR, ↓dPtr, ↓sAttr, ↓sSetR, ↓sPutR, ↓sPutTR, ↓sSetA_w, ↓sSetG_w, ↓seq_setG, ↓seq_setA, ↓seq_attr, ↓seq_setR, ↓seq_putR, ↓seq_putTR, ↓RegS_reg, ↓CellS_some, ↓RefS_reg, ↓RefS_ar, ↓cellS_ar, ↓wd_ar, ↓seqD_ar, ↓lstO_lst, ↓insO_ins, ↓dkO_dk, ↓dkO_lk, ↓dtO_dt, ↓dtO_lk, ↓dkW_dk, ↓dtW_dt, ↓stoS_ext, ↓stoS_reg, ↓stoS_lstT, ↓stoS_lstF, ↓stoS_al, ↓ptrD_ref, ↓ptrD_int, ↓ptrD_str, ↓ptrD_bl, ↓ptrD_non, ↓ptrD_tup, ↓ptrD_tk, ↓ptrD_lst, ↓ptrD_fz, ↓setGS_lst, ↓setGS_reg, ↓setAS_ar, ↓setAS_ext, ↓intS_int, ↓tupS_tup, ↓lstS_lst, ↓lstK, ↓dkK, ↓dtK, ↓retD_reg, ↓dSortSetB, ↓fSortD, ↓dCallD, ↓regC_reg, ↓dMoveL, ↓dMoveR_w, ↓dDictP, ↓froz_lst, ↓froz_ext, ↓dUpdTR, ↓dUpdKR, ↓dDictZipK, ↓dDictC, ↓dClear, ↓fStr, ↓dListItems, ↓dLenK, ↓dSortKI, ↓dInC, ↓fMinT, ↓fMaxT, ↓dListKT, ↓dLcR, ↓dSumL, ↓sFzR, ↓dSortSetP, ↓HD.dStep, ↓dChain3, ↓fSortE, ↓fSortLen, ↓dVarG, ↓dAsP, ↓asP_ref, ↓dTupM, ↓regsOf, ↓regOf, ↓dFrzT, ↓frzT_reg, ↓dListR, ↓dIsLR, ↓isLR, ↓fIsiT, ↓fMinQ, ↓dDOneT, ↓dGet2T, ↓dDGetTmp, ↓dv0, ↓dw0, ↓dv1, ↓dw1, ↓dv2, ↓dw2, ↓dv3, ↓dw3, ↓dv4, ↓dw4, ↓dv5, ↓dw5, ↓dv6, ↓dw6, ↓dv7, ↓dw7, ↓dv8, ↓dw8, ↓dv9, ↓dw9, ↓dv10, ↓dw10, ↓dv11, ↓dw11, ↓dv12, ↓dw12, ↓dv13, ↓dw13, ↓dv14, ↓dw14, ↓dv15, ↓dw15, ↓dv16, ↓dw16, ↓dv17, ↓dw17, ↓dv18, ↓dw18, ↓dv19, ↓dw19])
noncomputable abbrev lrT (v : Nat) (o : List Nat) (b : Addr) : D := .tup [.int (v : Nat), .tup (nD o), .val (.ref b)]
def sp_least_room : DSpec := fun args Q X => ∃ (S : List Nat) (ps : List Part), args = [.ext (dSh S ps)] ∧ NsOk S ps ∧ SzOk S ∧ (S.length ≤ 8 → ∀ v o f b fin, LrOk S (gsOf ps) v o f → Q (.reg (lrT v o b) [(b, .lst (flT S.length fun s => ((f s : Nat) : Int)))]) fin) ∧ (8 < S.length → ∀ fin, X "TooMany" fin)
def e1_least_room : DT :=
    (dVar 7)
def b2_least_room : DTS :=
    (sSeq (sSetE 6 (dCB fTuple (dCons (dLc (dSeq (dVar 3)) (gSet 7) (dTest (dOp fNe (dVar 7) (dVar 5))) e1_least_room [7]) dNil)))
    (sSeq (sAsg (dDGetT 2 (dVar 6)) (gTupD 2 (gsCons (gSet 8) (gsCons (gSet 9) gsNil))))
    (sDrop (dAppend 4 (dTup (dCons (dCB fMax (dCons (dVar 8) (dCons (dCall sp_room_by (dCons (dVar 0) (dCons (dCall sp_bag_by (dCons (dVar 1) (dCons (dVar 6) (dCons (dVar 5) dNil)))) dNil))) dNil))) (dCons (dOp fAdd (dVar 9) (dTup (dCons (dVar 5) dNil))) dNil)))))))
def k3_least_room : DTS :=
    (sIf (dTest (dOp fNe (dVar 4) (dLst dNil))) (sPutDT 2 (dVar 3) (dCB fMinQ (dCons (dVar 4) dNil))) sNext)
def b4_least_room : DTS :=
    (sSeq (sSet 4 (dLst dNil))
    (sSeq (sFor (dSeq (dVar 3)) (gSet 5) b2_least_room)
    k3_least_room))
def e5_least_room : DT :=
    (dTup (dCons (dVar 3) (dCons (dOp fIx (dDGetT 2 (dVar 3)) (dC (.int 0))) dNil)))
def k6_least_room : DTS :=
    (sSeq (sAsg (dDGetT 2 (dTupRg (dRg1 (dCB fLen (dCons (dVar 1) dNil))))) (gTupD 2 (gsCons (gSet 8) (gsCons (gSet 9) gsNil))))
    (sSealDT 2 (sRet (dTupM (dCons (dVar 8) (dCons (dVar 9) (dCons (dCB fSortD (dCons (dLc (dKeysT (dVar 2)) (gSet 3) dYes e5_least_room [3]) dNil)) dNil)))))))
def t_least_room : DTS :=
    (sSeq (sDrop (dCall sp_need_few (dCons (dVar 0) dNil)))
    (sSeq (sSetE 1 (dCall sp_ties_of (dCons (dVar 0) dNil)))
    (sSeq (sSet 2 (dDOneT (dTup dNil) (dTup (dCons (dC (.int 1)) (dCons (dTup dNil) dNil)))))
    (sSeq (sFor (dSeq (dCall sp_all_sets (dCons (dCB fLen (dCons (dVar 1) dNil)) dNil))) (gSet 3) b4_least_room)
    k6_least_room))))
theorem m_least_room : Meets t_least_room 1 9 sp_least_room := by
  rintro args Qd Xd ⟨S, ps, rfl, ok, hS, hQ, hX⟩
  show t_least_room _ _ [_, .un, .un, .un, .un, .un, .un, .un, .un, .un]
  unfold t_least_room
  and_intros
  refine ⟨S, ps, rfl, fun h8 fin => ?_, fun h8 fin => hX h8 _⟩
  and_intros
  refine ⟨S, ps, rfl, ok, fun a1 fin => ?_⟩
  and_intros
  have h24 := ok.few
  have htl : (tiDs S.length (gsOf ps)).length = S.length := by unfold tiDs; rw [List.length_map, List.length_range]
  refine ⟨by decide, by decide, by decide, [], rfl, fun a2 => ?_⟩
  rw [htl]
  refine ⟨S.length, rfl, h8, fun a L fin hp hs => ?_⟩
  and_intros
  show forD (gSet 3) b4_least_room _ _ _ (fD L) (lrE S ps a2 [[]] (fun _ => (1, [])) .un .un .un .un .un .un .un)
  have hLm : ∀ {s : List Nat}, s ∈ L ↔ Rising s ∧ ∀ m ∈ s, m < S.length := fun {s} => by rw [hp.mem_iff, mem_sets]
  have hLn : L.Nodup := hp.nodup_iff.2 (sets_nodup _)
  have hLl : L.length ≤ 256 := by
    rw [hp.length_eq, sets_len]
    exact Nat.le_trans (Nat.pow_le_pow_right (by decide) h8) (by decide)
  refine for_ind (fun s : List Nat => D.tup (nD s)) (fun xs env => ∃ (l pre : List (List Nat)) (g : List Nat → Nat × List Nat) (u3 u4 u5 u6 u8 u9 : Sl), env = lrE S ps a2 l g u3 u4 u5 u6 .un u8 u9 ∧ L = pre ++ xs ∧ l.Nodup ∧ (∀ t, t ∈ l ↔ t = [] ∨ t ∈ pre) ∧ ∀ t ∈ l, KnOk S (gsOf ps) t (g t)) ?_ ?_ L _ ⟨[[]], [], fun _ => (1, []), _, _, _, _, _, _, rfl, rfl, List.pairwise_singleton _ _, fun t => by simp, fun t ht => by
    rw [List.mem_singleton.1 ht]
    exact ⟨best_nil S (gsOf ps), List.Perm.refl _, rfl⟩⟩
  · rintro env ⟨l, pre, g, u3, u4, u5, u6, u8, u9, rfl, he, hnd, hlm, hk⟩
    rw [List.append_nil] at he
    subst he
    have hl : ∀ t, t ∈ l ↔ Rising t ∧ ∀ m ∈ t, m < S.length := fun t => by
      rw [hlm, hLm]
      constructor
      · rintro (rfl | h)
        · exact ⟨List.Pairwise.nil, fun m hm => nomatch hm⟩
        · exact h
      · exact .inr
    have hlp : l.Perm (setsN S.length) := (List.perm_ext_iff_of_nodup hnd (sets_nodup _)).2 fun t => by rw [hl, mem_sets]
    have ht : List.range S.length ∈ l := (hl _).2 ⟨rising_range _, fun m hm => List.mem_range.1 hm⟩
    refine ⟨True.intro, ?_⟩
    unfold k6_least_room lrE
    and_intros
    have dtb : dtAt [.ext (dSh S ps), .ext (tiD S.length (gsOf ps)), dtS a2 (kvsN l g), u3, u4, u5, u6, .un, u8, u9] 2 (kvsN l g) := .inl ⟨a2, rfl⟩
    rw [htl]
    refine ⟨⟨_, dtb⟩, ⟨by omega, by omega⟩, cI (List.range S.length), _, _, by rw [kT_c, rgD_nat], dtb, lu_map (fun s => knD (g s)) ht, ?_⟩
    and_intros
    refine ⟨a2, kvsN l g, rfl, ?_⟩
    have ek : ((kvsN l g).map (·.1)).map kT = l.map fun s => D.tup (nD s) := by
      rw [List.map_map, List.map_map]
      exact List.map_congr_left fun s _ => kT_c s
    rw [ek]
    have hll : l.length ≤ 256 := by
      rw [hlp.length_eq, sets_len]
      exact Nat.le_trans (Nat.pow_le_pow_right (by decide) h8) (by decide)
    refine lc_map (fun s : List Nat => D.tup (nD s)) (fun s => D.tup [.tup (nD s), .int ((g s).1 : Nat)]) True.intro l (hsz (by omega)) (fun s hs R hR => ?_) fun b => ?_
    · unfold e5_least_room
      and_intros
      refine ⟨⟨kvsN l g, .inr rfl⟩, cI s, kvsN l g, _, congrArg Sl.ext (kT_c s).symm, .inr rfl, lu_map (fun s => knD (g s)) hs, ?_⟩
      and_intros
      exact ⟨by decide, hR⟩
    and_intros
    refine ⟨srt_prs (fun s => (g s).1) l, fun ds' b2 hp' hs' => ?_⟩
    rw [sorted_prs (fun s => (g s).1) hlp hp' hs']
    exact ⟨by decide, _, _, rfl, hQ h8 _ _ _ b2 _ ⟨(hk _ ht).perm, (hk _ ht).room, fun s h1 h2 => (hk s ((hl s).2 ⟨h1, h2⟩)).best, rfl⟩⟩
  · rintro s xs env N ⟨l, pre, g, u3, u4, u5, u6, u8, u9, rfl, he, hnd, hlm, hk⟩ hN
    have hsL : s ∈ L := by rw [he]; simp
    have hs' := hLm.1 hsL
    have hnp : s ∉ pre := fun z => by
      rw [he, List.nodup_append] at hLn
      exact hLn.2.2 s z s List.mem_cons_self rfl
    refine ⟨True.intro, ?_⟩
    show FL.b4_least_room _ _ _
    refine b4_lr hS h24 hs' hk (fun x hx => (hlm _).2 ?_) (fun hne z => ((hlm s).1 z).elim hne hnp) ?_ fun u3 u4 u5 u6 u8 u9 => ⟨fun e => ?_, fun hne p K => ?_⟩
    · have hw := hLm.2 (wo_sets hs' x)
      rw [he] at hw
      rcases List.mem_append.1 hw with h | h
      · exact .inr h
      · exfalso
        have hlen := wo_len hx
        rw [he] at hs
        have h2 := (List.pairwise_append.1 hs).2.1
        rcases List.mem_cons.1 h with h | h
        · rw [h] at hlen; omega
        · have := (List.pairwise_cons.1 h2).1 _ h
          omega
    · have : l.length ≤ L.length + 1 := by
        have h3 : l.length ≤ (([] : List Nat) :: L).length := nd_subL hnd fun t ht => by
          rcases (hlm t).1 ht with e | e
          · rw [e]; exact List.mem_cons_self
          · exact List.mem_cons_of_mem _ (by rw [he]; exact List.mem_append_left _ e)
        rwa [List.length_cons] at h3
      omega
    · exact hN _ ⟨l, pre ++ [s], g, _, _, _, _, _, _, rfl, by rw [List.append_assoc]; exact he, hnd, fun t => by
        rw [hlm, List.mem_append, List.mem_singleton, e]
        constructor
        · rintro (h | h)
          · exact .inl h
          · exact .inr (.inl h)
        · rintro (h | h | h)
          · exact .inl h
          · exact .inr h
          · exact .inl h, hk⟩
    · have hsl : s ∉ l := fun z => ((hlm s).1 z).elim hne hnp
      refine hN _ ⟨l ++ [s], pre ++ [s], _, _, _, _, _, _, _, rfl, by rw [List.append_assoc]; exact he, ?_, fun t => by
        rw [List.mem_append, hlm, List.mem_append, List.mem_singleton, or_assoc], fun t ht => ?_⟩
      · exact List.nodup_append.2 ⟨hnd, List.pairwise_singleton _ _, fun a ha b hb e => by
          rw [List.mem_singleton.1 hb] at e
          exact hsl (e ▸ ha)⟩
      · by_cases c : t = s
        · rw [if_pos c, c]; exact K
        · rw [if_neg c]
          exact hk t ((List.mem_append.1 ht).resolve_right fun z => c (List.mem_singleton.1 z))
def sp_law_sets : DSpec := fun args Q _ => ∃ n : Nat, args = [dI (n : Nat)] ∧ n ≤ 8 ∧ ∀ fin, Q (.ext (.lst (fD (setsN n)))) fin
def e1_law_sets : DT :=
    (dOp fAdd (dVar 3) (dTup (dCons (dVar 2) dNil)))
def b2_law_sets : DTS :=
    (sSetE 1 (dOp fAdd (dVar 1) (dLc (dSeq (dVar 1)) (gSet 3) dYes e1_law_sets [3])))
def k3_law_sets : DTS :=
    (sRet (dVar 1))
def t_law_sets : DTS :=
    (sSeq (sSetE 1 (dLst (dCons (dTup dNil) dNil)))
    (sSeq (sFor (dRange1 (dCons (dVar 0) dNil)) (gSet 2) b2_law_sets)
    k3_law_sets))
theorem m_law_sets : Meets t_law_sets 1 3 sp_law_sets := by
  rintro args Qd Xd ⟨n, rfl, hn, hQ⟩
  show t_law_sets _ _ [_, .un, .un, .un]
  unfold t_law_sets
  and_intros
  refine ⟨by decide, by decide, ⟨by omega, by omega⟩, ?_⟩
  rw [rgD_nat]
  refine for_ind (fun i : Nat => D.int (i : Nat)) (fun xs env => ∃ (u2 : Sl) (m : Nat), env = [dI (n : Nat), .ext (.lst (fD (setsN m))), u2, .un] ∧ List.range n = List.range m ++ xs) ?_ ?_ (List.range n) _ ⟨_, 0, rfl, rfl⟩
  · rintro env ⟨u2, m, rfl, he⟩
    rw [List.append_nil] at he
    have e : n = m := by
      have := congrArg List.length he
      rwa [List.length_range, List.length_range] at this
    subst e
    refine ⟨True.intro, ?_⟩
    unfold k3_law_sets
    and_intros
    exact hQ _
  · rintro k xs env N ⟨u2, m, rfl, he⟩ hN
    have ek : k = m := by
      have h1 : (List.range n)[m]? = (List.range m ++ k :: xs)[m]? := by rw [he]
      rw [List.getElem?_append_right (by rw [List.length_range]; exact Nat.le_refl _), List.length_range, Nat.sub_self] at h1
      have hm : m < n := by
        have := congrArg List.length he
        rw [List.length_append, List.length_range, List.length_range, List.length_cons] at this
        omega
      rw [List.getElem?_range hm] at h1
      exact (Option.some.inj h1).symm
    subst ek
    have hm : k < n := List.mem_range.1 (by rw [he]; simp)
    have hl : (setsN k).length ≤ 128 := by
      rw [sets_len]
      exact Nat.le_trans (Nat.pow_le_pow_right (by decide) (by omega : k ≤ 7)) (by decide)
    refine ⟨True.intro, ?_⟩
    unfold b2_law_sets
    and_intros
    refine lc_map (fun B : List Nat => D.tup (nD B)) (fun B => D.tup (nD (B ++ [k]))) True.intro (setsN k) (hsz (by omega)) (fun B hB R hR => ?_) fun a => ?_
    · unfold e1_law_sets
      and_intros
      have := rising_len (mem_sets.1 hB).1 (mem_sets.1 hB).2
      refine ⟨by decide, hsz (by rw [nD_len]; omega), ?_⟩
      rw [show nD B ++ [D.int (k : Nat)] = nD (B ++ [k]) by rw [nD_app]; rfl]
      exact hR
    and_intros
    refine ⟨hsz (by rw [List.length_map, List.length_map]; omega), ?_⟩
    rw [show fD (setsN k) ++ (setsN k).map (fun B => D.tup (nD (B ++ [k]))) = fD (setsN (k + 1)) by
      rw [setsN, fD_app]
      congr 1
      show _ = ((setsN k).map (· ++ [k])).map fun B => D.tup (nD B)
      rw [List.map_map]
      rfl]
    exact hN _ ⟨_, k + 1, rfl, by rw [List.range_succ, List.append_assoc]; exact he⟩
theorem pt_in {β : Type} (g : List Nat → β) {l : List (List Nat)} {s : List Nat} (h : s ∈ l) (d : β) : ptK (l.map fun s => (cI s, g s)) (cI s) d = l.map fun t => (cI t, if t = s then d else g t) := by
  unfold ptK
  rw [if_pos (by rw [List.any_map, List.any_eq_true]; exact ⟨s, h, decide_eq_true rfl⟩), List.map_map]
  refine List.map_congr_left fun t _ => ?_
  show (if cI t = cI s then (cI t, d) else (cI t, g t)) = _
  by_cases c : t = s
  · rw [c, if_pos rfl, if_pos rfl]
  · rw [if_neg c, if_neg fun z => c (cI_inj z)]
theorem lu_not {β : Type} (g : List Nat → β) {l : List (List Nat)} {s : List Nat} (h : s ∉ l) : luK (l.map fun s => (cI s, g s)) (cI s) = none := by
  induction l with
  | nil => rfl
  | cons t l ih =>
    rw [List.map_cons, luK_cons, if_neg fun z => h (by rw [← cI_inj z]; exact List.mem_cons_self)]
    exact ih fun z => h (List.mem_cons_of_mem _ z)
def sp_law_least : DSpec := fun args Q _ => ∃ (S : List Nat) (ps : List Part), args = [.ext (dSh S ps)] ∧ NsOk S ps ∧ SzOk S ∧ S.length ≤ 8 ∧ ∀ (v : Nat) fin, Best S (gsOf ps) (List.range S.length) v → Q (dI (v : Nat)) fin
def e1_law_least : DT :=
    (dTup (dCons (dCB fLen (dCons (dVar 3) dNil)) (dCons (dVar 3) dNil)))
def e2_law_least : DT :=
    (dVar 6)
def e3_law_least : DT :=
    (dOp fIx (dOp fIx (dVar 0) (dC (.int 0))) (dVar 6))
def b4_law_least : DTS :=
    (sSeq (sSetE 5 (dCB fTuple (dCons (dLc (dSeq (dOp fIx (dVar 3) (dC (.int 1)))) (gSet 6) (dTest (dOp fNe (dVar 6) (dVar 4))) e2_law_least [6]) dNil)))
    (sSeq (sSetE 7 (dCall sp_law_times (dCons (dLc (dSeq (dCall sp_law_bag (dCons (dVar 1) (dCons (dVar 5) (dCons (dVar 4) dNil))))) (gSet 6) dYes e3_law_least [6]) dNil)))
    (sSeq (sSetE 7 (dCB fMax (dCons (dVar 7) (dCons (dDGetT 2 (dVar 5)) dNil))))
    (sPutDT 2 (dOp fIx (dVar 3) (dC (.int 1))) (dCB fMin (dCons (dGet2T 2 (dOp fIx (dVar 3) (dC (.int 1))) (dVar 7)) (dCons (dVar 7) dNil)))))))
def b5_law_least : DTS :=
    (sFor (dSeq (dOp fIx (dVar 3) (dC (.int 1)))) (gSet 4) b4_law_least)
def k6_law_least : DTS :=
    (sRet (dDGetT 2 (dTupRg (dRg1 (dCB fLen (dCons (dVar 1) dNil))))))
def t_law_least : DTS :=
    (sSeq (sSetE 1 (dCall sp_law_tied (dCons (dVar 0) dNil)))
    (sSeq (sSet 2 (dDOneT (dTup dNil) (dC (.int 1))))
    (sSeq (sFor (dSeq (dCB fSortD (dCons (dLc (dSeq (dCall sp_law_sets (dCons (dCB fLen (dCons (dVar 1) dNil)) dNil))) (gSet 3) dYes e1_law_least [3]) dNil))) (gSet 3) b5_law_least)
    k6_law_least)))
abbrev kvI (l : List (List Nat)) (f : List Nat → Nat) : List (List Int × D) := l.map fun t => (cI t, D.int (f t : Nat))
section
variable {Ex : DX} {E : DEnds} {S : List Nat} {ps : List Part} {l : List (List Nat)} {f : List Nat → Nat} {a2 : Addr} {s : List Nat}
noncomputable abbrev cnd (S : List Nat) (gs : List (List Nat)) (f : List Nat → Nat) (s : List Nat) (x : Nat) : Nat := max (f (wo s x)) (psz S (bagN S.length gs (wo s x) x))
noncomputable abbrev leE (S : List Nat) (ps : List Part) (a2 : Addr) (l : List (List Nat)) (f : List Nat → Nat) (u3 u4 u5 u7 : Sl) : Env' := [.ext (dSh S ps), .ext (tiD S.length (gsOf ps)), dtS a2 (kvI l f), u3, u4, u5, .un, u7]
theorem b4_ll {x : Nat} {u5 u7 : Sl} (hS : SzOk S) (h24 : S.length ≤ 24) (hs : Rising s ∧ ∀ m ∈ s, m < S.length) (hx : x ∈ s) (hwx : wo s x ∈ l) (hll : l.length ≤ 500)
    (hE : ∀ l' f' u5 u7, (s ∈ l → l' = l) → (s ∉ l → l' = l ++ [s]) → (∀ t, t ≠ s → f' t = f t) → (s ∈ l → f' s = min (f s) (cnd S (gsOf ps) f s x)) → (s ∉ l → f' s = cnd S (gsOf ps) f s x) → E.nx (leE S ps a2 l' f' (.ext (.tup [.int (s.length : Nat), .tup (nD s)])) (dI (x : Nat)) u5 u7)) :
    b4_law_least Ex E (leE S ps a2 l f (.ext (.tup [.int (s.length : Nat), .tup (nD s)])) (dI (x : Nat)) u5 u7) := by
  have hsl := rising_len hs.1 hs.2
  have hxl := hs.2 x hx
  unfold b4_law_least leE
  and_intros
  refine lc_filter (fun m : Nat => D.int (m : Nat)) (fun m : Nat => D.int (m : Nat)) (fun m => decide (m ≠ x)) True.intro s (hsz (by omega)) (fun m hm R hR => ?_) fun a7 => ?_
  · and_intros
    by_cases e : m = x
    · rw [if_neg (by rw [e]; simp)]
      rw [if_neg (by simpa using e)] at hR
      exact hR
    · rw [if_pos (by rw [Bool.not_eq_true', beq_eq_false_iff_ne]; omega)]
      rw [if_pos (by simpa using e)] at hR
      unfold e2_law_least
      and_intros
      exact hR
  and_intros
  rw [show ((s.filter fun m => decide (m ≠ x)).map fun m : Nat => D.int (m : Nat)) = nD (wo s x) from rfl]
  refine ⟨S.length, gsOf ps, wo s x, _, x, rfl, .inl rfl, h24, hxl, fun z => (mem_wo.1 z).2 rfl, fun fin => ?_⟩
  and_intros
  have hbr := bag_rising S.length (gsOf ps) (wo s x) x
  have hbm : ∀ m ∈ bagN S.length (gsOf ps) (wo s x) x, m < S.length := fun m hm => (mem_bag.1 hm).1
  have hz := psz_le_nd hS (hbr.imp Nat.ne_of_lt) hbm
  have hbl := rising_len hbr hbm
  refine lc_map (fun m : Nat => D.int (m : Nat)) (fun m => .int (sz S m : Nat)) True.intro (bagN S.length (gsOf ps) (wo s x) x) (hsz (by omega)) (fun m hm R hR => ?_) fun b => ?_
  · unfold e3_law_least
    and_intros
    exact ⟨_, atN (getD_at (hbm m hm)), hR⟩
  and_intros
  refine ⟨(bagN S.length (gsOf ps) (wo s x) x).map (sz S), .inl (by rw [nD, List.map_map]; rfl), fun y hy => ?_, Nat.lt_of_le_of_lt hz (by decide), fun fin => ?_⟩
  · obtain ⟨m, hm, rfl⟩ := List.mem_map.1 hy
    exact sz_pos hS (hbm m hm)
  and_intros
  rw [show prodN ((bagN S.length (gsOf ps) (wo s x) x).map (sz S)) = psz S (bagN S.length (gsOf ps) (wo s x) x) from rfl]
  refine ⟨⟨kvI l f, .inl ⟨a2, rfl⟩⟩, cI (wo s x), kvI l f, _, congrArg Sl.ext (kT_c (wo s x)).symm, .inl ⟨a2, rfl⟩, lu_map (fun t => D.int (f t : Nat)) hwx, ?_⟩
  and_intros
  have emx : (if ((f (wo s x) : Nat) : Int) > ((psz S (bagN S.length (gsOf ps) (wo s x) x) : Nat) : Int) then ((f (wo s x) : Nat) : Int) else ((psz S (bagN S.length (gsOf ps) (wo s x) x) : Nat) : Int)) = ((cnd S (gsOf ps) f s x : Nat) : Int) := by
    show _ = ((max (f (wo s x)) (psz S (bagN S.length (gsOf ps) (wo s x) x)) : Nat) : Int)
    split <;> omega
  rw [emx]
  have hc : cnd S (gsOf ps) f s x = cnd S (gsOf ps) f s x := rfl
  generalize cnd S (gsOf ps) f s x = c at hE ⊢
  have hll2 : (kvI l f).length < sizeLine := Nat.lt_of_le_of_lt (by rw [List.length_map]; exact hll) (by decide)
  refine ⟨⟨kvI l f, .inl ⟨a2, rfl⟩⟩, cI s, kvI l f, congrArg Sl.ext (kT_c s).symm, .inl ⟨a2, rfl⟩, ?_⟩
  by_cases hsl : s ∈ l
  · rw [lu_map (fun t => D.int (f t : Nat)) hsl, Option.getD_some]
    and_intros
    refine ⟨⟨a2, kvI l f, rfl⟩, a2, kvI l f, cI s, rfl, congrArg Sl.ext (kT_c s).symm, hll2, ?_⟩
    rw [show (if (c : Int) < ((f s : Nat) : Int) then (c : Int) else ((f s : Nat) : Int)) = ((min (f s) c : Nat) : Int) by split <;> omega, pt_in (fun t => D.int (f t : Nat)) hsl]
    have e : (l.map fun t => (cI t, if t = s then D.int ((min (f s) c : Nat) : Int) else D.int (f t : Nat))) = kvI l (fun t => if t = s then min (f s) c else f t) := by
      refine List.map_congr_left fun t _ => ?_
      show _ = (cI t, D.int (((if t = s then min (f s) c else f t) : Nat) : Int))
      by_cases h : t = s
      · rw [if_pos h, if_pos h]
      · rw [if_neg h, if_neg h]
    rw [e]
    refine hE l _ _ _ (fun _ => rfl) (fun h => absurd hsl h) (fun t ht => if_neg ht) (fun _ => if_pos rfl) fun h => absurd hsl h
  · rw [lu_not (fun t => D.int (f t : Nat)) hsl, Option.getD_none]
    and_intros
    refine ⟨⟨a2, kvI l f, rfl⟩, a2, kvI l f, cI s, rfl, congrArg Sl.ext (kT_c s).symm, hll2, ?_⟩
    rw [if_neg (by omega), pt_map (fun t => D.int (f t : Nat)) hsl]
    have e : (l.map fun t => (cI t, D.int (f t : Nat))) ++ [(cI s, D.int (c : Nat))] = kvI (l ++ [s]) (fun t => if t = s then c else f t) := by
      unfold kvI
      rw [List.map_append]
      congr 1
      · refine List.map_congr_left fun t ht => ?_
        have hts : ¬ t = s := fun z => hsl (z ▸ ht)
        show _ = (cI t, D.int (((if t = s then c else f t) : Nat) : Int))
        rw [if_neg hts]
      · show _ = [(cI s, D.int (((if s = s then c else f s) : Nat) : Int))]
        rw [if_pos rfl]
    rw [e]
    refine hE (l ++ [s]) _ _ _ (fun h => absurd h hsl) (fun _ => rfl) (fun t ht => if_neg ht) (fun h => absurd h hsl) fun _ => if_pos rfl
theorem b5_ll {u4 u5 u7 : Sl} (hS : SzOk S) (h24 : S.length ≤ 24) (hs : Rising s ∧ ∀ m ∈ s, m < S.length) (hk : ∀ t ∈ l, Best S (gsOf ps) t (f t)) (hw : ∀ x ∈ s, wo s x ∈ l) (hsn : s ≠ [] → s ∉ l) (hll : l.length ≤ 400)
    (hE : ∀ l' f' u4 u5 u7, (s = [] → l' = l) → (s ≠ [] → l' = l ++ [s]) → (∀ t ∈ l', Best S (gsOf ps) t (f' t)) → E.nx (leE S ps a2 l' f' (.ext (.tup [.int (s.length : Nat), .tup (nD s)])) u4 u5 u7)) :
    b5_law_least Ex E (leE S ps a2 l f (.ext (.tup [.int (s.length : Nat), .tup (nD s)])) u4 u5 u7) := by
  have nd : s.Nodup := hs.1.imp Nat.ne_of_lt
  have hwo : ∀ x ∈ s, wo s x ≠ s := fun x hx z => by
    have := wo_len hx
    rw [z] at this
    omega
  unfold b5_law_least leE
  and_intros
  refine for_ind (fun x : Nat => D.int (x : Nat)) (fun xs env => ∃ (l' : List (List Nat)) (f' : List Nat → Nat) (u4 u5 u7 : Sl) (pre : List Nat), env = leE S ps a2 l' f' (.ext (.tup [.int (s.length : Nat), .tup (nD s)])) u4 u5 u7 ∧ s = pre ++ xs ∧ (∀ t, t ≠ s → f' t = f t) ∧ (pre = [] → l' = l ∧ f' = f) ∧ (pre ≠ [] → l' = l ++ [s] ∧ (∃ x ∈ pre, f' s = cnd S (gsOf ps) f s x) ∧ ∀ x ∈ pre, f' s ≤ cnd S (gsOf ps) f s x)) ?_ ?_ s _ ⟨l, f, _, _, _, [], rfl, rfl, fun _ _ => rfl, fun _ => ⟨rfl, rfl⟩, fun h => absurd rfl h⟩
  · rintro env ⟨l', f', u4, u5, u7, pre, rfl, he, hf, h1, h2⟩
    rw [List.append_nil] at he
    subst he
    refine ⟨True.intro, ?_⟩
    refine hE l' f' _ _ _ (fun h => (h1 h).1) (fun h => (h2 h).1) fun t ht => ?_
    by_cases hsn' : s = []
    · rw [(h1 hsn').1] at ht
      rw [(h1 hsn').2]
      exact hk t ht
    · obtain ⟨e1, e2, e3⟩ := h2 hsn'
      rw [e1] at ht
      by_cases e : t = s
      · rw [e]
        exact Best.step S (gsOf ps) (f := f) nd hsn' (fun y hy => hk _ (hw y hy)) e2 e3
      · rw [hf t e]
        exact hk t ((List.mem_append.1 ht).resolve_right fun z => e (List.mem_singleton.1 z))
  · rintro x xs env N ⟨l', f', u4, u5, u7, pre, rfl, he, hf, h1, h2⟩ hN
    have hx : x ∈ s := by rw [he]; simp
    have hsn' : s ≠ [] := fun z => by rw [z] at hx; cases hx
    have hwx : wo s x ∈ l' := by
      by_cases hp : pre = []
      · rw [(h1 hp).1]; exact hw x hx
      · rw [(h2 hp).1]; exact List.mem_append_left _ (hw x hx)
    have hll' : l'.length ≤ 500 := by
      by_cases hp : pre = []
      · rw [(h1 hp).1]; omega
      · rw [(h2 hp).1, List.length_append, List.length_singleton]; omega
    have ec : ∀ y, y ∈ s → ∀ g : List Nat → Nat, (∀ t, t ≠ s → g t = f t) → cnd S (gsOf ps) g s y = cnd S (gsOf ps) f s y := fun y hy g hg => by
      show max (g (wo s y)) _ = max (f (wo s y)) _
      rw [hg _ (hwo y hy)]
    refine ⟨True.intro, ?_⟩
    refine b4_ll hS h24 hs hx hwx hll' fun l'' f'' u5 u7 a1 a2' a3 a4 a5 => ?_
    rw [ec x hx f' hf] at a4 a5
    refine hN _ ⟨l'', f'', _, _, _, pre ++ [x], rfl, by rw [List.append_assoc]; exact he, fun t ht => (a3 t ht).trans (hf t ht), fun z => absurd z (by simp), fun _ => ?_⟩
    by_cases hp : pre = []
    · have hnl : s ∉ l' := by rw [(h1 hp).1]; exact hsn hsn'
      subst hp
      refine ⟨by rw [a2' hnl, (h1 rfl).1], ⟨x, by simp, a5 hnl⟩, fun y hy => ?_⟩
      rw [List.nil_append] at hy
      rw [List.mem_singleton.1 hy, a5 hnl]
      exact Nat.le_refl _
    · obtain ⟨e1, ⟨y, hy, e2⟩, e3⟩ := h2 hp
      have hnl : s ∈ l' := by rw [e1]; simp
      refine ⟨by rw [a1 hnl, e1], ?_, fun z hz => ?_⟩
      · rw [a4 hnl]
        by_cases hle : f' s ≤ cnd S (gsOf ps) f s x
        · exact ⟨y, List.mem_append_left _ hy, by rw [Nat.min_eq_left hle, e2]⟩
        · exact ⟨x, by simp, by rw [Nat.min_eq_right (by omega)]⟩
      · rw [a4 hnl]
        rcases List.mem_append.1 hz with h | h
        · exact Nat.le_trans (Nat.min_le_left _ _) (e3 z h)
        · rw [List.mem_singleton.1 h]; exact Nat.min_le_right _ _
end
abbrev lsD (s : List Nat) : D := .tup [.int (s.length : Nat), .tup (nD s)]
theorem ls_q (s : List Nat) : lsD s = qD ((s.length : Int), cI s) := by
  rw [show cI s = s.map fun n : Nat => (n : Int) from rfl]
  show D.tup [.int (s.length : Nat), .tup (s.map fun n : Nat => D.int (n : Nat))] = D.tup [.int (s.length : Nat), .tup ((s.map fun n : Nat => (n : Int)).map D.int)]
  rw [List.map_map]
  rfl
theorem srt_ls (L : List (List Nat)) : SrtD (L.map lsD) := by
  refine ⟨?_, fun d hd => ?_, fun x hx y hy => ?_, fun d hd => ?_⟩
  · induction L with
    | nil => rfl
    | cons B L ih =>
      show ((D.noVals [.int (B.length : Nat), .tup (nD B)]) && D.noVals _) = true
      rw [ih, Bool.and_true]
      show (true && ((D.tup (nD B)).noVal && true)) = true
      rw [Bool.and_true, Bool.true_and]
      have := noVals_fD [B]
      have h : ((D.tup (nD B)).noVal && true) = true := this
      rwa [Bool.and_true] at h
  · obtain ⟨B, _, rfl⟩ := List.mem_map.1 hd
    exact ⟨_, _, rfl⟩
  · obtain ⟨d, hd, rfl⟩ := pys_mem' hx
    obtain ⟨B, _, rfl⟩ := List.mem_map.1 hd
    obtain ⟨e, he, rfl⟩ := pys_mem' hy
    obtain ⟨C, _, rfl⟩ := List.mem_map.1 he
    show (true && (W.alikeAll (D.pys (nD B)) (D.pys (nD C)) && true)) = true
    rw [pys_nD, pys_nD, HD.alike_ints]
    rfl
  · obtain ⟨B, _, rfl⟩ := List.mem_map.1 hd
    show (max 0 (max (PyData.depthAll (D.pys (nD B)) + 1) 0)) + 1 ≤ 50
    rw [pys_nD, depth_all]
    decide
theorem m_law_least : Meets t_law_least 1 7 sp_law_least := by
  rintro args Qd Xd ⟨S, ps, rfl, ok, hS, h8, hQ⟩
  show t_law_least _ _ [_, .un, .un, .un, .un, .un, .un, .un]
  unfold t_law_least
  and_intros
  refine ⟨S, ps, rfl, ok, fun a1 fin => ?_⟩
  and_intros
  have h24 := ok.few
  have htl : (tiDs S.length (gsOf ps)).length = S.length := by unfold tiDs; rw [List.length_map, List.length_range]
  refine ⟨by decide, [], rfl, fun a2 => ?_⟩
  rw [htl]
  refine ⟨S.length, rfl, h8, fun fin => ?_⟩
  and_intros
  have hsl : (setsN S.length).length ≤ 256 := by
    rw [sets_len]
    exact Nat.le_trans (Nat.pow_le_pow_right (by decide) h8) (by decide)
  refine lc_map (fun s : List Nat => D.tup (nD s)) lsD True.intro (setsN S.length) (hsz (by omega)) (fun s hs R hR => ?_) fun b => ?_
  · unfold e1_law_least
    and_intros
    rw [nD_len]
    exact ⟨by decide, hR⟩
  and_intros
  refine ⟨srt_ls _, fun ds' hp0 hso => ?_⟩
  obtain ⟨L, hp, rfl⟩ := perm_map_inv hp0
  have hs : L.Pairwise (fun a b : List Nat => a.length ≤ b.length) := (List.pairwise_map.1 hso).imp fun {a b} h => by
    rw [ls_q, ls_q] at h
    obtain ⟨bb, e⟩ := lt_qd ((b.length : Int), cI b) ((a.length : Int), cI a)
    rw [e] at h
    have h1 := (Bool.or_eq_false_iff.1 h).1
    have h2 := of_decide_eq_false h1
    have h2 : ¬ ((b.length : Int) < (a.length : Int)) := h2
    omega
  and_intros
  show forD (gSet 3) b5_law_least _ _ _ (L.map lsD) (leE S ps a2 [[]] (fun _ => 1) .un .un .un .un)
  have hLm : ∀ {s : List Nat}, s ∈ L ↔ Rising s ∧ ∀ m ∈ s, m < S.length := fun {s} => by rw [hp.mem_iff, mem_sets]
  have hLn : L.Nodup := hp.nodup_iff.2 (sets_nodup _)
  have hLl : L.length ≤ 256 := by rw [hp.length_eq]; exact hsl
  refine for_ind lsD (fun xs env => ∃ (l pre : List (List Nat)) (f : List Nat → Nat) (u3 u4 u5 u7 : Sl), env = leE S ps a2 l f u3 u4 u5 u7 ∧ L = pre ++ xs ∧ l.Nodup ∧ (∀ t, t ∈ l ↔ t = [] ∨ t ∈ pre) ∧ ∀ t ∈ l, Best S (gsOf ps) t (f t)) ?_ ?_ L _ ⟨[[]], [], fun _ => 1, _, _, _, _, rfl, rfl, List.pairwise_singleton _ _, fun t => by simp, fun t ht => by
    rw [List.mem_singleton.1 ht]
    exact best_nil S (gsOf ps)⟩
  · rintro env ⟨l, pre, f, u3, u4, u5, u7, rfl, he, hnd, hlm, hk⟩
    rw [List.append_nil] at he
    subst he
    have ht : List.range S.length ∈ l := (hlm _).2 (.inr (hLm.2 ⟨rising_range _, fun m hm => List.mem_range.1 hm⟩))
    refine ⟨True.intro, ?_⟩
    unfold k6_law_least leE
    and_intros
    rw [htl]
    refine ⟨⟨kvI l f, .inl ⟨a2, rfl⟩⟩, ⟨by omega, by omega⟩, cI (List.range S.length), kvI l f, _, by rw [kT_c, rgD_nat], .inl ⟨a2, rfl⟩, lu_map (fun t => D.int (f t : Nat)) ht, ?_⟩
    and_intros
    exact hQ _ _ (hk _ ht)
  · rintro s xs env N ⟨l, pre, f, u3, u4, u5, u7, rfl, he, hnd, hlm, hk⟩ hN
    have hsL : s ∈ L := by rw [he]; simp
    have hs' := hLm.1 hsL
    have hnp : s ∉ pre := fun z => by
      rw [he, List.nodup_append] at hLn
      exact hLn.2.2 s z s List.mem_cons_self rfl
    refine ⟨True.intro, ?_⟩
    refine b5_ll hS h24 hs' hk (fun x hx => (hlm _).2 ?_) (fun hne z => ((hlm s).1 z).elim hne hnp) ?_ fun l' f' u4 u5 u7 e1 e2 hk' => ?_
    · have hw := hLm.2 (wo_sets hs' x)
      rw [he] at hw
      rcases List.mem_append.1 hw with h | h
      · exact .inr h
      · exfalso
        have hlen := wo_len hx
        rw [he] at hs
        have h2 := (List.pairwise_append.1 hs).2.1
        rcases List.mem_cons.1 h with h | h
        · rw [h] at hlen; omega
        · have := (List.pairwise_cons.1 h2).1 _ h
          omega
    · have h3 : l.length ≤ (([] : List Nat) :: L).length := nd_subL hnd fun t ht => by
        rcases (hlm t).1 ht with e | e
        · rw [e]; exact List.mem_cons_self
        · exact List.mem_cons_of_mem _ (by rw [he]; exact List.mem_append_left _ e)
      rw [List.length_cons] at h3
      omega
    · by_cases hne : s = []
      · have e := e1 hne
        subst e
        exact hN _ ⟨l', pre ++ [s], f', _, _, _, _, rfl, by rw [List.append_assoc]; exact he, hnd, fun t => by
          rw [hlm, List.mem_append, List.mem_singleton, hne]
          constructor
          · rintro (h | h)
            · exact .inl h
            · exact .inr (.inl h)
          · rintro (h | h | h)
            · exact .inl h
            · exact .inr h
            · exact .inl h, hk'⟩
      · have hsl : s ∉ l := fun z => ((hlm s).1 z).elim hne hnp
        have e := e2 hne
        subst e
        refine hN _ ⟨l ++ [s], pre ++ [s], f', _, _, _, _, rfl, by rw [List.append_assoc]; exact he, ?_, fun t => by
          rw [List.mem_append, hlm, List.mem_append, List.mem_singleton, or_assoc], hk'⟩
        exact List.nodup_append.2 ⟨hnd, List.pairwise_singleton _ _, fun a ha b hb e => by
          rw [List.mem_singleton.1 hb] at e
          exact hsl (e ▸ ha)⟩
def sp_law_shown : DSpec := fun args Q _ => ∃ (S : List Nat) (ps : List Part) (v : Nat) (o : List Nat) (f : List Nat → Nat), args = [.ext (dSh S ps), .ext (.lst (flT S.length fun s => ((f s : Nat) : Int))), dI (v : Nat)] ∧ NsOk S ps ∧ SzOk S ∧ S.length ≤ 8 ∧ LrOk S (gsOf ps) v o f ∧ ∀ fin, Q (.ext (.bl true)) fin
def e1_law_shown : DT :=
    (dVar 6)
def e2_law_shown : DT :=
    (dVar 10)
def e3_law_shown : DT :=
    (dOp fIx (dOp fIx (dVar 0) (dC (.int 0))) (dVar 10))
def b4_law_shown : DTS :=
    (sSeq (sSetE 9 (dCB fTuple (dCons (dLc (dSeq (dVar 6)) (gSet 10) (dTest (dOp fNe (dVar 10) (dVar 8))) e2_law_shown [10]) dNil)))
    (sSeq (sSetE 11 (dCall sp_law_times (dCons (dLc (dSeq (dCall sp_law_bag (dCons (dVar 4) (dCons (dVar 9) (dCons (dVar 8) dNil))))) (gSet 10) dYes e3_law_shown [10]) dNil)))
    (sIf (dTest (dOp (fCmp fun i j => decide (j < i)) (dDGetT 5 (dVar 6)) (dCB fMax (dCons (dVar 11) (dCons (dDGetT 5 (dVar 9)) dNil))))) (sRet (dC (.bl false))) sNext)))
def b5_law_shown : DTS :=
    (sFor (dSeq (dVar 6)) (gSet 8) b4_law_shown)
def k6_law_shown : DTS :=
    (sRet (dOp fEq (dDGetT 5 (dTupRg (dRg1 (dVar 3)))) (dVar 2)))
def k7_law_shown : DTS :=
    (sSeq (sSealDT 5 (sFor (dKeysT (dVar 5)) (gSet 6) b5_law_shown))
    k6_law_shown)
def t_law_shown : DTS :=
    (sSeq (sSetE 3 (dCB fLen (dCons (dOp fIx (dVar 0) (dC (.int 0))) dNil)))
    (sSeq (sSetE 4 (dCall sp_law_tied (dCons (dVar 0) dNil)))
    (sSeq (sSet 5 (dDictP (dVar 1)))
    (sSeq (sIf (dOr (dTest (dOp fNe (dLc (dSeq (dVar 1)) (gTupD 2 (gsCons (gSet 6) (gsCons (gSet 7) gsNil))) dYes e1_law_shown [6, 7]) (dCB fSortE (dCons (dCall sp_law_sets (dCons (dVar 3) dNil)) dNil)))) (dTest (dOp (fCmp fun i j => decide (j < i)) (dDGetT 5 (dTup dNil)) (dC (.int 1))))) (sRet (dC (.bl false))) sNext)
    k7_law_shown))))
section
variable {Ex : DX} {E : DEnds} {S : List Nat} {ps : List Part} {f : List Nat → Nat} {v : Nat}
abbrev kvL (S : List Nat) (f : List Nat → Nat) : List (List Int × D) := kvI (setsL S.length) f
noncomputable abbrev shE (S : List Nat) (ps : List Part) (f : List Nat → Nat) (v : Nat) (u6 u7 u8 u9 u11 : Sl) : Env' := [.ext (dSh S ps), .ext (.lst (flT S.length fun s => ((f s : Nat) : Int))), dI (v : Nat), dI (S.length : Nat), .ext (tiD S.length (gsOf ps)), .ext (dtD (kvL S f)), u6, u7, u8, u9, .un, u11]
theorem b4_sh {s : List Nat} {x : Nat} {u7 u9 u11 : Sl} (hS : SzOk S) (h24 : S.length ≤ 24) (hs : s ∈ setsL S.length) (hx : x ∈ s) (hk : f s ≤ max (f (wo s x)) (psz S (bagN S.length (gsOf ps) (wo s x) x)))
    (hE : ∀ u9 u11, E.nx (shE S ps f v (.ext (.tup (nD s))) u7 (dI (x : Nat)) u9 u11)) :
    b4_law_shown Ex E (shE S ps f v (.ext (.tup (nD s))) u7 (dI (x : Nat)) u9 u11) := by
  have hs' := mem_setsL.1 hs
  have hsl := rising_len hs'.1 hs'.2
  have hxl := hs'.2 x hx
  unfold b4_law_shown shE
  and_intros
  refine lc_filter (fun m : Nat => D.int (m : Nat)) (fun m : Nat => D.int (m : Nat)) (fun m => decide (m ≠ x)) True.intro s (hsz (by omega)) (fun m hm R hR => ?_) fun a7 => ?_
  · and_intros
    by_cases e : m = x
    · rw [if_neg (by rw [e]; simp)]
      rw [if_neg (by simpa using e)] at hR
      exact hR
    · rw [if_pos (by rw [Bool.not_eq_true', beq_eq_false_iff_ne]; omega)]
      rw [if_pos (by simpa using e)] at hR
      unfold e2_law_shown
      and_intros
      exact hR
  and_intros
  rw [show ((s.filter fun m => decide (m ≠ x)).map fun m : Nat => D.int (m : Nat)) = nD (wo s x) from rfl]
  have hwx : wo s x ∈ setsL S.length := mem_setsL.2 (wo_sets hs' x)
  refine ⟨S.length, gsOf ps, wo s x, _, x, rfl, .inl rfl, h24, hxl, fun z => (mem_wo.1 z).2 rfl, fun fin => ?_⟩
  and_intros
  have hBl := rising_len (bag_rising S.length (gsOf ps) (wo s x) x) fun m hm => (mem_bag.1 hm).1
  refine lc_map (fun m : Nat => D.int (m : Nat)) (fun m => .int (sz S m : Nat)) True.intro _ (hsz (by omega)) (fun m hm R hR => ?_) fun b => ?_
  · unfold e3_law_shown
    and_intros
    exact ⟨_, atN (getD_at ((mem_bag.1 hm).1)), hR⟩
  and_intros
  have hz := psz_le_nd hS ((bag_rising S.length (gsOf ps) (wo s x) x).imp Nat.ne_of_lt) fun m hm => (mem_bag.1 hm).1
  refine ⟨(bagN S.length (gsOf ps) (wo s x) x).map (sz S), .inl (by rw [nD, List.map_map]; rfl), fun y hy => ?_, Nat.lt_of_le_of_lt hz (by decide), fun fin => ?_⟩
  · obtain ⟨m, hm, rfl⟩ := List.mem_map.1 hy
    exact sz_pos hS ((mem_bag.1 hm).1)
  and_intros
  have dtb : ∀ u11, dtAt [.ext (dSh S ps), .ext (.lst (flT S.length fun s => ((f s : Nat) : Int))), dI (v : Nat), dI (S.length : Nat), .ext (tiD S.length (gsOf ps)), .ext (dtD (kvL S f)), .ext (.tup (nD s)), u7, dI (x : Nat), .ext (.tup (nD (wo s x))), .un, u11] 5 (kvL S f) := fun _ => .inr rfl
  refine ⟨⟨_, dtb ..⟩, _, _, _, congrArg Sl.ext (kT_c s).symm, dtb .., lu_map (fun s => D.int (f s : Nat)) hs, ?_⟩
  refine ⟨⟨_, dtb ..⟩, _, _, _, congrArg Sl.ext (kT_c (wo s x)).symm, dtb .., lu_map (fun s => D.int (f s : Nat)) hwx, ?_⟩
  and_intros
  rw [show prodN ((bagN S.length (gsOf ps) (wo s x) x).map (sz S)) = psz S (bagN S.length (gsOf ps) (wo s x) x) from rfl]
  generalize psz S (bagN S.length (gsOf ps) (wo s x) x) = r at *
  rw [if_neg (by split <;> omega)]
  exact hE _ _
end
theorem m_law_shown : Meets t_law_shown 3 9 sp_law_shown := by
  rintro args Qd Xd ⟨S, ps, v, o, f, rfl, ok, hS, h8, hlr, hQ⟩
  have h24 := ok.few
  show t_law_shown _ _ [_, _, _, .un, .un, .un, .un, .un, .un, .un, .un, .un]
  unfold t_law_shown
  and_intros
  rw [nD_len]
  refine ⟨S, ps, rfl, ok, fun a1 fin => ?_⟩
  and_intros
  refine ⟨kvL S f, ?_, ?_, fun a5 => ?_⟩
  · show ((setsL S.length).map fun s => D.tup [.tup (nD s), .int (f s : Nat)]) = _
    rw [List.map_map]
    refine List.map_congr_left fun s _ => ?_
    show D.tup [.tup (nD s), .int (f s : Nat)] = D.tup [kT (cI s), .int (f s : Nat)]
    rw [kT_c]
  · rw [List.map_map]
    exact List.pairwise_map.2 ((setsL_nodup S.length).imp fun {a b} h e => h (cI_inj e))
  and_intros
  refine lc_map (fun s : List Nat => D.tup [.tup (nD s), .int (f s : Nat)]) (fun s => D.tup (nD s)) True.intro (setsL S.length) (hsz (by have := (flT_len (f := fun s => ((f s : Nat) : Int)) h8).1; rw [List.length_map] at this; omega)) (fun s hs R hR => ?_) fun b => ?_
  · and_intros
    unfold e1_law_shown
    and_intros
    exact hR
  and_intros
  refine ⟨S.length, rfl, h8, fun fin => ?_⟩
  and_intros
  refine ⟨srt_sets (List.Perm.refl _) (sets_cons _), fun ds2 hp2 hs2 => ?_⟩
  have e2 := sorted_sets (List.Perm.refl _) hp2 hs2
  subst e2
  rw [show List.map (fun s => D.tup (nD s)) (setsL S.length) = fD (setsL S.length) from rfl]
  refine ⟨cmp_fDL _, cmp_fDL _, ?_⟩
  rw [eqv_fDL, if_neg (by rw [decide_eq_true rfl]; decide)]
  have h0 : [] ∈ setsL S.length := mem_setsL.2 ⟨List.Pairwise.nil, fun m hm => nomatch hm⟩
  have hf0 : f [] = 1 := Best.uniq _ _ (hlr.best [] List.Pairwise.nil fun m hm => nomatch hm) (best_nil S (gsOf ps))
  refine ⟨⟨kvL S f, .inl ⟨a5, rfl⟩⟩, by decide, cI [], kvL S f, _, rfl, .inl ⟨a5, rfl⟩, lu_map (fun t => D.int (f t : Nat)) h0, ?_⟩
  and_intros
  rw [hf0, if_neg (by decide)]
  unfold k7_law_shown
  and_intros
  refine ⟨a5, kvL S f, rfl, ?_⟩
  have ek : ((kvL S f).map (·.1)).map kT = (setsL S.length).map fun s => D.tup (nD s) := by
    rw [List.map_map, List.map_map]
    exact List.map_congr_left fun s _ => kT_c s
  rw [ek]
  refine for_ind (fun s : List Nat => D.tup (nD s)) (fun xs env => ∃ (u6 u7 u8 u9 u11 : Sl), env = shE S ps f v u6 u7 u8 u9 u11 ∧ ∀ s ∈ xs, s ∈ setsL S.length) ?_ ?_ (setsL S.length) _ ⟨_, _, _, _, _, rfl, fun s h => h⟩
  · rintro env ⟨u6, u7, u8, u9, u11, rfl, _⟩
    have ht : List.range S.length ∈ setsL S.length := mem_setsL.2 ⟨rising_range _, fun m hm => List.mem_range.1 hm⟩
    refine ⟨True.intro, ?_⟩
    unfold k6_law_shown shE
    and_intros
    refine ⟨⟨kvL S f, .inr rfl⟩, ⟨by omega, by omega⟩, cI (List.range S.length), kvL S f, _, by rw [kT_c, rgD_nat], .inr rfl, lu_map (fun t => D.int (f t : Nat)) ht, ?_⟩
    and_intros
    rw [hlr.top, beq_self_eq_true]
    exact hQ _
  · rintro s xs env N ⟨u6, u7, u8, u9, u11, rfl, hxs⟩ hN
    have hs := hxs s List.mem_cons_self
    have hs' := mem_setsL.1 hs
    refine ⟨True.intro, ?_⟩
    unfold b5_law_shown shE
    and_intros
    refine for_ind (fun x : Nat => D.int (x : Nat)) (fun xs env => ∃ (u7 u8 u9 u11 : Sl), env = shE S ps f v (.ext (.tup (nD s))) u7 u8 u9 u11 ∧ ∀ x ∈ xs, x ∈ s) ?_ ?_ s _ ⟨_, _, _, _, rfl, fun x h => h⟩
    · rintro env ⟨u7, u8, u9, u11, rfl, _⟩
      exact ⟨True.intro, hN _ ⟨_, _, _, _, _, rfl, fun t ht => hxs t (List.mem_cons_of_mem _ ht)⟩⟩
    · rintro x ys env N2 ⟨u7, u8, u9, u11, rfl, hys⟩ hN2
      have hx := hys x List.mem_cons_self
      have hw := wo_sets hs' x
      refine ⟨True.intro, ?_⟩
      exact b4_sh hS h24 hs hx (Best.floor _ _ (hs'.1.imp Nat.ne_of_lt) hx (hlr.best s hs'.1 hs'.2) (hlr.best _ hw.1 hw.2)) fun u9 u11 => hN2 _ ⟨_, _, _, _, rfl, fun y hy => hys y (List.mem_cons_of_mem _ hy)⟩
def cs43 : List Str := ["TooMany"]
def FT43 : FTab := fun nm => if nm = "least_room" then some (1, sp_least_room) else if nm = "are_floors" then some (3, sp_are_floors) else none
def k1_law : DTS :=
    (sDrop (dClrR (dAsP 6 (dOp fIx (dVarG 6) (dC (.int 2))))))
def k2_law : DTS :=
    (sSeq (sIf (dOr (dNot (dTest (dCallD 6 1 sp_law_shown (dCons (dVar 3) (dCons (dOp fIx (dVarG 6) (dC (.int 2))) (dCons (dVar 4) dNil)))))) (dTest (dOp fNotB (dCall sp_are_floors (dCons (dVar 3) (dCons (dListR (dAsP 6 (dOp fIx (dVarG 6) (dC (.int 2))))) (dCons (dVar 4) dNil)))) (dC (.bl true))))) (sRet (dC (.bl false))) sNext)
    k1_law)
def k3_law : DTS :=
    (sSeq (sIf (dOr (dTest (dOp fNe (dCall sp_room_of (dCons (dVar 3) (dCons (dOp fIx (dVarG 6) (dC (.int 1))) dNil))) (dVar 4))) (dNot (dTest (dIsLR (dCons (dAsP 6 (dOp fIx (dVarG 6) (dC (.int 2)))) (dCons (dC (.val (.ty "list"))) dNil)))))) (sRet (dC (.bl false))) sNext)
    k2_law)
def k4_law : DTS :=
    (sSeq (sIf (dOr (dNot (dTest (dCB fIsi (dCons (dOp fIx (dVarG 6) (dC (.int 1))) (dCons (dC (.val (.ty "tuple"))) dNil))))) (dTest (dOp fNe (dCB fSortT (dCons (dOp fIx (dVarG 6) (dC (.int 1))) dNil)) (dLstRg (dRg1 (dCB fLen (dCons (dOp fIx (dVar 3) (dC (.int 0))) dNil))))))) (sRet (dC (.bl false))) sNext)
    k3_law)
def k5_law : DTS :=
    (sSeq (sIf (dOr (dNot (dTest (dCB fIsiT (dCons (dVarG 6) (dCons (dC (.val (.ty "tuple"))) dNil))))) (dOr (dTest (dOp fNe (dCB fLen (dCons (dVarG 6) dNil)) (dC (.int 3)))) (dOr (dTest (dCB fIsi (dCons (dOp fIx (dVarG 6) (dC (.int 0))) (dCons (dC (.val (.ty "bool"))) dNil)))) (dTest (dOp fNe (dOp fIx (dVarG 6) (dC (.int 0))) (dVar 4)))))) (sRet (dC (.bl false))) sNext)
    k4_law)
def b6_law : DTS :=
    (sSeq (sSet 6 (dCall sp_least_room (dCons (dVar 3) dNil)))
    k5_law)
def k7_law : DTS :=
    (sFor (dRange1 (dCons (dOp fAdd (dC (.int 1)) (dCB fInt (dCons (dOp (fCmp fun i j => decide (i < j)) (dCB fLen (dCons (dOp fIx (dVar 3) (dC (.int 0))) dNil)) (dC (.int 8))) dNil))) dNil)) (gSet 5) b6_law)
def k8_law : DTS :=
    (sSeq (sSetE 4 (dCall sp_law_least (dCons (dVar 3) dNil)))
    k7_law)
def b9_law : DTS :=
    (sSeq (sSetE 3 (dCallJ sp_law_web 1 (dCons (dOp fIx (dOp fIx (dLst (dCons (dLst (dCons (dC (.int 7)) (dCons (dC (.int 7)) (dCons (dC (.int 8)) dNil)))) (dCons (dLst (dCons (dC (.int 5)) (dCons (dC (.int 5)) (dCons (dC (.int 6)) dNil)))) dNil))) (dVar 2)) (dCallJ sp_law_dip 1 (dCons (dC (.int 3)) dNil))) dNil)))
    k8_law)
def k10_law : DTS :=
    (sRet (dOp fEq (dCall (sp_law_refused FT43 cs43) (dCons (dC (.glo "are_floors")) (dCons (dTup (dCons (dVar 8) (dCons (dC .non) (dCons (dC (.int 1)) dNil)))) dNil))) (dC (.str (Str.ofString "many")))))
def k11_law : DTS :=
    (sSeq (sIf (dTest (dOp fNe (dCall (sp_law_refused FT43 cs43) (dCons (dC (.glo "are_floors")) (dCons (dTup (dCons (dVar 8) (dCons (dLst dNil) (dCons (dC (.int 1)) dNil)))) dNil))) (dC (.str (Str.ofString "many"))))) (sRet (dC (.bl false))) sNext)
    k10_law)
def k12_law : DTS :=
    (sSeq (sIf (dTest (dOp fNe (dCall (sp_law_refused FT43 cs43) (dCons (dC (.glo "least_room")) (dCons (dTup (dCons (dVar 8) dNil)) dNil))) (dC (.str (Str.ofString "many"))))) (sRet (dC (.bl false))) sNext)
    k11_law)
def k13_law : DTS :=
    (sSeq (sSetE 8 (dTup (dCons (dSl (dOp fIx (dVar 8) (dC (.int 0))) dNoPart (dPart (dVar 7))) (dCons (dOp fIx (dVar 8) (dC (.int 1))) dNil))))
    k12_law)
def k14_law : DTS :=
    (sSeq (sSetE 8 (dTup (dCons (dOp fMulT (dTup (dCons (dC (.int 1)) (dCons (dC (.int 2)) dNil))) (dC (.int 6))) (dCons (dTup (dCons (dTup (dCons (dTup (dCons (dC (.int 0)) (dCons (dC (.int 1)) dNil))) (dCons (dTup (dCons (dC (.int 1)) (dCons (dC (.int 2)) dNil))) dNil))) dNil)) dNil))))
    k13_law)
def k15_law : DTS :=
    (sSeq (sSetE 7 (dOp fAdd (dC (.int 9)) (dCallJ sp_law_dip 1 (dCons (dC (.int 4)) dNil))))
    k14_law)
def k16_law : DTS :=
    (sSeq (sFor (dRange1 (dCons (dC (.int 2)) dNil)) (gSet 2) b9_law)
    k15_law)
def t_law : DTS :=
    (sSeq (sSet 1 (dCall sp_law_jar (dCons (dVar 0) dNil)))
    k16_law)
theorem roomN_ro {S : List Nat} {gs : List (List Nat)} {o : List Nat} (hS : ∀ s ∈ S, 0 < s) (ho : o.Perm (List.range S.length)) (h1 : 0 < S.length) : roomN S gs o = ro S gs o := by
  have e := ro_room (S := S) (gs := gs) o
  cases o with
  | nil =>
    have := ho.length_eq
    rw [List.length_range] at this
    exact absurd this (Nat.ne_of_lt h1)
  | cons x o =>
    have h0 : 1 ≤ roomN S gs (x :: o) := by
      have h2 := ro_room (S := S) (gs := gs) [x]
      have h3 : 0 < (bagsN S.length gs (x :: o)).length := by
        unfold bagsN
        simp
      obtain ⟨B, hB⟩ := List.exists_mem_of_length_pos h3
      obtain ⟨_, hlt⟩ := mem_bagsN hB
      refine Nat.le_trans ?_ (le_mxL _ (List.mem_map.2 ⟨B, hB, rfl⟩))
      exact prodN_pos fun y hy => by
        obtain ⟨m, hm, rfl⟩ := List.mem_map.1 hy
        exact hS _ (sz_mem (hlt m hm))
    omega
section
variable {Ex : DX} {E : DEnds} {S : List Nat} {ps : List Part} {s0 s1 u2 u5 u6 u7 u8 : Sl} {v : Nat}
abbrev lE (s0 s1 u2 : Sl) (S : List Nat) (ps : List Part) (v : Nat) (u5 u6 u7 u8 : Sl) : Env' := [s0, s1, u2, .ext (dSh S ps), dI (v : Nat), u5, u6, u7, u8]
theorem pl_o {o : List Nat} (h24 : S.length ≤ 24) (ho : o.Perm (List.range S.length)) : D.pl 4 (.tup (nD o)) = true ∧ ShortT (.tup (nD o)) ∧ o.Nodup ∧ (∀ m ∈ o, m < S.length) ∧ o.length = S.length := by
  have hol : o.length = S.length := by rw [ho.length_eq, List.length_range]
  have hlt : ∀ m ∈ o, m < S.length := fun m hm => List.mem_range.1 (ho.mem_iff.1 hm)
  refine ⟨(Dc.tup (k := 3) (n := o.length) (Dcs.nats fun m hm => by have := hlt m hm; omega)).pl, fun xs e => ?_, ho.nodup_iff.2 List.nodup_range, hlt, hol⟩
  rw [← D.tup.inj e, nD_len]
  omega
theorem room_o {o : List Nat} {Q : Sl → List Sl → Prop} {X : Str → List Sl → Prop} {tq : Tok Q} {tx : Tok X} (ok : NsOk S ps) (hS : SzOk S) (h1 : 0 < S.length) (ho : o.Perm (List.range S.length)) (h : ∀ fin, Q (dI (roomN S (gsOf ps) o : Nat)) fin) : CallS sp_room_of [.ext (dSh S ps), .ext (.tup (nD o))] Q X tq tx := by
  obtain ⟨hpl, hsh, hnd, hlt, hol⟩ := pl_o hS.few ho
  refine ⟨S, ps, _, 4, rfl, ok, hS, h1, hpl, hsh, fun o' eo _ _ _ fin => ?_, fun z => absurd ⟨o, rfl, hnd, hlt, hol⟩ z⟩
  rw [← nD_inj (D.tup.inj eo)]
  exact h fin
theorem deep0 (cs : Cells) (ds : List D) : ds.map (deepD cs 0) = ds := by
  induction ds with
  | nil => rfl
  | cons d ds ih =>
    rw [List.map_cons, ih]
    cases d <;> rfl
theorem deep1_tup (cs : Cells) (ds : List D) : deepD cs 1 (.tup ds) = .tup ds := by
  show D.tup (ds.map (deepD cs 0)) = _
  rw [deep0]
theorem deep1_ref (b : Addr) (ds : List D) : deepD [(b, OC.lst ds)] 1 (.val (.ref b)) = .lst ds := by
  have hc : HD.cellOf [(b, OC.lst ds)] b = some (OC.lst ds) := by
    unfold HD.cellOf
    simp
  unfold deepD
  rw [hc]
  show D.lst (ds.map (deepD _ 0)) = _
  rw [deep0]
theorem b6_ok (hW : WebOk S ps) (h8 : S.length ≤ 8) (hv : Best S (gsOf ps) (List.range S.length) v) (hE : ∀ u6, E.nx (lE s0 s1 u2 S ps v u5 u6 u7 u8)) :
    b6_law Ex E (lE s0 s1 u2 S ps v u5 u6 u7 u8) := by
  have hS := hW.sz
  have ok := hW.ns
  have h0 := hW.pos
  unfold b6_law lE
  and_intros
  refine ⟨S, ps, rfl, ok, hS, fun _ v' o f b fin hlr => ?_, fun h => by omega⟩
  have ev : v' = v := by
    rw [← hlr.top]
    exact Best.uniq _ _ (hlr.best _ (rising_range _) fun m hm => List.mem_range.1 hm) hv
  subst ev
  and_intros
  unfold k5_law
  and_intros
  refine ⟨true, by decide +kernel, ?_⟩
  rw [if_neg (by decide), if_neg (by decide)]
  refine ⟨rfl, rfl, ?_⟩
  rw [if_neg (by simp)]
  have hol := hlr.perm.length_eq
  rw [List.length_range] at hol
  unfold k4_law
  and_intros
  have nvo : (D.tup (nD o)).noVal = true := by
    have := noVals_fD [o]
    have h : ((D.tup (nD o)).noVal && true) = true := this
    rwa [Bool.and_true] at h
  refine ⟨nvo, rfl, ?_⟩
  rw [if_neg (by decide)]
  refine ⟨o.map fun n : Nat => (n : Int), by rw [nD, List.map_map]; rfl, fun ns' hp hso => ?_⟩
  have en : ns' = (List.range S.length).map fun n : Nat => (n : Int) := by
    refine sorted_one (r := fun a b : Int => a ≤ b) (fun a b h1 h2 => Int.le_antisymm h1 h2) (hp.trans (hlr.perm.map _)) hso ?_
    exact List.pairwise_map.2 ((rising_range S.length).imp fun h => Int.ofNat_le.2 (Nat.le_of_lt h))
  subst en
  rw [nD_len, rgD_nat, show ((List.range S.length).map fun n : Nat => (n : Int)).map D.int = nD (List.range S.length) by rw [List.map_map]; rfl]
  refine ⟨⟨by omega, by omega⟩, cmp_natsL _, cmp_natsL _, ?_⟩
  rw [show (D.lst (nD (List.range S.length))).eqv (D.lst (nD (List.range S.length))) = decide (List.range S.length = List.range S.length) from eqvAll_natsF _ _, if_neg (by rw [decide_eq_true rfl]; decide)]
  unfold k3_law
  and_intros
  have hroom : roomN S (gsOf ps) o = v' := by rw [roomN_ro hS.pos hlr.perm h0, hlr.room]
  refine room_o ok hS h0 hlr.perm fun fin => ?_
  and_intros
  rw [hroom, if_neg (by simp)]
  have hc : ∀ oc : OC, HD.cellOf [(b, oc)] b = some oc := fun oc => by
    unfold HD.cellOf
    simp
  rw [hc]
  and_intros
  refine ⟨true, by decide +kernel, ?_⟩
  rw [if_neg (by decide)]
  unfold k2_law
  and_intros
  rw [show deepD [(b, OC.lst (flT S.length fun s => ((f s : Nat) : Int)))] 1 (dSh S ps) = dSh S ps from deep1_tup _ _, deep1_ref, show deepD [(b, OC.lst (flT S.length fun s => ((f s : Nat) : Int)))] 1 (D.int (v' : Nat)) = D.int (v' : Nat) from rfl]
  refine ⟨S, ps, v', o, f, rfl, ok, hS, h8, hlr, fun fin => ⟨rfl, True.intro, ?_⟩⟩
  and_intros
  rw [if_neg (by decide), hc]
  and_intros
  intro a2
  have hfb : ∀ s ∈ setsL S.length, f s ≤ 4096 := fun s hs => best_le hS (hlr.best s (mem_setsL.1 hs).1 (mem_setsL.1 hs).2)
  have hf40 : ∀ s ∈ setsL S.length, (((f s : Nat) : Int)).natAbs < 10 ^ 60 := fun s hs => Nat.lt_of_le_of_lt (by have := hfb s hs; omega : _ ≤ 4096) (by decide +kernel)
  refine ⟨S, ps, _, 5, _, rfl, ok, hS, fl_pl h8 hf40, fl_few h8, fun _ bb fin hb => ?_, fun h => by omega⟩
  and_intros
  have hbt : bb = true := hb.2 ⟨fun s => ((f s : Nat) : Int), rfl, FlOk.of _ _ hlr.best hlr.top⟩
  subst hbt
  rw [if_neg (by decide)]
  unfold k1_law
  and_intros
  rw [hc]
  and_intros
  exact hE _
end
abbrev gS (r : Nat) : List Nat := [1, 2, 1, 2, 1, 2, 1, 2, 1, 2, 1, 2].take (9 + r)
abbrev gP : List Part := [⟨[0, 1], [1, 2]⟩]
theorem great_ok : ∀ r : Nat, r < 4 → NsOk (gS r) gP ∧ SzOk (gS r) ∧ 8 < (gS r).length
  | 0, _ => ⟨⟨by decide, by decide, fun p hp => by rw [List.mem_singleton.1 hp]; exact ⟨by unfold Rising; decide, by decide⟩⟩, ⟨by decide, by decide, by decide, by decide⟩, by decide⟩
  | 1, _ => ⟨⟨by decide, by decide, fun p hp => by rw [List.mem_singleton.1 hp]; exact ⟨by unfold Rising; decide, by decide⟩⟩, ⟨by decide, by decide, by decide, by decide⟩, by decide⟩
  | 2, _ => ⟨⟨by decide, by decide, fun p hp => by rw [List.mem_singleton.1 hp]; exact ⟨by unfold Rising; decide, by decide⟩⟩, ⟨by decide, by decide, by decide, by decide⟩, by decide⟩
  | 3, _ => ⟨⟨by decide, by decide, fun p hp => by rw [List.mem_singleton.1 hp]; exact ⟨by unfold Rising; decide, by decide⟩⟩, ⟨by decide, by decide, by decide, by decide⟩, by decide⟩
  | r + 4, h => by omega
theorem cut_take (l : List Nat) (k : Nat) : cutD (nD l) none (some (k : Int)) = nD (l.take k) := by
  unfold cutD
  rw [HT.sIx_none, HT.sIx_nat, List.drop_zero, Nat.sub_zero, show nD (l.take k) = (nD l).take k from List.map_take]
  by_cases hk : k ≤ (nD l).length
  · rw [Nat.min_eq_left hk]
  · rw [Nat.min_eq_right (by omega), List.take_of_length_le (Nat.le_refl _), List.take_of_length_le (by omega)]
theorem k13_ok {Ex : DX} {E : DEnds} {s0 s1 u2 u3 u4 u5 u6 : Sl} {r : Nat} (hr : r < 4) (hE : ∀ env, E.rt (.ext (.bl true)) env) :
    k13_law Ex E [s0, s1, u2, u3, u4, u5, u6, .ext (.int (9 + (r : Nat))), .ext (.tup [.tup (List.replicate (Int.toNat 6) [D.int 1, D.int 2]).flatten, .tup [.tup [.tup [.int 0, .int 1], .tup [.int 1, .int 2]]]])] := by
  obtain ⟨ok, hS, h8⟩ := great_ok r hr
  unfold k13_law
  and_intros
  rw [show (List.replicate (Int.toNat 6) [D.int 1, D.int 2]).flatten = nD [1, 2, 1, 2, 1, 2, 1, 2, 1, 2, 1, 2] from rfl, show (9 + ((r : Nat) : Int)) = ((9 + r : Nat) : Int) by omega]
  rw [cut_take]
  have eg : D.tup [D.tup (nD (gS r)), .tup [.tup [.tup [.int 0, .int 1], .tup [.int 1, .int 2]]]] = dSh (gS r) gP := rfl
  rw [show List.take (9 + r) [1, 2, 1, 2, 1, 2, 1, 2, 1, 2, 1, 2] = gS r from rfl, eg]
  generalize gS r = S at ok hS h8 ⊢
  generalize gP = ps at ok ⊢
  refine ⟨by decide, ?_⟩
  unfold k12_law
  and_intros
  refine ⟨by decide, _, 1, sp_least_room, [dSh S ps], rfl, rfl, Nat.one_pos, Nat.le_of_ble_eq_true rfl, .inl ⟨"TooMany", by decide, by decide, fun Q' X' h => ⟨S, ps, rfl, ok, hS, fun z => by omega, fun _ fin => h fin⟩, fun fin => ?_⟩⟩
  and_intros
  rw [if_neg (by decide +kernel)]
  unfold k11_law
  and_intros
  refine ⟨by decide, by decide, _, 3, sp_are_floors, [dSh S ps, D.lst [], D.int 1], rfl, rfl, Nat.le_of_ble_eq_true rfl, Nat.le_of_ble_eq_true rfl, .inl ⟨"TooMany", by decide, by decide, fun Q' X' h => ⟨S, ps, D.lst [], 3, 1, rfl, ok, hS, rfl, fun xs e => by rw [← D.lst.inj e]; exact Nat.zero_le _, fun z => by omega, fun _ fin => h fin⟩, fun fin => ?_⟩⟩
  and_intros
  rw [if_neg (by decide +kernel)]
  unfold k10_law
  and_intros
  refine ⟨by decide, _, 3, sp_are_floors, [dSh S ps, D.non, D.int 1], rfl, rfl, Nat.le_of_ble_eq_true rfl, Nat.le_of_ble_eq_true rfl, .inl ⟨"TooMany", by decide, by decide, fun Q' X' h => ⟨S, ps, D.non, 3, 1, rfl, ok, hS, rfl, fun xs e => (nomatch e), fun z => by omega, fun _ fin => h fin⟩, fun fin => ?_⟩⟩
  and_intros
  rw [show (xWord (Str.ofString "TooMany") == Str.ofString "many") = true by decide +kernel]
  exact hE _
theorem m_law : Meets t_law 1 8 (lawSpec 63) := by
  rintro args Qd Xd ⟨ns, rfl, hl, hQ⟩
  show t_law _ _ [_, .un, .un, .un, .un, .un, .un, .un, .un]
  unfold t_law
  and_intros
  refine ⟨ns, rfl, hl, fun a ds fin hj => ?_⟩
  trivial
  unfold k16_law
  and_intros
  refine ⟨⟨by decide, by decide⟩, ?_⟩
  rw [show rgD 0 2 = nD (List.range 2) from rgD_nat 2]
  refine for_ind (fun i : Nat => D.int (i : Nat)) (fun is env => ∃ (n : Nat) (ds : List D) (u2 u3 u4 u5 u6 : Sl), env = [.ext (.fz (ns.map D.int)), .lst a ds, u2, u3, u4, u5, u6, .un, .un] ∧ JarOk n ds ∧ n + is.length * 10000 ≤ 100000 ∧ ∀ i ∈ is, i < 2) ?_ ?_ (List.range 2) _ ⟨0, ds, _, _, _, _, _, rfl, hj, by decide, fun i hi => List.mem_range.1 hi⟩
  · rintro env ⟨n, ds, u2, u3, u4, u5, u6, rfl, hj, hn, _⟩
    refine ⟨True.intro, ?_⟩
    unfold k15_law
    and_intros
    refine ⟨n, a, ds, 4, rfl, hj, by rw [List.length_nil] at hn; omega, by decide, by decide, fun r ds1 fin r0 r1 hj1 => ?_⟩
    and_intros
    obtain ⟨r, rfl⟩ := Int.eq_ofNat_of_zero_le r0
    unfold k14_law
    and_intros
    refine ⟨by decide, by decide, by decide, by decide, by decide, by decide, by decide, by decide, by decide, ?_⟩
    exact k13_ok (by omega) fun fin => hQ _
  rintro i is env N ⟨n, ds, u2, u3, u4, u5, u6, rfl, hj, hn, his⟩ hN
  rw [List.length_cons] at hn
  have hi := his i List.mem_cons_self
  have his' : ∀ j ∈ is, j < 2 := fun j hj => his j (List.mem_cons_of_mem _ hj)
  refine ⟨True.intro, ?_⟩
  unfold b9_law
  and_intros
  obtain ⟨p, q, w, hrow, hp, hq, hw⟩ : ∃ p q w : Nat, atI [D.lst [D.int 7, D.int 7, D.int 8], D.lst [D.int 5, D.int 5, D.int 6]] ((i : Nat) : Int) = some (D.lst [D.int (p : Nat), D.int (q : Nat), D.int (w : Nat)]) ∧ (0 < p ∧ p ≤ 8) ∧ (0 < q ∧ q ≤ 8) ∧ (0 < w ∧ w ≤ 8) := by
    have h2 : i = 0 ∨ i = 1 := by omega
    rcases h2 with rfl | rfl
    · exact ⟨7, 7, 8, rfl, by decide, by decide, by decide⟩
    · exact ⟨5, 5, 6, rfl, by decide, by decide, by decide⟩
  refine ⟨by decide, by decide, by decide, _, hrow, ?_⟩
  and_intros
  refine ⟨n, a, ds, 3, rfl, hj, by omega, by decide, by decide, fun r ds1 fin r0 r1 hj1 => ?_⟩
  and_intros
  obtain ⟨y, ho, hom⟩ := atI_mem (xs := [D.int (p : Nat), D.int (q : Nat), D.int (w : Nat)]) r0 (by show r < 3; omega)
  obtain ⟨m, rfl, hm⟩ : ∃ m : Nat, y = D.int (m : Nat) ∧ (0 < m ∧ m ≤ 8) := (allMem (P := fun o => ∃ m : Nat, o = D.int (m : Nat) ∧ (0 < m ∧ m ≤ 8)) ⟨p, rfl, hp⟩ <| allMem ⟨q, rfl, hq⟩ <| allMem ⟨w, rfl, hw⟩ allNil) y hom
  refine ⟨_, ho, ?_⟩
  and_intros
  refine ⟨_, a, ds1, m, rfl, hj1, by omega, hm.1, by omega, fun S ps ds2 fin hW hSm hj2 => ?_⟩
  and_intros
  have ok := hW.ns
  have hS := hW.sz
  unfold k8_law
  and_intros
  refine ⟨S, ps, rfl, ok, hS, by omega, fun v fin hv => ?_⟩
  and_intros
  unfold k7_law
  and_intros
  rw [nD_len]
  obtain ⟨c, ec, hc⟩ : ∃ c : Nat, (1 + if ((S.length : Nat) : Int) < 8 then (1 : Int) else 0) = (c : Int) ∧ c ≤ 2 := by
    by_cases h : ((S.length : Nat) : Int) < 8
    · exact ⟨2, by rw [if_pos h]; rfl, by decide⟩
    · exact ⟨1, by rw [if_neg h]; rfl, by decide⟩
  rw [ec]
  refine ⟨⟨by omega, by omega⟩, ?_⟩
  rw [rgD_nat]
  refine for_ind (fun i : Nat => D.int (i : Nat)) (fun xs env => ∃ (u5 u6 : Sl), env = lE (.ext (.fz (ns.map D.int))) (.lst a ds2) (dI (i : Nat)) S ps v u5 u6 .un .un) ?_ ?_ (List.range c) _ ⟨_, _, rfl⟩
  · rintro env ⟨u5, u6, rfl⟩
    exact ⟨True.intro, hN _ ⟨n + 10000, ds2, _, _, _, _, _, rfl, hj2.up (by omega), by omega, his'⟩⟩
  · rintro j js env N2 ⟨u5, u6, rfl⟩ hN2
    refine ⟨True.intro, ?_⟩
    exact b6_ok hW (by omega) hv fun u6 => hN2 _ ⟨_, _, rfl⟩
end K43
end FL
end LS
namespace HD
open PySem L2
abbrev FnD (K : PySem.W.Frag) (x : Str) (st : Stmt) (f : Addr) (fd : FuncData) : Prop := FunD K x x (defArgs st) (defBody st) (defScope st) [] [] f fd
theorem Def.of {G : GG} {x : Str} {st : Stmt} {f : Addr} {fd : FuncData} {N ps : List Str} {k n m : Nat} {t : DTS} {sp : DSpec} (F : FnD G.K x st f fd) (hmg : G.mg x = some (.ref f)) (sc : FnScope N ps (defScope st)) (hb : DSs G N (fnS (defScope st)) k (defBody st) t) (hm : Meets t n m sp)
    (hn : ps.length = n) (hN : N.length = n + m) (len : ∀ ds Q X, sp ds Q X → ds.length = n) (bd : Binds G.K fd ps []) : Def G (k + 1) x n sp := by
  subst hn
  refine ⟨⟨f, fd, ps, fn_ok (He5.fun_of F) sc hb fun args Qd Xd h hl => ?_, hmg, F.kp, bd⟩, len⟩
  have e : N.length - args.length = m := by omega
  rw [e]
  exact hm args Qd Xd h
theorem Def.ok {G : GG} {k : Nat} {x : Str} {sp : DSpec} {fa : Addr} {st : Stmt} {fd : FuncData} {N : List Str} {m : Nat} {t : DTS} (F : FnD G.K x st fa fd) (sc : FnScope N ["script"] (defScope st)) (hb : DSs G N (fnS (defScope st)) k (defBody st) t) (hm : Meets t 1 m sp) (hN : N.length = 1 + m) :
    FnG G.P G.w G.K G.mg G.base (L2.CX G.P G.w) (k + 1) fa fd ["script"] (toSp G.K 1 sp) := by
  refine fn_ok (He5.fun_of F) sc hb fun args Qd Xd h hl => ?_
  have e : N.length - args.length = m := by
    have : args.length = 1 := hl
    omega
  rw [e]
  exact hm args Qd Xd h
theorem walkW {l : PySem.W.OpenLaw} {n k : Nat} {q : Program} {names : List Str} {XP : (Str → Option Value) → Heap → Prop} {YP : World → Heap → Prop} {d : DefRec} {CX : World → CXT} {x : Str}
    (hn : l.most = some n) (hz : n ≤ sizeLine) (hd0 : d.params.defaults = []) (room : Room k callerA)
    (F : ∀ (w : World) (mg : Str → Option Value) (f : Addr) (h : Heap), YP w h → h.Ns mainGlobals mg → mg d.name = some (.ref f) →
      ∃ (K : PySem.W.Frag) (fd : FuncData) (sp : Sp), K.In h ∧ (∀ (s : Shared) (v : Value), BindsTo s fd ⟨[v], []⟩ [(x, v)]) ∧
        (∀ (H : Hp) (a : Addr) (ns : List Int), ns.length ≤ n → SqL K H a (ns.map V.int) → sp [.ref a] H (fun v _ => v = .bl true) fun _ _ _ => False) ∧
        ∀ base : Heap, K.In base → base.Ns mainGlobals mg → FnG l.prog w K mg base (CX w) k f fd [x] sp)
    (no : ∀ (w : World) (H : Hp) (s : Shared) (e : Value) (s' : Shared), CX w [] H s (fun _ _ _ => False) e s' → False) :
    PySem.W.WalkO q names XP YP l.row.toRowW d [] (fun f vs => PySem.call f vs) := by
  refine Att.attach_call hn hd0 fun w s s1 mg mb f o pm cd doc a vs ns G Y h1 h2 h3 hm h4 h5 h6 h7 => ?_
  obtain ⟨K, fd, sp, hK, hb, hsp, hF⟩ := F w mg f _ Y G.T.g hm
  exact law_callG hK G.T.g G.T.b G.T.builtins G.T.nolimit h7 h4 h5 (Nat.le_trans h6 hz) room hF hb (fun H _ hS => hsp H a ns h6 hS) fun H e s' => no w H s1 e s'
end HD
namespace LS.FL.K43.K43.E
open PySem L2 HD PM
open K01 (t_product m_product sp_product)
open K02 (sp_law_whole_number)
open K01 (t_law_are_names m_law_are_names sp_law_are_names)
abbrev N_is_whole : List Str := ["thing"]
abbrev P_is_whole : List Str := ["thing"]
theorem sc_is_whole : FnScope N_is_whole P_is_whole (defScope s_is_whole) := ⟨rfl, rfl, rfl, by decide +kernel, rfl, by decide +kernel, by decide +kernel⟩
theorem d_is_whole {G : GG} (B : Blt G) : DSs G N_is_whole (fnS (defScope s_is_whole)) 0 (defBody s_is_whole) t_is_whole :=
    (dss_one (ds_ret (de_and (de_cb b_isi B.isinstance (da_cons (de_var 0) (da_cons (de_bltn (v := .ty "int") rfl B.int (by decide +kernel) rfl) da_nil))) (de_one (de_not (de_cb b_isi B.isinstance (da_cons (de_var 0) (da_cons (de_bltn (v := .ty "bool") rfl B.bool (by decide +kernel) rfl) da_nil))))))))
abbrev N_product : List Str := ["numbers", "found", "number"]
abbrev P_product : List Str := ["numbers"]
theorem sc_product : FnScope N_product P_product (defScope s_product) := ⟨rfl, rfl, rfl, by decide +kernel, rfl, by decide +kernel, by decide +kernel⟩
theorem d_product {G : GG} (B : Blt G) : DSs G N_product (fnS (defScope s_product)) 0 (defBody s_product) t_product :=
    (dss_cons (ds_setE 1 de_int)
    (dss_cons (ds_for (di_seq (de_var 0)) (dg_name 2) (dss_one (ds_setE 1 (de_mul (de_var 1) (de_var 2)))))
    (dss_one (ds_ret (de_var 1)))))
abbrev N_ties_of : List Str := ["sheet", "found", "name", "near", "part", "other"]
abbrev P_ties_of : List Str := ["sheet"]
theorem sc_ties_of : FnScope N_ties_of P_ties_of (defScope s_ties_of) := ⟨rfl, rfl, rfl, by decide +kernel, rfl, by decide +kernel, by decide +kernel⟩
theorem d_ties_of {G : GG} (B : Blt G) : DSs G N_ties_of (fnS (defScope s_ties_of)) 0 (defBody s_ties_of) t_ties_of :=
    (dss_cons (ds_set 1 (de_lst da_nil))
    (dss_cons (ds_for (di_range1 (da_cons (de_cb b_len B.len (da_cons (de_ix (de_var 0) de_int) da_nil)) da_nil) B.range) (dg_name 2) (dss_cons (ds_set 3 (de_lst da_nil))
    (dss_cons (ds_for (di_seq (de_ix (de_var 0) de_int)) (dg_name 4) (dss_one (ds_if (dt_cmp c_in (de_var 2) (de_ix (de_var 4) de_int)) (dss_one (ds_expr (de_extT 3 (de_ix (de_var 4) de_int)))) dss_nil)))
    (dss_one (ds_expr (de_append 1 (de_lc [(Str.ofString "other", 5)] (di_range1 (da_cons (de_cb b_len B.len (da_cons (de_ix (de_var 0) de_int) da_nil)) da_nil) B.range) (by decide +kernel) (dg_name 5) (dtl_one (DWe.te (dw_and (dt_cmp c_ne (de_var 5) (de_var 2)) (dw_and1 (dt_cmp c_in (de_var 5) (de_var 3)))))) (de_var 5))))))))
    (dss_one (ds_ret (de_var 1)))))
abbrev N_bag_by : List Str := ["ties", "taken", "name", "seen", "waiting", "here", "other", "one"]
abbrev P_bag_by : List Str := ["ties", "taken", "name"]
theorem sc_bag_by : FnScope N_bag_by P_bag_by (defScope s_bag_by) := ⟨rfl, rfl, rfl, by decide +kernel, rfl, by decide +kernel, by decide +kernel⟩
theorem d_bag_by {G : GG} (B : Blt G) : DSs G N_bag_by (fnS (defScope s_bag_by)) 0 (defBody s_bag_by) t_bag_by :=
    (dss_cons (ds_set 3 (de_done (de_var 2) de_bl))
    (dss_cons (ds_set 4 (de_lst (da_cons (de_var 2) da_nil)))
    (dss_cons (ds_while (dt_cmp c_ne (de_var 4) (de_lst da_nil)) (dss_cons (ds_setE 5 (de_pop 4))
    (dss_one (ds_for (di_seq (de_ix (de_var 0) (de_var 5))) (dg_name 6) (dss_one (ds_if (dt_dnotin 3 (de_var 6)) (dss_cons (ds_dput 3 (de_var 6) de_bl)
    (dss_one (ds_if (dt_cmp c_in (de_var 6) (de_var 1)) (dss_one (ds_expr (de_append 4 (de_var 6)))) dss_nil))) dss_nil))))))
    (dss_one (ds_sealD 3 (ds_ret (de_ct t_tuple B.tuple (da_cons (de_cb b_sorted B.sorted (da_cons (de_lc [(Str.ofString "one", 7)] (di_keys (de_var 3)) (by decide +kernel) (dg_name 7) (dtl_one (dt_cmp c_notin (de_var 7) (de_var 1))) (de_var 7)) da_nil)) da_nil))))))))
abbrev N_need_few : List Str := ["sheet"]
abbrev P_need_few : List Str := ["sheet"]
theorem sc_need_few : FnScope N_need_few P_need_few (defScope s_need_few) := ⟨rfl, rfl, rfl, by decide +kernel, rfl, by decide +kernel, by decide +kernel⟩
theorem d_need_few {G : GG} (B : Blt G) (x_TooMany : XOk G "TooMany") (k_MOST_SHOWN : ∃ t, G.mg "MOST_SHOWN" = some (.int 8 t)) : DSs G N_need_few (fnS (defScope s_need_few)) 0 (defBody s_need_few) t_need_few :=
    (dss_one (ds_if (dt_cmp c_gt (de_cb b_len B.len (da_cons (de_ix (de_var 0) de_int) da_nil)) (de_gint k_MOST_SHOWN)) (dss_one (ds_raise x_TooMany)) dss_nil))
abbrev N_all_sets : List Str := ["many", "found", "name", "some"]
abbrev P_all_sets : List Str := ["many"]
theorem sc_all_sets : FnScope N_all_sets P_all_sets (defScope s_all_sets) := ⟨rfl, rfl, rfl, by decide +kernel, rfl, by decide +kernel, by decide +kernel⟩
theorem d_all_sets {G : GG} (B : Blt G) : DSs G N_all_sets (fnS (defScope s_all_sets)) 0 (defBody s_all_sets) t_all_sets :=
    (dss_cons (ds_setE 1 (de_lst (da_cons (de_tup da_nil) da_nil)))
    (dss_cons (ds_for (di_range1 (da_cons (de_var 0) da_nil) B.range) (dg_name 2) (dss_one (ds_setE 1 (de_add (de_var 1) (de_lc [(Str.ofString "some", 3)] (di_seq (de_var 1)) (by decide +kernel) (dg_name 3) dtl_nil (de_add (de_var 3) (de_tup (da_cons (de_var 2) da_nil))))))))
    (dss_one (ds_ret (de_sortLen B.sorted B.len (da_cons (de_var 1) da_nil))))))
abbrev N_law_jar : List Str := ["script"]
abbrev P_law_jar : List Str := ["script"]
theorem sc_law_jar : FnScope N_law_jar P_law_jar (defScope s_law_jar) := ⟨rfl, rfl, rfl, by decide +kernel, rfl, by decide +kernel, by decide +kernel⟩
theorem d_law_jar {G : GG} (B : Blt G) : DSs G N_law_jar (fnS (defScope s_law_jar)) 0 (defBody s_law_jar) t_law_jar :=
    (dss_one (ds_ret (de_lst (da_cons (de_ct t_list B.list (da_cons (de_slice (de_var 0) do_none (do_some de_int)) da_nil)) (da_cons de_int (da_cons de_int da_nil))))))
abbrev N_law_prime : List Str := ["at", "some"]
abbrev P_law_prime : List Str := ["at"]
theorem sc_law_prime : FnScope N_law_prime P_law_prime (defScope s_law_prime) := ⟨rfl, rfl, rfl, by decide +kernel, rfl, by decide +kernel, by decide +kernel⟩
theorem d_law_prime {G : GG} (B : Blt G) : DSs G N_law_prime (fnS (defScope s_law_prime)) 0 (defBody s_law_prime) t_law_prime :=
    (dss_cons (ds_setE 1 (de_lst (da_cons de_int (da_cons de_int (da_cons de_int (da_cons de_int (da_cons de_int (da_cons de_int (da_cons de_int (da_cons de_int da_nil))))))))))
    (dss_one (ds_ret (de_ix (de_add (de_var 1) (de_lst (da_cons de_int (da_cons de_int (da_cons de_int da_nil))))) (de_mod (de_var 0) de_int)))))
abbrev N_law_times : List Str := ["numbers", "found", "number"]
abbrev P_law_times : List Str := ["numbers"]
theorem sc_law_times : FnScope N_law_times P_law_times (defScope s_law_times) := ⟨rfl, rfl, rfl, by decide +kernel, rfl, by decide +kernel, by decide +kernel⟩
theorem d_law_times {G : GG} (B : Blt G) : DSs G N_law_times (fnS (defScope s_law_times)) 0 (defBody s_law_times) t_law_times :=
    (dss_cons (ds_setE 1 de_int)
    (dss_cons (ds_for (di_seq (de_var 0)) (dg_name 2) (dss_one (ds_setE 1 (de_mul (de_var 1) (de_var 2)))))
    (dss_one (ds_ret (de_var 1)))))
abbrev N_law_tied : List Str := ["sheet", "found", "name", "near", "part", "other"]
abbrev P_law_tied : List Str := ["sheet"]
theorem sc_law_tied : FnScope N_law_tied P_law_tied (defScope s_law_tied) := ⟨rfl, rfl, rfl, by decide +kernel, rfl, by decide +kernel, by decide +kernel⟩
theorem d_law_tied {G : GG} (B : Blt G) : DSs G N_law_tied (fnS (defScope s_law_tied)) 0 (defBody s_law_tied) t_law_tied :=
    (dss_cons (ds_set 1 (de_lst da_nil))
    (dss_cons (ds_for (di_range1 (da_cons (de_cb b_len B.len (da_cons (de_ix (de_var 0) de_int) da_nil)) da_nil) B.range) (dg_name 2) (dss_cons (ds_set 3 (de_lst da_nil))
    (dss_cons (ds_for (di_seq (de_ix (de_var 0) de_int)) (dg_name 4) (dss_one (ds_if (dt_cmp c_in (de_var 2) (de_ix (de_var 4) de_int)) (dss_one (ds_expr (de_extT 3 (de_ix (de_var 4) de_int)))) dss_nil)))
    (dss_one (ds_expr (de_append 1 (de_lc [(Str.ofString "other", 5)] (di_range1 (da_cons (de_cb b_len B.len (da_cons (de_ix (de_var 0) de_int) da_nil)) da_nil) B.range) (by decide +kernel) (dg_name 5) (dtl_one (DWe.te (dw_and (dt_cmp c_ne (de_var 5) (de_var 2)) (dw_and1 (dt_cmp c_in (de_var 5) (de_var 3)))))) (de_var 5))))))))
    (dss_one (ds_ret (de_var 1)))))
abbrev N_law_bag : List Str := ["tied", "taken", "name", "found", "at", "other", "one"]
abbrev P_law_bag : List Str := ["tied", "taken", "name"]
theorem sc_law_bag : FnScope N_law_bag P_law_bag (defScope s_law_bag) := ⟨rfl, rfl, rfl, by decide +kernel, rfl, by decide +kernel, by decide +kernel⟩
theorem d_law_bag {G : GG} (B : Blt G) : DSs G N_law_bag (fnS (defScope s_law_bag)) 0 (defBody s_law_bag) t_law_bag :=
    (dss_cons (ds_setE 3 (de_lst (da_cons (de_var 2) da_nil)))
    (dss_cons (ds_setE 4 de_int)
    (dss_cons (ds_while (dt_cmp c_lt (de_var 4) (de_cb b_len B.len (da_cons (de_var 3) da_nil))) (dss_cons (ds_if (DWe.te (dw_or (dt_cmp c_eq (de_ix (de_var 3) (de_var 4)) (de_var 2)) (dw_or1 (dt_cmp c_in (de_ix (de_var 3) (de_var 4)) (de_var 1))))) (dss_one (ds_setE 3 (de_add (de_var 3) (de_lc [(Str.ofString "other", 5)] (di_seq (de_ix (de_var 0) (de_ix (de_var 3) (de_var 4)))) (by decide +kernel) (dg_name 5) (dtl_one (dt_cmp c_notin (de_var 5) (de_var 3))) (de_var 5))))) dss_nil)
    (dss_one (ds_setE 4 (de_add (de_var 4) de_int)))))
    (dss_one (ds_ret (de_ct t_tuple B.tuple (da_cons (de_cb b_sorted B.sorted (da_cons (de_lc [(Str.ofString "one", 6)] (di_seq (de_var 3)) (by decide +kernel) (dg_name 6) (dtl_one (DWe.te (dw_or (dt_cmp c_eq (de_var 6) (de_var 2)) (dw_or1 (dt_cmp c_notin (de_var 6) (de_var 1)))))) (de_var 6)) da_nil)) da_nil)))))))
abbrev N_law_class : List Str := ["caught", "kinds", "some"]
abbrev P_law_class : List Str := ["caught"]
theorem sc_law_class : FnScope N_law_class P_law_class (defScope s_law_class) := ⟨rfl, rfl, rfl, by decide +kernel, rfl, by decide +kernel, by decide +kernel⟩
theorem d_law_class {G : GG} (B : Blt G) {cs : List Str} (g_NoBack : G.mg "NoBack" = some (clsV G.K "NoBack")) (g_NoBag : G.mg "NoBag" = some (clsV G.K "NoBag")) (g_NoDeeds : G.mg "NoDeeds" = some (clsV G.K "NoDeeds")) (g_NoFilling : G.mg "NoFilling" = some (clsV G.K "NoFilling")) (g_NoName : G.mg "NoName" = some (clsV G.K "NoName")) (g_NoNumber : G.mg "NoNumber" = some (clsV G.K "NoNumber")) (g_NoOffers : G.mg "NoOffers" = some (clsV G.K "NoOffers")) (g_NoPart : G.mg "NoPart" = some (clsV G.K "NoPart")) (g_NoRow : G.mg "NoRow" = some (clsV G.K "NoRow")) (g_NoText : G.mg "NoText" = some (clsV G.K "NoText")) (g_NoTree : G.mg "NoTree" = some (clsV G.K "NoTree")) (g_NoWeights : G.mg "NoWeights" = some (clsV G.K "NoWeights")) (g_NoWorths : G.mg "NoWorths" = some (clsV G.K "NoWorths")) (g_TooMany : G.mg "TooMany" = some (clsV G.K "TooMany")) (b_ValueError : G.mg "ValueError" = none) (hXI : XIs G.K (xtab cs)) : DSs G N_law_class (fnS (defScope s_law_class)) 0 (defBody s_law_class) (t_law_class cs) :=
    (dss_cons (ds_setE 1 (de_lst (da_cons (de_isX hXI B.isinstance (da_cons (de_var 0) (da_cons (de_glo g_NoFilling) da_nil))) (da_cons (de_isX hXI B.isinstance (da_cons (de_var 0) (da_cons (de_glo g_NoName) da_nil))) (da_cons (de_isX hXI B.isinstance (da_cons (de_var 0) (da_cons (de_glo g_TooMany) da_nil))) da_nil)))))
    (dss_cons (ds_setE 1 (de_add (de_var 1) (de_lst (da_cons (de_isX hXI B.isinstance (da_cons (de_var 0) (da_cons (de_glo g_NoDeeds) da_nil))) (da_cons (de_isX hXI B.isinstance (da_cons (de_var 0) (da_cons (de_glo g_NoOffers) da_nil))) (da_cons (de_isX hXI B.isinstance (da_cons (de_var 0) (da_cons (de_glo g_NoTree) da_nil))) da_nil))))))
    (dss_cons (ds_setE 1 (de_add (de_var 1) (de_lst (da_cons (de_isX hXI B.isinstance (da_cons (de_var 0) (da_cons (de_glo g_NoBag) da_nil))) (da_cons (de_isX hXI B.isinstance (da_cons (de_var 0) (da_cons (de_glo g_NoPart) da_nil))) (da_cons (de_isX hXI B.isinstance (da_cons (de_var 0) (da_cons (de_glo g_NoWorths) da_nil))) da_nil))))))
    (dss_cons (ds_setE 1 (de_add (de_var 1) (de_lst (da_cons (de_isX hXI B.isinstance (da_cons (de_var 0) (da_cons (de_glo g_NoBack) da_nil))) (da_cons (de_isX hXI B.isinstance (da_cons (de_var 0) (da_cons (de_glo g_NoWeights) da_nil))) (da_cons (de_isX hXI B.isinstance (da_cons (de_var 0) (da_cons (de_glo g_NoNumber) da_nil))) da_nil))))))
    (dss_cons (ds_setE 1 (de_add (de_var 1) (de_lst (da_cons (de_isX hXI B.isinstance (da_cons (de_var 0) (da_cons (de_glo g_NoRow) da_nil))) (da_cons (de_isX hXI B.isinstance (da_cons (de_var 0) (da_cons (de_glo g_NoText) da_nil))) da_nil)))))
    (dss_cons (ds_if (DWe.te (dw_or (dt_cmp c_ne (de_count (de_var 1) de_bl) de_int) (dw_or1 (dt_not (dt_val (de_isX hXI B.isinstance (da_cons (de_var 0) (da_cons (de_bltn (v := .ty "ValueError") rfl b_ValueError (by decide +kernel) rfl) da_nil)))))))) (dss_one (ds_ret de_str)) dss_nil)
    (dss_cons (ds_setE 2 de_str)
    (dss_one (ds_ret (de_ix (de_split (de_var 2) de_str) (de_index (de_var 1) de_bl)))))))))))
abbrev N_law_sets : List Str := ["many", "found", "name", "some"]
abbrev P_law_sets : List Str := ["many"]
theorem sc_law_sets : FnScope N_law_sets P_law_sets (defScope s_law_sets) := ⟨rfl, rfl, rfl, by decide +kernel, rfl, by decide +kernel, by decide +kernel⟩
theorem d_law_sets {G : GG} (B : Blt G) : DSs G N_law_sets (fnS (defScope s_law_sets)) 0 (defBody s_law_sets) t_law_sets :=
    (dss_cons (ds_setE 1 (de_lst (da_cons (de_tup da_nil) da_nil)))
    (dss_cons (ds_for (di_range1 (da_cons (de_var 0) da_nil) B.range) (dg_name 2) (dss_one (ds_setE 1 (de_add (de_var 1) (de_lc [(Str.ofString "some", 3)] (di_seq (de_var 1)) (by decide +kernel) (dg_name 3) dtl_nil (de_add (de_var 3) (de_tup (da_cons (de_var 2) da_nil))))))))
    (dss_one (ds_ret (de_var 1)))))
abbrev N_are_names : List Str := ["many", "thing", "one", "k"]
abbrev P_are_names : List Str := ["many", "thing"]
theorem sc_are_names : FnScope N_are_names P_are_names (defScope s_are_names) := ⟨rfl, rfl, rfl, by decide +kernel, rfl, by decide +kernel, by decide +kernel⟩
theorem d_are_names {G : GG} (B : Blt G) (h_is_whole : Def G 1 "is_whole" 1 sp_is_whole) : DSs G N_are_names (fnS (defScope s_are_names)) 1 (defBody s_are_names) t_are_names :=
    (dss_cons (ds_if (DWe.te (dw_or (dt_not (dt_val (de_cb b_isi B.isinstance (da_cons (de_var 1) (da_cons (de_bltn (v := .ty "tuple") rfl B.tuple (by decide +kernel) rfl) da_nil))))) (dw_or1 (dt_not (dt_val (de_cb b_all B.all (da_cons (de_lc [(Str.ofString "one", 2)] (di_seq (de_var 1)) (by decide +kernel) (dg_name 2) dtl_nil (de_and (de_call h_is_whole (da_cons (de_var 2) da_nil)) (de_one (de_chain c_le c_lt de_int (de_var 2) (de_var 0))))) da_nil))))))) (dss_one (ds_ret de_bl)) dss_nil)
    (dss_one (ds_ret (de_cb b_all B.all (da_cons (de_lc [(Str.ofString "k", 3)] (di_range2 (da_cons de_int (da_cons (de_cb b_len B.len (da_cons (de_var 1) da_nil)) da_nil)) B.range) (by decide +kernel) (dg_name 3) dtl_nil (de_cmp c_lt (de_ix (de_var 1) (de_sub (de_var 3) de_int)) (de_ix (de_var 1) (de_var 3)))) da_nil)))))
abbrev N_is_order : List Str := ["many", "thing", "one"]
abbrev P_is_order : List Str := ["many", "thing"]
theorem sc_is_order : FnScope N_is_order P_is_order (defScope s_is_order) := ⟨rfl, rfl, rfl, by decide +kernel, rfl, by decide +kernel, by decide +kernel⟩
theorem d_is_order {G : GG} (B : Blt G) (h_is_whole : Def G 1 "is_whole" 1 sp_is_whole) : DSs G N_is_order (fnS (defScope s_is_order)) 1 (defBody s_is_order) t_is_order :=
    (dss_cons (ds_if (DWe.te (dw_or (dt_not (dt_val (de_cb b_isi B.isinstance (da_cons (de_var 1) (da_cons (de_bltn (v := .ty "tuple") rfl B.tuple (by decide +kernel) rfl) da_nil))))) (dw_or1 (dt_not (dt_val (de_cb b_all B.all (da_cons (de_lc [(Str.ofString "one", 2)] (di_seq (de_var 1)) (by decide +kernel) (dg_name 2) dtl_nil (de_and (de_call h_is_whole (da_cons (de_var 2) da_nil)) (de_one (de_chain c_le c_lt de_int (de_var 2) (de_var 0))))) da_nil))))))) (dss_one (ds_ret de_bl)) dss_nil)
    (dss_one (ds_ret (de_cmp c_eq (de_lenset (de_var 1) B.len B.set) (de_cb b_len B.len (da_cons (de_var 1) da_nil))))))
abbrev N_room_by : List Str := ["sheet", "bag", "name"]
abbrev P_room_by : List Str := ["sheet", "bag"]
theorem sc_room_by : FnScope N_room_by P_room_by (defScope s_room_by) := ⟨rfl, rfl, rfl, by decide +kernel, rfl, by decide +kernel, by decide +kernel⟩
theorem d_room_by {G : GG} (B : Blt G) (h_product : Def G 1 "product" 1 sp_product) : DSs G N_room_by (fnS (defScope s_room_by)) 1 (defBody s_room_by) t_room_by :=
    (dss_one (ds_ret (de_call h_product (da_cons (de_lc [(Str.ofString "name", 2)] (di_seq (de_var 1)) (by decide +kernel) (dg_name 2) dtl_nil (de_ix (de_ix (de_var 0) de_int) (de_var 2))) da_nil))))
abbrev N_law_dip : List Str := ["jar", "many", "at", "cell", "one", "two", "three", "found"]
abbrev P_law_dip : List Str := ["jar", "many"]
theorem sc_law_dip : FnScope N_law_dip P_law_dip (defScope s_law_dip) := ⟨rfl, rfl, rfl, by decide +kernel, rfl, by decide +kernel, by decide +kernel⟩
theorem d_law_dip {G : GG} (B : Blt G) (h_law_prime : Def G 1 "_law_prime" 1 sp_law_prime) : DSs G N_law_dip (fnS (defScope s_law_dip)) 1 (defBody s_law_dip) t_law_dip :=
    (dss_cons (ds_if (dt_cmp c_lt (de_ix (de_var 0) de_int) (de_var 1)) (dss_cons (ds_setE 2 (de_ix (de_var 0) de_int))
    (dss_cons (ds_setitem 0 de_int (de_add (de_var 2) de_int))
    (dss_cons (ds_setE 3 (de_add (de_mul de_int (de_var 2)) de_int))
    (dss_cons (ds_if (dt_cmp c_gt (de_cb b_len B.len (da_cons (de_ix (de_var 0) de_int) da_nil)) de_int) (dss_one (ds_setE 3 (de_ix (de_ix (de_var 0) de_int) (de_mod (de_var 2) (de_cb b_len B.len (da_cons (de_ix (de_var 0) de_int) da_nil)))))) dss_nil)
    (dss_cons (ds_setitem 0 de_int (de_var 3))
    (dss_one (ds_if (DWe.te (dw_or (dt_cmp c_lt (de_var 3) (de_pow de_int de_int)) (dw_or1 (dt_cmp c_ge (de_var 2) (de_cb b_len B.len (da_cons (de_ix (de_var 0) de_int) da_nil)))))) (dss_cons (ds_setE 4 (de_mod (de_pow (de_add (de_add (de_mul (de_mod (de_var 3) de_int) (de_add (de_var 2) de_int)) (de_mul de_int (de_var 2))) de_int) de_int) (de_call h_law_prime (da_cons (de_var 2) da_nil))))
    (dss_cons (ds_setE 5 (de_mod (de_pow (de_add (de_add (de_mul (de_var 4) (de_add (de_var 2) de_int)) (de_mod (de_var 3) de_int)) de_int) de_int) (de_call h_law_prime (da_cons (de_add (de_var 2) de_int) da_nil))))
    (dss_cons (ds_setE 6 (de_mod (de_add (de_mul (de_var 5) (de_var 5)) (de_var 4)) (de_call h_law_prime (da_cons (de_add (de_var 2) de_int) da_nil))))
    (dss_one (ds_setitem 0 de_int (de_add (de_mul (de_add (de_mul (de_var 6) de_int) (de_var 5)) de_int) (de_var 4))))))) dss_nil))))))) dss_nil)
    (dss_cons (ds_setE 7 (de_mod (de_ix (de_var 0) de_int) (de_var 1)))
    (dss_cons (ds_setitem 0 de_int (de_div (de_ix (de_var 0) de_int) (de_var 1)))
    (dss_one (ds_ret (de_var 7))))))
abbrev N_law_least : List Str := ["sheet", "tied", "known", "some", "name", "others", "one", "here"]
abbrev P_law_least : List Str := ["sheet"]
theorem sc_law_least : FnScope N_law_least P_law_least (defScope s_law_least) := ⟨rfl, rfl, rfl, by decide +kernel, rfl, by decide +kernel, by decide +kernel⟩
theorem d_law_least {G : GG} (B : Blt G) (h_law_bag : Def G 1 "_law_bag" 3 sp_law_bag) (h_law_sets : Def G 1 "_law_sets" 1 sp_law_sets) (h_law_tied : Def G 1 "_law_tied" 1 sp_law_tied) (h_law_times : Def G 1 "_law_times" 1 sp_law_times) : DSs G N_law_least (fnS (defScope s_law_least)) 1 (defBody s_law_least) t_law_least :=
    (dss_cons (ds_setE 1 (de_call h_law_tied (da_cons (de_var 0) da_nil)))
    (dss_cons (ds_set 2 (de_doneT (de_tup da_nil) de_int))
    (dss_cons (ds_for (di_seq (de_cb b_sortD B.sorted (da_cons (de_lc [(Str.ofString "some", 3)] (di_seq (de_call h_law_sets (da_cons (de_cb b_len B.len (da_cons (de_var 1) da_nil)) da_nil))) (by decide +kernel) (dg_name 3) dtl_nil (de_tup (da_cons (de_cb b_len B.len (da_cons (de_var 3) da_nil)) (da_cons (de_var 3) da_nil)))) da_nil))) (dg_name 3) (dss_one (ds_for (di_seq (de_ix (de_var 3) de_int)) (dg_name 4) (dss_cons (ds_setE 5 (de_ct t_tuple B.tuple (da_cons (de_lc [(Str.ofString "one", 6)] (di_seq (de_ix (de_var 3) de_int)) (by decide +kernel) (dg_name 6) (dtl_one (dt_cmp c_ne (de_var 6) (de_var 4))) (de_var 6)) da_nil)))
    (dss_cons (ds_setE 7 (de_call h_law_times (da_cons (de_lc [(Str.ofString "one", 6)] (di_seq (de_call h_law_bag (da_cons (de_var 1) (da_cons (de_var 5) (da_cons (de_var 4) da_nil))))) (by decide +kernel) (dg_name 6) dtl_nil (de_ix (de_ix (de_var 0) de_int) (de_var 6))) da_nil)))
    (dss_cons (ds_setE 7 (de_cb b_max B.max (da_cons (de_var 7) (da_cons (de_dgetT 2 (de_var 5)) da_nil))))
    (dss_one (ds_dputT 2 (de_ix (de_var 3) de_int) (de_cb b_min B.min (da_cons (de_get2T 2 (de_ix (de_var 3) de_int) (de_var 7)) (da_cons (de_var 7) da_nil)))))))))))
    (dss_one (ds_ret (de_dgetT 2 (de_tupRg (drg_1 (de_cb b_len B.len (da_cons (de_var 1) da_nil)) B.range) B.tuple)))))))
abbrev N_law_shown : List Str := ["sheet", "thing", "number", "many", "tied", "known", "some", "worth", "name", "others", "one", "here"]
abbrev P_law_shown : List Str := ["sheet", "thing", "number"]
theorem sc_law_shown : FnScope N_law_shown P_law_shown (defScope s_law_shown) := ⟨rfl, rfl, rfl, by decide +kernel, rfl, by decide +kernel, by decide +kernel⟩
theorem d_law_shown {G : GG} (B : Blt G) (h_law_bag : Def G 1 "_law_bag" 3 sp_law_bag) (h_law_sets : Def G 1 "_law_sets" 1 sp_law_sets) (h_law_tied : Def G 1 "_law_tied" 1 sp_law_tied) (h_law_times : Def G 1 "_law_times" 1 sp_law_times) : DSs G N_law_shown (fnS (defScope s_law_shown)) 1 (defBody s_law_shown) t_law_shown :=
    (dss_cons (ds_setE 3 (de_cb b_len B.len (da_cons (de_ix (de_var 0) de_int) da_nil)))
    (dss_cons (ds_setE 4 (de_call h_law_tied (da_cons (de_var 0) da_nil)))
    (dss_cons (ds_set 5 (de_dictP (de_var 1) B.dict))
    (dss_cons (ds_if (DWe.te (dw_or (dt_cmp c_ne (de_lc [(Str.ofString "some", 6), (Str.ofString "worth", 7)] (di_seq (de_var 1)) (by decide +kernel) (dg_tup (dgs_cons (dg_name 6) (dgs_cons (dg_name 7) dgs_nil))) dtl_nil (de_var 6)) (de_cb b_sortE B.sorted (da_cons (de_call h_law_sets (da_cons (de_var 3) da_nil)) da_nil))) (dw_or1 (dt_cmp c_gt (de_dgetT 5 (de_tup da_nil)) de_int)))) (dss_one (ds_ret de_bl)) dss_nil)
    (dss_cons (ds_sealDT 5 (ds_for (di_keysT (de_var 5)) (dg_name 6) (dss_one (ds_for (di_seq (de_var 6)) (dg_name 8) (dss_cons (ds_setE 9 (de_ct t_tuple B.tuple (da_cons (de_lc [(Str.ofString "one", 10)] (di_seq (de_var 6)) (by decide +kernel) (dg_name 10) (dtl_one (dt_cmp c_ne (de_var 10) (de_var 8))) (de_var 10)) da_nil)))
    (dss_cons (ds_setE 11 (de_call h_law_times (da_cons (de_lc [(Str.ofString "one", 10)] (di_seq (de_call h_law_bag (da_cons (de_var 4) (da_cons (de_var 9) (da_cons (de_var 8) da_nil))))) (by decide +kernel) (dg_name 10) dtl_nil (de_ix (de_ix (de_var 0) de_int) (de_var 10))) da_nil)))
    (dss_one (ds_if (dt_cmp c_gt (de_dgetT 5 (de_var 6)) (de_cb b_max B.max (da_cons (de_var 11) (da_cons (de_dgetT 5 (de_var 9)) da_nil)))) (dss_one (ds_ret de_bl)) dss_nil))))))))
    (dss_one (ds_ret (de_cmp c_eq (de_dgetT 5 (de_tupRg (drg_1 (de_var 3) B.range) B.tuple)) (de_var 2)))))))))
abbrev N_need_order : List Str := ["many", "order"]
abbrev P_need_order : List Str := ["many", "order"]
theorem sc_need_order : FnScope N_need_order P_need_order (defScope s_need_order) := ⟨rfl, rfl, rfl, by decide +kernel, rfl, by decide +kernel, by decide +kernel⟩
theorem d_need_order {G : GG} (B : Blt G) (h_is_order : Def G 2 "is_order" 2 sp_is_order) (x_NoName : XOk G "NoName") : DSs G N_need_order (fnS (defScope s_need_order)) 2 (defBody s_need_order) t_need_order :=
    (dss_one (ds_if (dt_not (dt_val (de_call h_is_order (da_cons (de_var 0) (da_cons (de_var 1) da_nil))))) (dss_one (ds_raise x_NoName)) dss_nil))
abbrev N_least_room : List Str := ["sheet", "ties", "known", "some", "choices", "name", "others", "one", "number", "order"]
abbrev P_least_room : List Str := ["sheet"]
theorem sc_least_room : FnScope N_least_room P_least_room (defScope s_least_room) := ⟨rfl, rfl, rfl, by decide +kernel, rfl, by decide +kernel, by decide +kernel⟩
theorem d_least_room {G : GG} (B : Blt G) (h_all_sets : Def G 1 "all_sets" 1 sp_all_sets) (h_bag_by : Def G 1 "bag_by" 3 sp_bag_by) (h_need_few : Def G 1 "need_few" 1 sp_need_few) (h_room_by : Def G 2 "room_by" 2 sp_room_by) (h_ties_of : Def G 1 "ties_of" 1 sp_ties_of) : DSs G N_least_room (fnS (defScope s_least_room)) 2 (defBody s_least_room) t_least_room :=
    (dss_cons (ds_expr (de_call h_need_few (da_cons (de_var 0) da_nil)))
    (dss_cons (ds_setE 1 (de_call h_ties_of (da_cons (de_var 0) da_nil)))
    (dss_cons (ds_set 2 (de_doneT (de_tup da_nil) (de_tup (da_cons de_int (da_cons (de_tup da_nil) da_nil)))))
    (dss_cons (ds_for (di_seq (de_call h_all_sets (da_cons (de_cb b_len B.len (da_cons (de_var 1) da_nil)) da_nil))) (dg_name 3) (dss_cons (ds_set 4 (de_lst da_nil))
    (dss_cons (ds_for (di_seq (de_var 3)) (dg_name 5) (dss_cons (ds_setE 6 (de_ct t_tuple B.tuple (da_cons (de_lc [(Str.ofString "one", 7)] (di_seq (de_var 3)) (by decide +kernel) (dg_name 7) (dtl_one (dt_cmp c_ne (de_var 7) (de_var 5))) (de_var 7)) da_nil)))
    (dss_cons (ds_asg (de_dgetT 2 (de_var 6)) (dg_tup (dgs_cons (dg_name 8) (dgs_cons (dg_name 9) dgs_nil))))
    (dss_one (ds_expr (de_append 4 (de_tup (da_cons (de_cb b_max B.max (da_cons (de_var 8) (da_cons (de_call h_room_by (da_cons (de_var 0) (da_cons (de_call h_bag_by (da_cons (de_var 1) (da_cons (de_var 6) (da_cons (de_var 5) da_nil)))) da_nil))) da_nil))) (da_cons (de_add (de_var 9) (de_tup (da_cons (de_var 5) da_nil))) da_nil)))))))))
    (dss_one (ds_if (dt_cmp c_ne (de_var 4) (de_lst da_nil)) (dss_one (ds_dputT 2 (de_var 3) (de_cb b_minQ B.min (da_cons (de_var 4) da_nil)))) dss_nil)))))
    (dss_cons (ds_asg (de_dgetT 2 (de_tupRg (drg_1 (de_cb b_len B.len (da_cons (de_var 1) da_nil)) B.range) B.tuple)) (dg_tup (dgs_cons (dg_name 8) (dgs_cons (dg_name 9) dgs_nil))))
    (dss_one (ds_sealDT 2 (ds_ret (de_tupM (da_cons (de_var 8) (da_cons (de_var 9) (da_cons (de_cb b_sortD B.sorted (da_cons (de_lc [(Str.ofString "some", 3)] (di_keysT (de_var 2)) (by decide +kernel) (dg_name 3) dtl_nil (de_tup (da_cons (de_var 3) (da_cons (de_ix (de_dgetT 2 (de_var 3)) de_int) da_nil)))) da_nil)) da_nil))))))))))))
abbrev N_holds : List Str := ["sheet", "ties", "known", "some", "name", "others", "one"]
abbrev P_holds : List Str := ["sheet", "ties", "known", "some"]
theorem sc_holds : FnScope N_holds P_holds (defScope s_holds) := ⟨rfl, rfl, rfl, by decide +kernel, rfl, by decide +kernel, by decide +kernel⟩
theorem d_holds {G : GG} (B : Blt G) (h_bag_by : Def G 1 "bag_by" 3 sp_bag_by) (h_room_by : Def G 2 "room_by" 2 sp_room_by) : DSs G N_holds (fnS (defScope s_holds)) 2 (defBody s_holds) t_holds :=
    (dss_cons (ds_if (dt_cmp c_eq (de_var 3) (de_tup da_nil)) (dss_one (ds_ret (de_cmp c_le (de_dgetT 2 (de_var 3)) de_int))) dss_nil)
    (dss_cons (ds_for (di_seq (de_var 3)) (dg_name 4) (dss_cons (ds_setE 5 (de_ct t_tuple B.tuple (da_cons (de_lc [(Str.ofString "one", 6)] (di_seq (de_var 3)) (by decide +kernel) (dg_name 6) (dtl_one (dt_cmp c_ne (de_var 6) (de_var 4))) (de_var 6)) da_nil)))
    (dss_one (ds_if (dt_cmp c_gt (de_dgetT 2 (de_var 3)) (de_cb b_max B.max (da_cons (de_dgetT 2 (de_var 5)) (da_cons (de_call h_room_by (da_cons (de_var 0) (da_cons (de_call h_bag_by (da_cons (de_var 1) (da_cons (de_var 5) (da_cons (de_var 4) da_nil)))) da_nil))) da_nil)))) (dss_one (ds_ret de_bl)) dss_nil))))
    (dss_one (ds_ret de_bl))))
abbrev N_is_floor : List Str := ["many", "thing"]
abbrev P_is_floor : List Str := ["many", "thing"]
theorem sc_is_floor : FnScope N_is_floor P_is_floor (defScope s_is_floor) := ⟨rfl, rfl, rfl, by decide +kernel, rfl, by decide +kernel, by decide +kernel⟩
theorem d_is_floor {G : GG} (B : Blt G) (h_are_names : Def G 2 "are_names" 2 sp_are_names) (h_is_whole : Def G 1 "is_whole" 1 sp_is_whole) : DSs G N_is_floor (fnS (defScope s_is_floor)) 2 (defBody s_is_floor) t_is_floor :=
    (dss_cons (ds_if (DWe.te (dw_or (dt_not (dt_val (de_cb b_isi B.isinstance (da_cons (de_var 1) (da_cons (de_bltn (v := .ty "tuple") rfl B.tuple (by decide +kernel) rfl) da_nil))))) (dw_or1 (dt_cmp c_ne (de_cb b_len B.len (da_cons (de_var 1) da_nil)) de_int)))) (dss_one (ds_ret de_bl)) dss_nil)
    (dss_one (ds_ret (de_and (de_call h_are_names (da_cons (de_var 0) (da_cons (de_ix (de_var 1) de_int) da_nil))) (de_one (de_call h_is_whole (da_cons (de_ix (de_var 1) de_int) da_nil)))))))
abbrev N_law_some : List Str := ["jar", "many", "most", "left", "found", "k"]
abbrev P_law_some : List Str := ["jar", "many", "most"]
theorem sc_law_some : FnScope N_law_some P_law_some (defScope s_law_some) := ⟨rfl, rfl, rfl, by decide +kernel, rfl, by decide +kernel, by decide +kernel⟩
theorem d_law_some {G : GG} (B : Blt G) (h_law_dip : Def G 2 "_law_dip" 2 sp_law_dip) : DSs G N_law_some (fnS (defScope s_law_some)) 2 (defBody s_law_some) t_law_some :=
    (dss_cons (ds_set 3 (de_listRg (drg_1 (de_var 1) B.range) B.list))
    (dss_cons (ds_set 4 (de_lst da_nil))
    (dss_cons (ds_for (di_range1 (da_cons (de_callJ 0 h_law_dip (da_cons (de_add (de_var 2) de_int) da_nil)) da_nil) B.range) (dg_name 5) (dss_one (ds_if (dt_cmp c_gt (de_cb b_len B.len (da_cons (de_var 3) da_nil)) de_int) (dss_one (ds_expr (de_append 4 (de_popAt 3 (de_callJ 0 h_law_dip (da_cons (de_cb b_len B.len (da_cons (de_var 3) da_nil)) da_nil)))))) dss_nil)))
    (dss_one (ds_ret (de_ct t_tuple B.tuple (da_cons (de_cb b_sorted B.sorted (da_cons (de_var 4) da_nil)) da_nil)))))))
abbrev N_need_all : List Str := ["many", "order"]
abbrev P_need_all : List Str := ["many", "order"]
theorem sc_need_all : FnScope N_need_all P_need_all (defScope s_need_all) := ⟨rfl, rfl, rfl, by decide +kernel, rfl, by decide +kernel, by decide +kernel⟩
theorem d_need_all {G : GG} (B : Blt G) (h_need_order : Def G 3 "need_order" 2 sp_need_order) (x_NoName : XOk G "NoName") : DSs G N_need_all (fnS (defScope s_need_all)) 3 (defBody s_need_all) t_need_all :=
    (dss_cons (ds_expr (de_call h_need_order (da_cons (de_var 0) (da_cons (de_var 1) da_nil))))
    (dss_one (ds_if (dt_cmp c_ne (de_cb b_len B.len (da_cons (de_var 1) da_nil)) (de_var 0)) (dss_one (ds_raise x_NoName)) dss_nil)))
abbrev N_bags_of : List Str := ["sheet", "order", "ties", "k"]
abbrev P_bags_of : List Str := ["sheet", "order"]
theorem sc_bags_of : FnScope N_bags_of P_bags_of (defScope s_bags_of) := ⟨rfl, rfl, rfl, by decide +kernel, rfl, by decide +kernel, by decide +kernel⟩
theorem d_bags_of {G : GG} (B : Blt G) (h_bag_by : Def G 1 "bag_by" 3 sp_bag_by) (h_need_order : Def G 3 "need_order" 2 sp_need_order) (h_ties_of : Def G 1 "ties_of" 1 sp_ties_of) : DSs G N_bags_of (fnS (defScope s_bags_of)) 3 (defBody s_bags_of) t_bags_of :=
    (dss_cons (ds_expr (de_call h_need_order (da_cons (de_cb b_len B.len (da_cons (de_ix (de_var 0) de_int) da_nil)) (da_cons (de_var 1) da_nil))))
    (dss_cons (ds_setE 2 (de_call h_ties_of (da_cons (de_var 0) da_nil)))
    (dss_one (ds_ret (de_lc [(Str.ofString "k", 3)] (di_range1 (da_cons (de_cb b_len B.len (da_cons (de_var 1) da_nil)) da_nil) B.range) (by decide +kernel) (dg_name 3) dtl_nil (de_call h_bag_by (da_cons (de_var 2) (da_cons (de_slice (de_var 1) do_none (do_some (de_var 3))) (da_cons (de_ix (de_var 1) (de_var 3)) da_nil)))))))))
abbrev N_are_floors : List Str := ["sheet", "thing", "number", "many", "one", "known", "ties", "some"]
abbrev P_are_floors : List Str := ["sheet", "thing", "number"]
theorem sc_are_floors : FnScope N_are_floors P_are_floors (defScope s_are_floors) := ⟨rfl, rfl, rfl, by decide +kernel, rfl, by decide +kernel, by decide +kernel⟩
theorem d_are_floors {G : GG} (B : Blt G) (h_all_sets : Def G 1 "all_sets" 1 sp_all_sets) (h_holds : Def G 3 "holds" 4 sp_holds) (h_is_floor : Def G 3 "is_floor" 2 sp_is_floor) (h_need_few : Def G 1 "need_few" 1 sp_need_few) (h_ties_of : Def G 1 "ties_of" 1 sp_ties_of) : DSs G N_are_floors (fnS (defScope s_are_floors)) 3 (defBody s_are_floors) t_are_floors :=
    (dss_cons (ds_expr (de_call h_need_few (da_cons (de_var 0) da_nil)))
    (dss_cons (ds_setE 3 (de_cb b_len B.len (da_cons (de_ix (de_var 0) de_int) da_nil)))
    (dss_cons (ds_if (DWe.te (dw_or (dt_not (dt_val (de_cb b_isi B.isinstance (da_cons (de_var 1) (da_cons (de_bltn (v := .ty "list") rfl B.list (by decide +kernel) rfl) da_nil))))) (dw_or1 (dt_not (dt_val (de_cb b_all B.all (da_cons (de_lc [(Str.ofString "one", 4)] (di_seq (de_var 1)) (by decide +kernel) (dg_name 4) dtl_nil (de_call h_is_floor (da_cons (de_var 3) (da_cons (de_var 4) da_nil)))) da_nil))))))) (dss_one (ds_ret de_bl)) dss_nil)
    (dss_cons (ds_if (dt_cmp c_ne (de_lc [(Str.ofString "one", 4)] (di_seq (de_var 1)) (by decide +kernel) (dg_name 4) dtl_nil (de_ix (de_var 4) de_int)) (de_cb b_sortE B.sorted (da_cons (de_call h_all_sets (da_cons (de_var 3) da_nil)) da_nil))) (dss_one (ds_ret de_bl)) dss_nil)
    (dss_cons (ds_set 5 (de_dictP (de_var 1) B.dict))
    (dss_cons (ds_setE 6 (de_call h_ties_of (da_cons (de_var 0) da_nil)))
    (dss_cons (ds_sealDT 5 (ds_if (dt_not (dt_val (de_cb b_all B.all (da_cons (de_lc [(Str.ofString "some", 7)] (di_keysT (de_var 5)) (by decide +kernel) (dg_name 7) dtl_nil (de_call h_holds (da_cons (de_var 0) (da_cons (de_var 6) (da_cons (de_var 5) (da_cons (de_var 7) da_nil)))))) da_nil)))) (dss_one (ds_ret de_bl)) dss_nil))
    (dss_one (ds_ret (de_cmp c_eq (de_dgetT 5 (de_tupRg (drg_1 (de_var 3) B.range) B.tuple)) (de_var 2)))))))))))
abbrev N_law_web : List Str := ["jar", "most", "many", "way", "sizes", "k", "size", "groups", "step", "parts", "names", "worths", "name", "part"]
abbrev P_law_web : List Str := ["jar", "most"]
theorem sc_law_web : FnScope N_law_web P_law_web (defScope s_law_web) := ⟨rfl, rfl, rfl, by decide +kernel, rfl, by decide +kernel, by decide +kernel⟩
theorem d_law_web {G : GG} (B : Blt G) (h_law_dip : Def G 2 "_law_dip" 2 sp_law_dip) (h_law_some : Def G 3 "_law_some" 3 sp_law_some) (h_law_times : Def G 1 "_law_times" 1 sp_law_times) : DSs G N_law_web (fnS (defScope s_law_web)) 3 (defBody s_law_web) t_law_web :=
    (dss_cons (ds_setE 2 (de_add de_int (de_callJ 0 h_law_dip (da_cons (de_var 1) da_nil))))
    (dss_cons (ds_setE 3 (de_callJ 0 h_law_dip (da_cons de_int da_nil)))
    (dss_cons (ds_setE 4 (de_tup da_nil))
    (dss_cons (ds_for (di_range1 (da_cons (de_var 2) da_nil) B.range) (dg_name 5) (dss_cons (ds_setE 6 (de_ix (de_lst (da_cons de_int (da_cons de_int (da_cons de_int (da_cons de_int (da_cons de_int da_nil)))))) (de_callJ 0 h_law_dip (da_cons de_int da_nil))))
    (dss_one (ds_setE 4 (de_add (de_var 4) (de_tup (da_cons (de_if (dt_cmp c_le (de_mul (de_call h_law_times (da_cons (de_var 4) da_nil)) (de_var 6)) de_int) (de_var 6) de_int) da_nil)))))))
    (dss_cons (ds_setLcE [(Str.ofString "k", 5)] 7 (di_range1 (da_cons (de_callJ 0 h_law_dip (da_cons (de_add (de_mul de_int (de_var 2)) de_int) da_nil)) da_nil) B.range) (by decide +kernel) (dg_name 5) dtl_nil (de_callJ 0 h_law_some (da_cons (de_var 2) (da_cons de_int da_nil))))
    (dss_cons (ds_if (DWe.te (dw_and (dt_cmp c_eq (de_var 3) de_int) (dw_and1 (dt_cmp c_gt (de_var 2) de_int)))) (dss_one (ds_setE 7 (de_add (de_lc [(Str.ofString "k", 5)] (di_range1 (da_cons (de_var 2) da_nil) B.range) (by decide +kernel) (dg_name 5) dtl_nil (de_ct t_tuple B.tuple (da_cons (de_cb b_sorted B.sorted (da_cons (de_lst (da_cons (de_var 5) (da_cons (de_mod (de_add (de_var 5) de_int) (de_var 2)) da_nil))) da_nil)) da_nil))) (de_slice (de_var 7) do_none (do_some de_int))))) dss_nil)
    (dss_cons (ds_if (dt_cmp c_eq (de_var 3) de_int) (dss_one (ds_setLcE [(Str.ofString "k", 5)] 7 (di_range1 (da_cons (de_sub (de_var 2) de_int) da_nil) B.range) (by decide +kernel) (dg_name 5) dtl_nil (de_tup (da_cons (de_var 5) (da_cons (de_add (de_var 5) de_int) da_nil))))) dss_nil)
    (dss_cons (ds_if (dt_cmp c_eq (de_var 3) de_int) (dss_one (ds_setE 7 (de_add (de_lst (da_cons (de_tupRg (drg_1 (de_cb b_min B.min (da_cons (de_var 2) (da_cons de_int da_nil))) B.range) B.tuple) da_nil)) (de_slice (de_var 7) do_none (do_some de_int))))) dss_nil)
    (dss_cons (ds_if (DWe.te (dw_and (dt_cmp c_eq (de_var 3) de_int) (dw_and1 (dt_cmp c_gt (de_var 2) de_int)))) (dss_cons (ds_setE 8 (de_add de_int (de_callJ 0 h_law_dip (da_cons (de_sub (de_var 2) de_int) da_nil))))
    (dss_one (ds_setE 7 (de_add (de_lc [(Str.ofString "k", 5)] (di_range1 (da_cons (de_var 2) da_nil) B.range) (by decide +kernel) (dg_name 5) dtl_nil (de_ct t_tuple B.tuple (da_cons (de_cb b_sorted B.sorted (da_cons (de_lst (da_cons (de_var 5) (da_cons (de_mod (de_add (de_var 5) (de_var 8)) (de_var 2)) da_nil))) da_nil)) da_nil))) (de_slice (de_var 7) do_none (do_some de_int)))))) dss_nil)
    (dss_cons (ds_set 9 (de_lst da_nil))
    (dss_cons (ds_for (di_seq (de_var 7)) (dg_name 10) (dss_cons (ds_setE 11 (de_mulT (de_tup (da_cons de_int da_nil)) (de_call h_law_times (da_cons (de_lc [(Str.ofString "name", 12)] (di_seq (de_var 10)) (by decide +kernel) (dg_name 12) dtl_nil (de_ix (de_var 4) (de_var 12))) da_nil))))
    (dss_one (ds_if (DWe.te (dw_and (dt_cmp c_lt (de_cb b_len B.len (da_cons (de_var 9) da_nil)) de_int) (dw_and1 (dt_cmp c_le (de_add (de_cb b_sum B.sum (da_cons (de_lc [(Str.ofString "part", 13)] (di_seq (de_var 9)) (by decide +kernel) (dg_name 13) dtl_nil (de_cb b_len B.len (da_cons (de_ix (de_var 13) de_int) da_nil))) da_nil)) (de_cb b_len B.len (da_cons (de_var 11) da_nil))) de_int)))) (dss_one (ds_expr (de_append 9 (de_tup (da_cons (de_var 10) (da_cons (de_var 11) da_nil)))))) dss_nil))))
    (dss_one (ds_ret (de_tup (da_cons (de_var 4) (da_cons (de_ct t_tuple B.tuple (da_cons (de_var 9) da_nil)) da_nil))))))))))))))))
abbrev N_room_of : List Str := ["sheet", "order", "bag"]
abbrev P_room_of : List Str := ["sheet", "order"]
theorem sc_room_of : FnScope N_room_of P_room_of (defScope s_room_of) := ⟨rfl, rfl, rfl, by decide +kernel, rfl, by decide +kernel, by decide +kernel⟩
theorem d_room_of {G : GG} (B : Blt G) (h_bags_of : Def G 4 "bags_of" 2 sp_bags_of) (h_need_all : Def G 4 "need_all" 2 sp_need_all) (h_room_by : Def G 2 "room_by" 2 sp_room_by) : DSs G N_room_of (fnS (defScope s_room_of)) 4 (defBody s_room_of) t_room_of :=
    (dss_cons (ds_expr (de_call h_need_all (da_cons (de_cb b_len B.len (da_cons (de_ix (de_var 0) de_int) da_nil)) (da_cons (de_var 1) da_nil))))
    (dss_one (ds_ret (de_cb b_max B.max (da_cons (de_lc [(Str.ofString "bag", 2)] (di_seq (de_call h_bags_of (da_cons (de_var 0) (da_cons (de_var 1) da_nil)))) (by decide +kernel) (dg_name 2) dtl_nil (de_call h_room_by (da_cons (de_var 0) (da_cons (de_var 2) da_nil)))) da_nil)))))
abbrev N_law_call : List Str := ["act", "some"]
abbrev P_law_call : List Str := ["act", "some"]
theorem sc_law_call : FnScope N_law_call P_law_call (defScope s_law_call) := ⟨rfl, rfl, rfl, by decide +kernel, rfl, by decide +kernel, by decide +kernel⟩
theorem d_law_call {G : GG} (B : Blt G) {FT : FTab} (hFT : Defs G 4 FT) : DSs G N_law_call (fnS (defScope s_law_call)) 4 (defBody s_law_call) (t_law_call FT) :=
    (dss_cons (ds_if (dt_cmp c_eq (de_cb b_len B.len (da_cons (de_var 1) da_nil)) de_int) (dss_one (ds_ret (de_callV 0 hFT (da_cons (de_ix (de_var 1) de_int) (da_cons (de_ix (de_var 1) de_int) da_nil))))) dss_nil)
    (dss_cons (ds_if (dt_cmp c_eq (de_cb b_len B.len (da_cons (de_var 1) da_nil)) de_int) (dss_one (ds_ret (de_callV 0 hFT (da_cons (de_ix (de_var 1) de_int) (da_cons (de_ix (de_var 1) de_int) (da_cons (de_ix (de_var 1) de_int) da_nil)))))) dss_nil)
    (dss_cons (ds_if (dt_cmp c_eq (de_cb b_len B.len (da_cons (de_var 1) da_nil)) de_int) (dss_one (ds_ret (de_callV 0 hFT (da_cons (de_ix (de_var 1) de_int) (da_cons (de_ix (de_var 1) de_int) (da_cons (de_ix (de_var 1) de_int) (da_cons (de_ix (de_var 1) de_int) da_nil))))))) dss_nil)
    (dss_one (ds_ret (de_callV 0 hFT (da_cons (de_ix (de_var 1) de_int) da_nil)))))))
abbrev N_law_refused : List Str := ["act", "some", "caught", "e"]
abbrev P_law_refused : List Str := ["act", "some"]
theorem sc_law_refused : FnScope N_law_refused P_law_refused (defScope s_law_refused) := ⟨rfl, rfl, rfl, by decide +kernel, rfl, by decide +kernel, by decide +kernel⟩
theorem d_law_refused {G : GG} (B : Blt G) {FT : FTab} {cs : List Str} (h_law_call : Def G 5 "_law_call" 2 (sp_law_call FT)) (h_law_class : Def G 1 "_law_class" 1 (sp_law_class cs)) (hXC : XCat G "SumError" cs) : DSs G N_law_refused (fnS (defScope s_law_refused)) 5 (defBody s_law_refused) (t_law_refused FT cs) :=
    (dss_cons (ds_setE 2 de_non)
    (dss_cons (ds_tryKeep 3 2 hXC (dss_one (ds_expr (de_call h_law_call (da_cons (de_var 0) (da_cons (de_var 1) da_nil))))))
    (dss_one (ds_ret (de_if (dt_cmp c_is (de_var 2) de_non) de_str (de_call h_law_class (da_cons (de_var 2) da_nil)))))))
abbrev N_law : List Str := ["script", "jar", "turn", "sheet", "due", "again", "told", "many", "great"]
abbrev P_law : List Str := ["script"]
theorem sc_law : FnScope N_law P_law (defScope s_law) := ⟨rfl, rfl, rfl, by decide +kernel, rfl, by decide +kernel, by decide +kernel⟩
theorem d_law {G : GG} (B : Blt G) (h_law_dip : Def G 2 "_law_dip" 2 sp_law_dip) (h_law_jar : Def G 1 "_law_jar" 1 sp_law_jar) (h_law_least : Def G 2 "_law_least" 1 sp_law_least) (h_law_refused : Def G 6 "_law_refused" 2 (sp_law_refused FT43 cs43)) (h_law_shown : Def G 2 "_law_shown" 3 sp_law_shown) (h_law_web : Def G 4 "_law_web" 2 sp_law_web) (h_are_floors : Def G 4 "are_floors" 3 sp_are_floors) (h_least_room : Def G 3 "least_room" 1 sp_least_room) (h_room_of : Def G 5 "room_of" 2 sp_room_of) (g_are_floors : G.mg "are_floors" = some (clsV G.K "are_floors")) (g_least_room : G.mg "least_room" = some (clsV G.K "least_room")) : DSs G N_law (fnS (defScope s_law)) 6 (defBody s_law) t_law :=
    (dss_cons (ds_set 1 (de_call h_law_jar (da_cons (de_var 0) da_nil)))
    (dss_cons (ds_for (di_range1 (da_cons de_int da_nil) B.range) (dg_name 2) (dss_cons (ds_setE 3 (de_callJ 1 h_law_web (da_cons (de_ix (de_ix (de_lst (da_cons (de_lst (da_cons de_int (da_cons de_int (da_cons de_int da_nil)))) (da_cons (de_lst (da_cons de_int (da_cons de_int (da_cons de_int da_nil)))) da_nil))) (de_var 2)) (de_callJ 1 h_law_dip (da_cons de_int da_nil))) da_nil)))
    (dss_cons (ds_setE 4 (de_call h_law_least (da_cons (de_var 3) da_nil)))
    (dss_one (ds_for (di_range1 (da_cons (de_add de_int (de_ct t_int B.int (da_cons (de_cmp c_lt (de_cb b_len B.len (da_cons (de_ix (de_var 3) de_int) da_nil)) de_int) da_nil))) da_nil) B.range) (dg_name 5) (dss_cons (ds_set 6 (de_call h_least_room (da_cons (de_var 3) da_nil)))
    (dss_cons (ds_if (DWe.te (dw_or (dt_not (dt_val (de_cb b_isiT B.isinstance (da_cons (de_varG 6) (da_cons (de_bltn (v := .ty "tuple") rfl B.tuple (by decide +kernel) rfl) da_nil))))) (dw_or (dt_cmp c_ne (de_cb b_len B.len (da_cons (de_varG 6) da_nil)) de_int) (dw_or (dt_val (de_cb b_isi B.isinstance (da_cons (de_ix (de_varG 6) de_int) (da_cons (de_bltn (v := .ty "bool") rfl B.bool (by decide +kernel) rfl) da_nil)))) (dw_or1 (dt_cmp c_ne (de_ix (de_varG 6) de_int) (de_var 4))))))) (dss_one (ds_ret de_bl)) dss_nil)
    (dss_cons (ds_if (DWe.te (dw_or (dt_not (dt_val (de_cb b_isi B.isinstance (da_cons (de_ix (de_varG 6) de_int) (da_cons (de_bltn (v := .ty "tuple") rfl B.tuple (by decide +kernel) rfl) da_nil))))) (dw_or1 (dt_cmp c_ne (de_cb b_sortT B.sorted (da_cons (de_ix (de_varG 6) de_int) da_nil)) (de_listRg (drg_1 (de_cb b_len B.len (da_cons (de_ix (de_var 3) de_int) da_nil)) B.range) B.list))))) (dss_one (ds_ret de_bl)) dss_nil)
    (dss_cons (ds_if (DWe.te (dw_or (dt_cmp c_ne (de_call h_room_of (da_cons (de_var 3) (da_cons (de_ix (de_varG 6) de_int) da_nil))) (de_var 4)) (dw_or1 (dt_not (dt_val (de_isLR B.isinstance (da_cons (de_asP 6 (de_ix (de_varG 6) de_int)) (da_cons (de_bltn (v := .ty "list") rfl B.list (by decide +kernel) rfl) da_nil)))))))) (dss_one (ds_ret de_bl)) dss_nil)
    (dss_cons (ds_if (DWe.te (dw_or (dt_not (dt_val (de_callD 6 1 h_law_shown (da_cons (de_var 3) (da_cons (de_ix (de_varG 6) de_int) (da_cons (de_var 4) da_nil)))))) (dw_or1 (dt_cmp c_isnotB (de_call h_are_floors (da_cons (de_var 3) (da_cons (de_listR (de_asP 6 (de_ix (de_varG 6) de_int)) B.list) (da_cons (de_var 4) da_nil)))) de_bl)))) (dss_one (ds_ret de_bl)) dss_nil)
    (dss_one (ds_expr (de_clrR (de_asP 6 (de_ix (de_varG 6) de_int)))))))))))))))
    (dss_cons (ds_setE 7 (de_add de_int (de_callJ 1 h_law_dip (da_cons de_int da_nil))))
    (dss_cons (ds_setE 8 (de_tup (da_cons (de_mulT (de_tup (da_cons de_int (da_cons de_int da_nil))) de_int) (da_cons (de_tup (da_cons (de_tup (da_cons (de_tup (da_cons de_int (da_cons de_int da_nil))) (da_cons (de_tup (da_cons de_int (da_cons de_int da_nil))) da_nil))) da_nil)) da_nil))))
    (dss_cons (ds_setE 8 (de_tup (da_cons (de_slice (de_ix (de_var 8) de_int) do_none (do_some (de_var 7))) (da_cons (de_ix (de_var 8) de_int) da_nil))))
    (dss_cons (ds_if (dt_cmp c_ne (de_call h_law_refused (da_cons (de_glo g_least_room) (da_cons (de_tup (da_cons (de_var 8) da_nil)) da_nil))) de_str) (dss_one (ds_ret de_bl)) dss_nil)
    (dss_cons (ds_if (dt_cmp c_ne (de_call h_law_refused (da_cons (de_glo g_are_floors) (da_cons (de_tup (da_cons (de_var 8) (da_cons (de_lst da_nil) (da_cons de_int da_nil)))) da_nil))) de_str) (dss_one (ds_ret de_bl)) dss_nil)
    (dss_one (ds_ret (de_cmp c_eq (de_call h_law_refused (da_cons (de_glo g_are_floors) (da_cons (de_tup (da_cons (de_var 8) (da_cons de_non (da_cons de_int da_nil)))) da_nil))) de_str))))))))))
theorem facts {w : World} {K : PySem.W.Frag} {h : Heap} {mg : Str → Option Value} {f : Addr} (X : K.In h) (N : h.Ns mainGlobals mg) (hf : mg ("law" : Str) = some (.ref f)) (c : He.SaysD fa fn K) (cx : ex K = true) :
    ∃ fd : FuncData, (∀ (s : Shared) (v : Value), BindsTo s fd ⟨[v], []⟩ [("script", v)]) ∧ ∀ base : Heap, K.In base → base.Ns mainGlobals mg → FnG PySem.Challenge.pw_sumorder_k43_least_rooms w K mg base (L2.CX PySem.Challenge.pw_sumorder_k43_least_rooms w) 7 f fd ["script"] (toSp K 1 (lawSpec 63)) := by
  obtain ⟨f_is_whole, F_is_whole⟩ := c.def_ 0 (d := y_is_whole) rfl
  have g_is_whole := He.glo_ok X N (c.fact 0 (f := .glo "is_whole") rfl)
  obtain ⟨f_product, F_product⟩ := c.def_ 1 (d := y_product) rfl
  have g_product := He.glo_ok X N (c.fact 1 (f := .glo "product") rfl)
  obtain ⟨f_ties_of, F_ties_of⟩ := c.def_ 2 (d := y_ties_of) rfl
  have g_ties_of := He.glo_ok X N (c.fact 2 (f := .glo "ties_of") rfl)
  obtain ⟨f_bag_by, F_bag_by⟩ := c.def_ 3 (d := y_bag_by) rfl
  have g_bag_by := He.glo_ok X N (c.fact 3 (f := .glo "bag_by") rfl)
  obtain ⟨f_need_few, F_need_few⟩ := c.def_ 4 (d := y_need_few) rfl
  have g_need_few := He.glo_ok X N (c.fact 4 (f := .glo "need_few") rfl)
  obtain ⟨f_all_sets, F_all_sets⟩ := c.def_ 5 (d := y_all_sets) rfl
  have g_all_sets := He.glo_ok X N (c.fact 5 (f := .glo "all_sets") rfl)
  obtain ⟨f_law_jar, F_law_jar⟩ := c.def_ 6 (d := y_law_jar) rfl
  have g_law_jar := He.glo_ok X N (c.fact 6 (f := .glo "_law_jar") rfl)
  obtain ⟨f_law_prime, F_law_prime⟩ := c.def_ 7 (d := y_law_prime) rfl
  have g_law_prime := He.glo_ok X N (c.fact 7 (f := .glo "_law_prime") rfl)
  obtain ⟨f_law_times, F_law_times⟩ := c.def_ 8 (d := y_law_times) rfl
  have g_law_times := He.glo_ok X N (c.fact 8 (f := .glo "_law_times") rfl)
  obtain ⟨f_law_tied, F_law_tied⟩ := c.def_ 9 (d := y_law_tied) rfl
  have g_law_tied := He.glo_ok X N (c.fact 9 (f := .glo "_law_tied") rfl)
  obtain ⟨f_law_bag, F_law_bag⟩ := c.def_ 10 (d := y_law_bag) rfl
  have g_law_bag := He.glo_ok X N (c.fact 10 (f := .glo "_law_bag") rfl)
  obtain ⟨f_law_class, F_law_class⟩ := c.def_ 11 (d := y_law_class) rfl
  have g_law_class := He.glo_ok X N (c.fact 11 (f := .glo "_law_class") rfl)
  obtain ⟨f_law_sets, F_law_sets⟩ := c.def_ 12 (d := y_law_sets) rfl
  have g_law_sets := He.glo_ok X N (c.fact 12 (f := .glo "_law_sets") rfl)
  obtain ⟨f_are_names, F_are_names⟩ := c.def_ 13 (d := y_are_names) rfl
  have g_are_names := He.glo_ok X N (c.fact 13 (f := .glo "are_names") rfl)
  obtain ⟨f_is_order, F_is_order⟩ := c.def_ 14 (d := y_is_order) rfl
  have g_is_order := He.glo_ok X N (c.fact 14 (f := .glo "is_order") rfl)
  obtain ⟨f_room_by, F_room_by⟩ := c.def_ 15 (d := y_room_by) rfl
  have g_room_by := He.glo_ok X N (c.fact 15 (f := .glo "room_by") rfl)
  obtain ⟨f_law_dip, F_law_dip⟩ := c.def_ 16 (d := y_law_dip) rfl
  have g_law_dip := He.glo_ok X N (c.fact 16 (f := .glo "_law_dip") rfl)
  obtain ⟨f_law_least, F_law_least⟩ := c.def_ 17 (d := y_law_least) rfl
  have g_law_least := He.glo_ok X N (c.fact 17 (f := .glo "_law_least") rfl)
  obtain ⟨f_law_shown, F_law_shown⟩ := c.def_ 18 (d := y_law_shown) rfl
  have g_law_shown := He.glo_ok X N (c.fact 18 (f := .glo "_law_shown") rfl)
  obtain ⟨f_need_order, F_need_order⟩ := c.def_ 19 (d := y_need_order) rfl
  have g_need_order := He.glo_ok X N (c.fact 19 (f := .glo "need_order") rfl)
  obtain ⟨f_least_room, F_least_room⟩ := c.def_ 20 (d := y_least_room) rfl
  have g_least_room := He.glo_ok X N (c.fact 20 (f := .glo "least_room") rfl)
  obtain ⟨f_holds, F_holds⟩ := c.def_ 21 (d := y_holds) rfl
  have g_holds := He.glo_ok X N (c.fact 21 (f := .glo "holds") rfl)
  obtain ⟨f_is_floor, F_is_floor⟩ := c.def_ 22 (d := y_is_floor) rfl
  have g_is_floor := He.glo_ok X N (c.fact 22 (f := .glo "is_floor") rfl)
  obtain ⟨f_law_some, F_law_some⟩ := c.def_ 23 (d := y_law_some) rfl
  have g_law_some := He.glo_ok X N (c.fact 23 (f := .glo "_law_some") rfl)
  obtain ⟨f_need_all, F_need_all⟩ := c.def_ 24 (d := y_need_all) rfl
  have g_need_all := He.glo_ok X N (c.fact 24 (f := .glo "need_all") rfl)
  obtain ⟨f_bags_of, F_bags_of⟩ := c.def_ 25 (d := y_bags_of) rfl
  have g_bags_of := He.glo_ok X N (c.fact 25 (f := .glo "bags_of") rfl)
  obtain ⟨f_are_floors, F_are_floors⟩ := c.def_ 26 (d := y_are_floors) rfl
  have g_are_floors := He.glo_ok X N (c.fact 26 (f := .glo "are_floors") rfl)
  obtain ⟨f_law_web, F_law_web⟩ := c.def_ 27 (d := y_law_web) rfl
  have g_law_web := He.glo_ok X N (c.fact 27 (f := .glo "_law_web") rfl)
  obtain ⟨f_room_of, F_room_of⟩ := c.def_ 28 (d := y_room_of) rfl
  have g_room_of := He.glo_ok X N (c.fact 28 (f := .glo "room_of") rfl)
  obtain ⟨f_law_call, F_law_call⟩ := c.def_ 29 (d := y_law_call) rfl
  have g_law_call := He.glo_ok X N (c.fact 29 (f := .glo "_law_call") rfl)
  obtain ⟨f_law_refused, F_law_refused⟩ := c.def_ 30 (d := y_law_refused) rfl
  have g_law_refused := He.glo_ok X N (c.fact 30 (f := .glo "_law_refused") rfl)
  obtain ⟨f_law, F_law⟩ := c.def_ 31 (d := y_law) rfl
  have e := hf.symm.trans (He.glo_ok X N (c.fact 31 (f := .glo "law") rfl))
  cases e
  have b := FunD.bindsA (ps := ["script"]) F_law fun _ _ _ _ _ _ us hl => match us, hl with | [_], _ => rfl
  refine ⟨f_law, fun s v => b s [v] rfl, fun base _ _ => ?_⟩
  let G : GG := ⟨PySem.Challenge.pw_sumorder_k43_least_rooms, w, K, mg, base⟩
  have B : Blt G := ⟨He.free_ok X N (c.fact 32 (f := .free "len") rfl), He.free_ok X N (c.fact 33 (f := .free "range") rfl), He.free_ok X N (c.fact 34 (f := .free "sorted") rfl), He.free_ok X N (c.fact 35 (f := .free "set") rfl), He.free_ok X N (c.fact 36 (f := .free "tuple") rfl), He.free_ok X N (c.fact 37 (f := .free "list") rfl), He.free_ok X N (c.fact 38 (f := .free "dict") rfl), He.free_ok X N (c.fact 39 (f := .free "zip") rfl), He.free_ok X N (c.fact 40 (f := .free "enumerate") rfl), He.free_ok X N (c.fact 41 (f := .free "all") rfl), He.free_ok X N (c.fact 42 (f := .free "any") rfl), He.free_ok X N (c.fact 43 (f := .free "sum") rfl), He.free_ok X N (c.fact 44 (f := .free "min") rfl), He.free_ok X N (c.fact 45 (f := .free "max") rfl), He.free_ok X N (c.fact 46 (f := .free "isinstance") rfl), He.free_ok X N (c.fact 47 (f := .free "str") rfl), He.free_ok X N (c.fact 48 (f := .free "int") rfl), He.free_ok X N (c.fact 49 (f := .free "repr") rfl), He.free_ok X N (c.fact 50 (f := .free "bool") rfl)⟩
  have x_NoName : XOk G "NoName" := ⟨He.glo_ok X N (c.fact 51 (f := .glo "NoName") rfl), c.fact 52 (f := .exc "NoName") rfl⟩
  have x_TooMany : XOk G "TooMany" := ⟨He.glo_ok X N (c.fact 53 (f := .glo "TooMany") rfl), c.fact 54 (f := .exc "TooMany") rfl⟩
  have g_NoBack : G.mg "NoBack" = some (clsV G.K "NoBack") := He.glo_ok X N (c.fact 55 (f := .glo "NoBack") rfl)
  have g_NoBag : G.mg "NoBag" = some (clsV G.K "NoBag") := He.glo_ok X N (c.fact 56 (f := .glo "NoBag") rfl)
  have g_NoDeeds : G.mg "NoDeeds" = some (clsV G.K "NoDeeds") := He.glo_ok X N (c.fact 57 (f := .glo "NoDeeds") rfl)
  have g_NoFilling : G.mg "NoFilling" = some (clsV G.K "NoFilling") := He.glo_ok X N (c.fact 58 (f := .glo "NoFilling") rfl)
  have g_NoName : G.mg "NoName" = some (clsV G.K "NoName") := He.glo_ok X N (c.fact 59 (f := .glo "NoName") rfl)
  have g_NoNumber : G.mg "NoNumber" = some (clsV G.K "NoNumber") := He.glo_ok X N (c.fact 60 (f := .glo "NoNumber") rfl)
  have g_NoOffers : G.mg "NoOffers" = some (clsV G.K "NoOffers") := He.glo_ok X N (c.fact 61 (f := .glo "NoOffers") rfl)
  have g_NoPart : G.mg "NoPart" = some (clsV G.K "NoPart") := He.glo_ok X N (c.fact 62 (f := .glo "NoPart") rfl)
  have g_NoRow : G.mg "NoRow" = some (clsV G.K "NoRow") := He.glo_ok X N (c.fact 63 (f := .glo "NoRow") rfl)
  have g_NoText : G.mg "NoText" = some (clsV G.K "NoText") := He.glo_ok X N (c.fact 64 (f := .glo "NoText") rfl)
  have g_NoTree : G.mg "NoTree" = some (clsV G.K "NoTree") := He.glo_ok X N (c.fact 65 (f := .glo "NoTree") rfl)
  have g_NoWeights : G.mg "NoWeights" = some (clsV G.K "NoWeights") := He.glo_ok X N (c.fact 66 (f := .glo "NoWeights") rfl)
  have g_NoWorths : G.mg "NoWorths" = some (clsV G.K "NoWorths") := He.glo_ok X N (c.fact 67 (f := .glo "NoWorths") rfl)
  have g_SumError : G.mg "SumError" = some (clsV G.K "SumError") := He.glo_ok X N (c.fact 68 (f := .glo "SumError") rfl)
  have g_TooMany : G.mg "TooMany" = some (clsV G.K "TooMany") := He.glo_ok X N (c.fact 69 (f := .glo "TooMany") rfl)
  have b_ValueError : G.mg "ValueError" = none := He.free_ok X N (c.fact 70 (f := .free "ValueError") rfl)
  have k_MOST_SHOWN := He.int_ok X N (c.fact 71 (f := .int "MOST_SHOWN" 8) rfl)
  have hXI : XIs G.K (xtab cs43) := xis_of cx
  have hXC : XCat G "SumError" cs43 := xcat_of cx g_SumError
  have h_is_whole : Def G 1 "is_whole" 1 sp_is_whole := Def.of (st := s_is_whole) (m := 0) F_is_whole g_is_whole sc_is_whole (d_is_whole B ) m_is_whole rfl rfl (fun ds Q X h => by repeat (first | (refine Or.elim h (fun h => ?_) (fun h => ?_)) | (obtain ⟨rfl, _⟩ := h; rfl) | (obtain ⟨rfl | rfl, _⟩ := h <;> rfl) | (obtain ⟨⟨_, _, rfl, _⟩, _⟩ := h; rfl) | (obtain ⟨_, h⟩ := h))) (FunD.bindsN (ps := P_is_whole) F_is_whole fun _ _ _ _ _ _ us hl => match us, hl with | [_], _ => rfl)
  have h_product : Def G 1 "product" 1 sp_product := Def.of (st := s_product) (m := 2) F_product g_product sc_product (d_product B ) m_product rfl rfl (fun ds Q X h => by repeat (first | (refine Or.elim h (fun h => ?_) (fun h => ?_)) | (obtain ⟨rfl, _⟩ := h; rfl) | (obtain ⟨rfl | rfl, _⟩ := h <;> rfl) | (obtain ⟨⟨_, _, rfl, _⟩, _⟩ := h; rfl) | (obtain ⟨_, h⟩ := h))) (FunD.bindsN (ps := P_product) F_product fun _ _ _ _ _ _ us hl => match us, hl with | [_], _ => rfl)
  have h_ties_of : Def G 1 "ties_of" 1 sp_ties_of := Def.of (st := s_ties_of) (m := 5) F_ties_of g_ties_of sc_ties_of (d_ties_of B ) m_ties_of rfl rfl (fun ds Q X h => by repeat (first | (refine Or.elim h (fun h => ?_) (fun h => ?_)) | (obtain ⟨rfl, _⟩ := h; rfl) | (obtain ⟨rfl | rfl, _⟩ := h <;> rfl) | (obtain ⟨⟨_, _, rfl, _⟩, _⟩ := h; rfl) | (obtain ⟨_, h⟩ := h))) (FunD.bindsN (ps := P_ties_of) F_ties_of fun _ _ _ _ _ _ us hl => match us, hl with | [_], _ => rfl)
  have h_bag_by : Def G 1 "bag_by" 3 sp_bag_by := Def.of (st := s_bag_by) (m := 5) F_bag_by g_bag_by sc_bag_by (d_bag_by B ) m_bag_by rfl rfl (fun ds Q X h => by repeat (first | (refine Or.elim h (fun h => ?_) (fun h => ?_)) | (obtain ⟨rfl, _⟩ := h; rfl) | (obtain ⟨rfl | rfl, _⟩ := h <;> rfl) | (obtain ⟨⟨_, _, rfl, _⟩, _⟩ := h; rfl) | (obtain ⟨_, h⟩ := h))) (FunD.bindsN (ps := P_bag_by) F_bag_by fun _ _ _ _ _ _ us hl => match us, hl with | [_, _, _], _ => rfl)
  have h_need_few : Def G 1 "need_few" 1 sp_need_few := Def.of (st := s_need_few) (m := 0) F_need_few g_need_few sc_need_few (d_need_few B x_TooMany k_MOST_SHOWN) m_need_few rfl rfl (fun ds Q X h => by repeat (first | (refine Or.elim h (fun h => ?_) (fun h => ?_)) | (obtain ⟨rfl, _⟩ := h; rfl) | (obtain ⟨rfl | rfl, _⟩ := h <;> rfl) | (obtain ⟨⟨_, _, rfl, _⟩, _⟩ := h; rfl) | (obtain ⟨_, h⟩ := h))) (FunD.bindsN (ps := P_need_few) F_need_few fun _ _ _ _ _ _ us hl => match us, hl with | [_], _ => rfl)
  have h_all_sets : Def G 1 "all_sets" 1 sp_all_sets := Def.of (st := s_all_sets) (m := 3) F_all_sets g_all_sets sc_all_sets (d_all_sets B ) m_all_sets rfl rfl (fun ds Q X h => by repeat (first | (refine Or.elim h (fun h => ?_) (fun h => ?_)) | (obtain ⟨rfl, _⟩ := h; rfl) | (obtain ⟨rfl | rfl, _⟩ := h <;> rfl) | (obtain ⟨⟨_, _, rfl, _⟩, _⟩ := h; rfl) | (obtain ⟨_, h⟩ := h))) (FunD.bindsN (ps := P_all_sets) F_all_sets fun _ _ _ _ _ _ us hl => match us, hl with | [_], _ => rfl)
  have h_law_jar : Def G 1 "_law_jar" 1 sp_law_jar := Def.of (st := s_law_jar) (m := 0) F_law_jar g_law_jar sc_law_jar (d_law_jar B ) m_law_jar rfl rfl (fun ds Q X h => by repeat (first | (refine Or.elim h (fun h => ?_) (fun h => ?_)) | (obtain ⟨rfl, _⟩ := h; rfl) | (obtain ⟨rfl | rfl, _⟩ := h <;> rfl) | (obtain ⟨⟨_, _, rfl, _⟩, _⟩ := h; rfl) | (obtain ⟨_, h⟩ := h))) (FunD.bindsN (ps := P_law_jar) F_law_jar fun _ _ _ _ _ _ us hl => match us, hl with | [_], _ => rfl)
  have h_law_prime : Def G 1 "_law_prime" 1 sp_law_prime := Def.of (st := s_law_prime) (m := 1) F_law_prime g_law_prime sc_law_prime (d_law_prime B ) m_law_prime rfl rfl (fun ds Q X h => by repeat (first | (refine Or.elim h (fun h => ?_) (fun h => ?_)) | (obtain ⟨rfl, _⟩ := h; rfl) | (obtain ⟨rfl | rfl, _⟩ := h <;> rfl) | (obtain ⟨⟨_, _, rfl, _⟩, _⟩ := h; rfl) | (obtain ⟨_, h⟩ := h))) (FunD.bindsN (ps := P_law_prime) F_law_prime fun _ _ _ _ _ _ us hl => match us, hl with | [_], _ => rfl)
  have h_law_times : Def G 1 "_law_times" 1 sp_law_times := Def.of (st := s_law_times) (m := 2) F_law_times g_law_times sc_law_times (d_law_times B ) m_law_times rfl rfl (fun ds Q X h => by repeat (first | (refine Or.elim h (fun h => ?_) (fun h => ?_)) | (obtain ⟨rfl, _⟩ := h; rfl) | (obtain ⟨rfl | rfl, _⟩ := h <;> rfl) | (obtain ⟨⟨_, _, rfl, _⟩, _⟩ := h; rfl) | (obtain ⟨_, h⟩ := h))) (FunD.bindsN (ps := P_law_times) F_law_times fun _ _ _ _ _ _ us hl => match us, hl with | [_], _ => rfl)
  have h_law_tied : Def G 1 "_law_tied" 1 sp_law_tied := Def.of (st := s_law_tied) (m := 5) F_law_tied g_law_tied sc_law_tied (d_law_tied B ) m_law_tied rfl rfl (fun ds Q X h => by repeat (first | (refine Or.elim h (fun h => ?_) (fun h => ?_)) | (obtain ⟨rfl, _⟩ := h; rfl) | (obtain ⟨rfl | rfl, _⟩ := h <;> rfl) | (obtain ⟨⟨_, _, rfl, _⟩, _⟩ := h; rfl) | (obtain ⟨_, h⟩ := h))) (FunD.bindsN (ps := P_law_tied) F_law_tied fun _ _ _ _ _ _ us hl => match us, hl with | [_], _ => rfl)
  have h_law_bag : Def G 1 "_law_bag" 3 sp_law_bag := Def.of (st := s_law_bag) (m := 4) F_law_bag g_law_bag sc_law_bag (d_law_bag B ) m_law_bag rfl rfl (fun ds Q X h => by repeat (first | (refine Or.elim h (fun h => ?_) (fun h => ?_)) | (obtain ⟨rfl, _⟩ := h; rfl) | (obtain ⟨rfl | rfl, _⟩ := h <;> rfl) | (obtain ⟨⟨_, _, rfl, _⟩, _⟩ := h; rfl) | (obtain ⟨_, h⟩ := h))) (FunD.bindsN (ps := P_law_bag) F_law_bag fun _ _ _ _ _ _ us hl => match us, hl with | [_, _, _], _ => rfl)
  have h_law_class : Def G 1 "_law_class" 1 (sp_law_class cs43) := Def.of (st := s_law_class) (m := 2) F_law_class g_law_class sc_law_class (d_law_class B g_NoBack g_NoBag g_NoDeeds g_NoFilling g_NoName g_NoNumber g_NoOffers g_NoPart g_NoRow g_NoText g_NoTree g_NoWeights g_NoWorths g_TooMany b_ValueError hXI) (m_law_class cs43) rfl rfl (fun ds Q X h => by repeat (first | (refine Or.elim h (fun h => ?_) (fun h => ?_)) | (obtain ⟨rfl, _⟩ := h; rfl) | (obtain ⟨rfl | rfl, _⟩ := h <;> rfl) | (obtain ⟨⟨_, _, rfl, _⟩, _⟩ := h; rfl) | (obtain ⟨_, h⟩ := h))) (FunD.bindsN (ps := P_law_class) F_law_class fun _ _ _ _ _ _ us hl => match us, hl with | [_], _ => rfl)
  have h_law_sets : Def G 1 "_law_sets" 1 sp_law_sets := Def.of (st := s_law_sets) (m := 3) F_law_sets g_law_sets sc_law_sets (d_law_sets B ) m_law_sets rfl rfl (fun ds Q X h => by repeat (first | (refine Or.elim h (fun h => ?_) (fun h => ?_)) | (obtain ⟨rfl, _⟩ := h; rfl) | (obtain ⟨rfl | rfl, _⟩ := h <;> rfl) | (obtain ⟨⟨_, _, rfl, _⟩, _⟩ := h; rfl) | (obtain ⟨_, h⟩ := h))) (FunD.bindsN (ps := P_law_sets) F_law_sets fun _ _ _ _ _ _ us hl => match us, hl with | [_], _ => rfl)
  have h_are_names : Def G 2 "are_names" 2 sp_are_names := Def.of (st := s_are_names) (m := 2) F_are_names g_are_names sc_are_names (d_are_names B h_is_whole) m_are_names rfl rfl (fun ds Q X h => by repeat (first | (refine Or.elim h (fun h => ?_) (fun h => ?_)) | (obtain ⟨rfl, _⟩ := h; rfl) | (obtain ⟨rfl | rfl, _⟩ := h <;> rfl) | (obtain ⟨⟨_, _, rfl, _⟩, _⟩ := h; rfl) | (obtain ⟨_, h⟩ := h))) (FunD.bindsN (ps := P_are_names) F_are_names fun _ _ _ _ _ _ us hl => match us, hl with | [_, _], _ => rfl)
  have h_is_order : Def G 2 "is_order" 2 sp_is_order := Def.of (st := s_is_order) (m := 1) F_is_order g_is_order sc_is_order (d_is_order B h_is_whole) m_is_order rfl rfl (fun ds Q X h => by repeat (first | (refine Or.elim h (fun h => ?_) (fun h => ?_)) | (obtain ⟨rfl, _⟩ := h; rfl) | (obtain ⟨rfl | rfl, _⟩ := h <;> rfl) | (obtain ⟨⟨_, _, rfl, _⟩, _⟩ := h; rfl) | (obtain ⟨_, h⟩ := h))) (FunD.bindsN (ps := P_is_order) F_is_order fun _ _ _ _ _ _ us hl => match us, hl with | [_, _], _ => rfl)
  have h_room_by : Def G 2 "room_by" 2 sp_room_by := Def.of (st := s_room_by) (m := 1) F_room_by g_room_by sc_room_by (d_room_by B h_product) m_room_by rfl rfl (fun ds Q X h => by repeat (first | (refine Or.elim h (fun h => ?_) (fun h => ?_)) | (obtain ⟨rfl, _⟩ := h; rfl) | (obtain ⟨rfl | rfl, _⟩ := h <;> rfl) | (obtain ⟨⟨_, _, rfl, _⟩, _⟩ := h; rfl) | (obtain ⟨_, h⟩ := h))) (FunD.bindsN (ps := P_room_by) F_room_by fun _ _ _ _ _ _ us hl => match us, hl with | [_, _], _ => rfl)
  have h_law_dip : Def G 2 "_law_dip" 2 sp_law_dip := Def.of (st := s_law_dip) (m := 6) F_law_dip g_law_dip sc_law_dip (d_law_dip B h_law_prime) m_law_dip rfl rfl (fun ds Q X h => by repeat (first | (refine Or.elim h (fun h => ?_) (fun h => ?_)) | (obtain ⟨rfl, _⟩ := h; rfl) | (obtain ⟨rfl | rfl, _⟩ := h <;> rfl) | (obtain ⟨⟨_, _, rfl, _⟩, _⟩ := h; rfl) | (obtain ⟨_, h⟩ := h))) (FunD.bindsN (ps := P_law_dip) F_law_dip fun _ _ _ _ _ _ us hl => match us, hl with | [_, _], _ => rfl)
  have h_law_least : Def G 2 "_law_least" 1 sp_law_least := Def.of (st := s_law_least) (m := 7) F_law_least g_law_least sc_law_least (d_law_least B h_law_bag h_law_sets h_law_tied h_law_times) m_law_least rfl rfl (fun ds Q X h => by repeat (first | (refine Or.elim h (fun h => ?_) (fun h => ?_)) | (obtain ⟨rfl, _⟩ := h; rfl) | (obtain ⟨rfl | rfl, _⟩ := h <;> rfl) | (obtain ⟨⟨_, _, rfl, _⟩, _⟩ := h; rfl) | (obtain ⟨_, h⟩ := h))) (FunD.bindsN (ps := P_law_least) F_law_least fun _ _ _ _ _ _ us hl => match us, hl with | [_], _ => rfl)
  have h_law_shown : Def G 2 "_law_shown" 3 sp_law_shown := Def.of (st := s_law_shown) (m := 9) F_law_shown g_law_shown sc_law_shown (d_law_shown B h_law_bag h_law_sets h_law_tied h_law_times) m_law_shown rfl rfl (fun ds Q X h => by repeat (first | (refine Or.elim h (fun h => ?_) (fun h => ?_)) | (obtain ⟨rfl, _⟩ := h; rfl) | (obtain ⟨rfl | rfl, _⟩ := h <;> rfl) | (obtain ⟨⟨_, _, rfl, _⟩, _⟩ := h; rfl) | (obtain ⟨_, h⟩ := h))) (FunD.bindsN (ps := P_law_shown) F_law_shown fun _ _ _ _ _ _ us hl => match us, hl with | [_, _, _], _ => rfl)
  have h_need_order : Def G 3 "need_order" 2 sp_need_order := Def.of (st := s_need_order) (m := 0) F_need_order g_need_order sc_need_order (d_need_order B h_is_order x_NoName) m_need_order rfl rfl (fun ds Q X h => by repeat (first | (refine Or.elim h (fun h => ?_) (fun h => ?_)) | (obtain ⟨rfl, _⟩ := h; rfl) | (obtain ⟨rfl | rfl, _⟩ := h <;> rfl) | (obtain ⟨⟨_, _, rfl, _⟩, _⟩ := h; rfl) | (obtain ⟨_, h⟩ := h))) (FunD.bindsN (ps := P_need_order) F_need_order fun _ _ _ _ _ _ us hl => match us, hl with | [_, _], _ => rfl)
  have h_least_room : Def G 3 "least_room" 1 sp_least_room := Def.of (st := s_least_room) (m := 9) F_least_room g_least_room sc_least_room (d_least_room B h_all_sets h_bag_by h_need_few h_room_by h_ties_of) m_least_room rfl rfl (fun ds Q X h => by repeat (first | (refine Or.elim h (fun h => ?_) (fun h => ?_)) | (obtain ⟨rfl, _⟩ := h; rfl) | (obtain ⟨rfl | rfl, _⟩ := h <;> rfl) | (obtain ⟨⟨_, _, rfl, _⟩, _⟩ := h; rfl) | (obtain ⟨_, h⟩ := h))) (FunD.bindsN (ps := P_least_room) F_least_room fun _ _ _ _ _ _ us hl => match us, hl with | [_], _ => rfl)
  have h_holds : Def G 3 "holds" 4 sp_holds := Def.of (st := s_holds) (m := 3) F_holds g_holds sc_holds (d_holds B h_bag_by h_room_by) m_holds rfl rfl (fun ds Q X h => by repeat (first | (refine Or.elim h (fun h => ?_) (fun h => ?_)) | (obtain ⟨rfl, _⟩ := h; rfl) | (obtain ⟨rfl | rfl, _⟩ := h <;> rfl) | (obtain ⟨⟨_, _, rfl, _⟩, _⟩ := h; rfl) | (obtain ⟨_, h⟩ := h))) (FunD.bindsN (ps := P_holds) F_holds fun _ _ _ _ _ _ us hl => match us, hl with | [_, _, _, _], _ => rfl)
  have h_is_floor : Def G 3 "is_floor" 2 sp_is_floor := Def.of (st := s_is_floor) (m := 0) F_is_floor g_is_floor sc_is_floor (d_is_floor B h_are_names h_is_whole) m_is_floor rfl rfl (fun ds Q X h => by repeat (first | (refine Or.elim h (fun h => ?_) (fun h => ?_)) | (obtain ⟨rfl, _⟩ := h; rfl) | (obtain ⟨rfl | rfl, _⟩ := h <;> rfl) | (obtain ⟨⟨_, _, rfl, _⟩, _⟩ := h; rfl) | (obtain ⟨_, h⟩ := h))) (FunD.bindsN (ps := P_is_floor) F_is_floor fun _ _ _ _ _ _ us hl => match us, hl with | [_, _], _ => rfl)
  have h_law_some : Def G 3 "_law_some" 3 sp_law_some := Def.of (st := s_law_some) (m := 3) F_law_some g_law_some sc_law_some (d_law_some B h_law_dip) m_law_some rfl rfl (fun ds Q X h => by repeat (first | (refine Or.elim h (fun h => ?_) (fun h => ?_)) | (obtain ⟨rfl, _⟩ := h; rfl) | (obtain ⟨rfl | rfl, _⟩ := h <;> rfl) | (obtain ⟨⟨_, _, rfl, _⟩, _⟩ := h; rfl) | (obtain ⟨_, h⟩ := h))) (FunD.bindsN (ps := P_law_some) F_law_some fun _ _ _ _ _ _ us hl => match us, hl with | [_, _, _], _ => rfl)
  have h_need_all : Def G 4 "need_all" 2 sp_need_all := Def.of (st := s_need_all) (m := 0) F_need_all g_need_all sc_need_all (d_need_all B h_need_order x_NoName) m_need_all rfl rfl (fun ds Q X h => by repeat (first | (refine Or.elim h (fun h => ?_) (fun h => ?_)) | (obtain ⟨rfl, _⟩ := h; rfl) | (obtain ⟨rfl | rfl, _⟩ := h <;> rfl) | (obtain ⟨⟨_, _, rfl, _⟩, _⟩ := h; rfl) | (obtain ⟨_, h⟩ := h))) (FunD.bindsN (ps := P_need_all) F_need_all fun _ _ _ _ _ _ us hl => match us, hl with | [_, _], _ => rfl)
  have h_bags_of : Def G 4 "bags_of" 2 sp_bags_of := Def.of (st := s_bags_of) (m := 2) F_bags_of g_bags_of sc_bags_of (d_bags_of B h_bag_by h_need_order h_ties_of) m_bags_of rfl rfl (fun ds Q X h => by repeat (first | (refine Or.elim h (fun h => ?_) (fun h => ?_)) | (obtain ⟨rfl, _⟩ := h; rfl) | (obtain ⟨rfl | rfl, _⟩ := h <;> rfl) | (obtain ⟨⟨_, _, rfl, _⟩, _⟩ := h; rfl) | (obtain ⟨_, h⟩ := h))) (FunD.bindsN (ps := P_bags_of) F_bags_of fun _ _ _ _ _ _ us hl => match us, hl with | [_, _], _ => rfl)
  have h_are_floors : Def G 4 "are_floors" 3 sp_are_floors := Def.of (st := s_are_floors) (m := 5) F_are_floors g_are_floors sc_are_floors (d_are_floors B h_all_sets h_holds h_is_floor h_need_few h_ties_of) m_are_floors rfl rfl (fun ds Q X h => by repeat (first | (refine Or.elim h (fun h => ?_) (fun h => ?_)) | (obtain ⟨rfl, _⟩ := h; rfl) | (obtain ⟨rfl | rfl, _⟩ := h <;> rfl) | (obtain ⟨⟨_, _, rfl, _⟩, _⟩ := h; rfl) | (obtain ⟨_, h⟩ := h))) (FunD.bindsN (ps := P_are_floors) F_are_floors fun _ _ _ _ _ _ us hl => match us, hl with | [_, _, _], _ => rfl)
  have h_law_web : Def G 4 "_law_web" 2 sp_law_web := Def.of (st := s_law_web) (m := 12) F_law_web g_law_web sc_law_web (d_law_web B h_law_dip h_law_some h_law_times) m_law_web rfl rfl (fun ds Q X h => by repeat (first | (refine Or.elim h (fun h => ?_) (fun h => ?_)) | (obtain ⟨rfl, _⟩ := h; rfl) | (obtain ⟨rfl | rfl, _⟩ := h <;> rfl) | (obtain ⟨⟨_, _, rfl, _⟩, _⟩ := h; rfl) | (obtain ⟨_, h⟩ := h))) (FunD.bindsN (ps := P_law_web) F_law_web fun _ _ _ _ _ _ us hl => match us, hl with | [_, _], _ => rfl)
  have h_room_of : Def G 5 "room_of" 2 sp_room_of := Def.of (st := s_room_of) (m := 1) F_room_of g_room_of sc_room_of (d_room_of B h_bags_of h_need_all h_room_by) m_room_of rfl rfl (fun ds Q X h => by repeat (first | (refine Or.elim h (fun h => ?_) (fun h => ?_)) | (obtain ⟨rfl, _⟩ := h; rfl) | (obtain ⟨rfl | rfl, _⟩ := h <;> rfl) | (obtain ⟨⟨_, _, rfl, _⟩, _⟩ := h; rfl) | (obtain ⟨_, h⟩ := h))) (FunD.bindsN (ps := P_room_of) F_room_of fun _ _ _ _ _ _ us hl => match us, hl with | [_, _], _ => rfl)
  have hFT : Defs G 4 FT43 := ⟨fun nm n spec h => by
    unfold FT43 at h
    repeat' split at h
    all_goals first | (cases h; subst_vars; first | exact ⟨⟨_, by decide, h_least_room⟩, g_least_room⟩ | exact ⟨⟨_, by decide, h_are_floors⟩, g_are_floors⟩) | cases h⟩
  have h_law_call : Def G 5 "_law_call" 2 (sp_law_call FT43) := Def.of (st := s_law_call) (m := 0) F_law_call g_law_call sc_law_call (d_law_call B hFT) (m_law_call FT43) rfl rfl (fun ds Q X h => by repeat (first | (refine Or.elim h (fun h => ?_) (fun h => ?_)) | (obtain ⟨rfl, _⟩ := h; rfl) | (obtain ⟨rfl | rfl, _⟩ := h <;> rfl) | (obtain ⟨⟨_, _, rfl, _⟩, _⟩ := h; rfl) | (obtain ⟨_, h⟩ := h))) (FunD.bindsN (ps := P_law_call) F_law_call fun _ _ _ _ _ _ us hl => match us, hl with | [_, _], _ => rfl)
  have h_law_refused : Def G 6 "_law_refused" 2 (sp_law_refused FT43 cs43) := Def.of (st := s_law_refused) (m := 2) F_law_refused g_law_refused sc_law_refused (d_law_refused B h_law_call h_law_class hXC) (m_law_refused FT43 cs43) rfl rfl (fun ds Q X h => by repeat (first | (refine Or.elim h (fun h => ?_) (fun h => ?_)) | (obtain ⟨rfl, _⟩ := h; rfl) | (obtain ⟨rfl | rfl, _⟩ := h <;> rfl) | (obtain ⟨⟨_, _, rfl, _⟩, _⟩ := h; rfl) | (obtain ⟨_, h⟩ := h))) (FunD.bindsN (ps := P_law_refused) F_law_refused fun _ _ _ _ _ _ us hl => match us, hl with | [_, _], _ => rfl)
  exact Def.ok (G := G) (st := s_law) (m := 8) F_law sc_law (d_law B h_law_dip h_law_jar h_law_least h_law_refused h_law_shown h_law_web h_are_floors h_least_room h_room_of g_are_floors g_least_room) m_law rfl
end LS.FL.K43.K43.E
open PySem PySem.W PySem.Calls PyProof.Rows
theorem PySem.Challenge.cw_sumorder_k43_least_rooms_holds : PySem.Challenge.rw_sumorder_k43_least_rooms.Holds := by
  w_on; o_law
  refine HandSHeadRun.head_any (r := (OpenLaw.row PySem.Challenge.rw_sumorder_k43_least_rooms)) (q := view (OpenLaw.row PySem.Challenge.rw_sumorder_k43_least_rooms).prog [61]) (H := LS.FL.K43.K43.E.hk) (ob := LS.FL.K43.K43.E.ob) (M := 8000) (loose := LS.FL.K43.K43.E.nm) (d := HandSHeadRun.topDef (OpenLaw.row PySem.Challenge.rw_sumorder_k43_least_rooms).prog 61) (kwd := []) LS.FL.K43.K43.E.obE
    (by kernel_rfl) (fun s => by kernel_rfl) LS.FL.K43.K43.E.topRun (by kernel_rfl) (by kernel_rfl) (by kernel_rfl) (by rfl) (by first | assumption | decide +kernel) (by decide +kernel) ⟨rfl, rfl, rfl, rfl, rfl, by decide +kernel⟩ ?hw ?hc
  case hw => w_witness2
  case hc =>
    refine HD.walkW (l := PySem.Challenge.rw_sumorder_k43_least_rooms) (n := 63) (k := 7) (x := "script") (CX := fun w => L2.CX PySem.Challenge.pw_sumorder_k43_least_rooms w) rfl (by decide) (by kernel_rfl) ⟨rfl, by decide, by decide⟩ ?F (fun w H s e s' z => HD.cx_no H s e s' z)
    intro w mg f h Y N hm
    obtain ⟨K, X, c, cx⟩ := Y
    have hf : mg ("law" : PySem.Str) = some (.ref f) := by
      have e : (HandSHeadRun.topDef (OpenLaw.row PySem.Challenge.rw_sumorder_k43_least_rooms).prog 61).name = ("law" : PySem.Str) := by kernel_rfl
      rw [← e]; exact hm
    obtain ⟨fd, hb, hF⟩ := LS.FL.K43.K43.E.facts (w := w) X N hf c cx
    exact ⟨K, fd, _, X, hb, fun H a ns hl hS => HD.law_sp hl hS, hF⟩
