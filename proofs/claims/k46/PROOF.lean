import PyProof.Rows.All
import Wide.All
import OpenK.AllK
import Wide.FinOn
import HandS.ForMost
import HandS.ForExc
import HandS.TupAny
import HandS.Conv
import HandS.HeadHook1
import HandS.Words
import HandS.WordsExc
import HandS.Ends
import HandS.ExcOwn
import HandS.TupLe
import HandS.Wide
import HandS.Strs
import HandS.SetFor
import HandS.SortInts
import HandS.IsInst
import HandS.Zip
import HandS.Flow
import HandS.Style
import KE.GoesNew
import KE.GoesMore
import HandS.ExcValue
import HandS.ExcIs
import HandS.HeadHook2
import HandS.Text
import KE.KStateDown
import HandS.Defaults
import HandS.Head0
import HandS.Head1
import HandS.Head2
import HandS.HeadEnd
import HandS.HeadNt
import PyProof.ReprRoads
import PyProof.ReprBulk
import PyProof.Rows.RegStrFacts
import HandS.RaiseMore
import KE.GoesEnum
import HandS.TupMul
import KE.KItemsList
import KE.KDictZip
import HandS.ListItems
import KE.KTupSum
import HandS.ForDict
import HandS.Iter
import PyProof.AutoSeq1
import KE.DataMinMax
import PyProof.Rows.RowBridgeK
import KE.KDictSum
import KE.SortData
import KE.DataCmp
import KE.KDictCopyH
import HandS.DictTup
import PySem.Challenge.RW_sumorder_k46_orders_and_rings_looked_at
set_option Elab.async false
set_option linter.all false
set_option maxRecDepth 100000
set_option maxHeartbeats 0
set_option autoImplicit false
namespace HD
open PySem PyProof.Rows L2
def TupD (K : PySem.W.Frag) (H : Hp) (a : Addr) (xs : List V) : Prop :=
  (∃ o : Obj, H a = some (.frz o (.tup xs)) ∧ o.dict = none) ∨
    ∃ (o : Obj) (its : Array Value) (n : Nat), K.lookup a = some o ∧ o.cls = .type "tuple" ∧ o.data = .seq its n ∧ its.size ≤ sizeLine ∧ Vals xs its.toList ∧ o.dict = none
theorem TupD.sq {K : PySem.W.Frag} {H : Hp} {a : Addr} {xs : List V} (h : TupD K H a xs) : SqT K H a xs := by
  rcases h with ⟨o, h, _⟩ | ⟨o, its, n, h1, h2, h3, h4, h5, _⟩
  · exact .inl (.inr ⟨o, h⟩)
  · exact .inr ⟨o, its, n, h1, h2, h3, h4, h5⟩
theorem TupD.same {K : PySem.W.Frag} {H H' : Hp} {a : Addr} {xs : List V} (e : Same H H') (h : TupD K H a xs) : TupD K H' a xs := by
  rcases h with ⟨o, h, d⟩ | h
  · exact .inl ⟨o, e _ _ h, d⟩
  · exact .inr h
theorem TupD.noDict {X : Cx} {pins : List (Addr × Obj)} {σ : L2.St} {H : Hp} {s : Shared} {a : Addr} {xs : List V} (I : Inv X pins σ H s) (h : TupD X.K H a xs) : ∃ ob, s.heap.get? a = some ob ∧ ob.dict = none := by
  rcases h with ⟨o, h, d⟩ | ⟨o, its, n, h1, h2, h3, h4, h5, d⟩
  · obtain ⟨e, _⟩ := (show ObjOk X.prog X.w H s.heap a (.frz o (.tup xs)) from I.hok a _ h)
    exact ⟨o, e, d⟩
  · exact ⟨o, I.kIn a o h1, d⟩
def newT (H : Hp) (xs : List V) (Q : VK) : Prop := ∀ (p : Addr) (o : Obj), H p = none → o.dict = none → Q (.ref p) (upd H p (.frz o (.tup xs)))
theorem laidT {X : Cx} {pins : List (Addr × Obj)} {σ : L2.St} {H : Hp} {s : Shared} {Q : VK} {xs : List V} {its : List Value} {tk : Nat} (I : Inv X pins σ H s) (r : Vals xs its) (hz : xs.length ≤ sizeLine) (q : newT H xs Q) :
    EP X pins σ Q (.ref s.heap.objs.size) { s with heap := s.heap.push { cls := .type "tuple", data := .seq its.toArray }, toks := tk } := by
  have hf : H s.heap.objs.size = none := I.hok.fresh (Nat.le_refl _)
  refine ⟨.ref s.heap.objs.size, _, I.laid (t' := tk) (fun b u e => Heap.get?_push_of_some _ e) (Nat.le_refl _) ?_, rfl, q _ { cls := .type "tuple", data := .seq its.toArray } hf rfl⟩
  exact ⟨Heap.get?_push_size _ rfl, hz, its, r, IsTup.new _ _⟩
section
variable {X : Cx}
def tTupF (t : TA) : TE := fun σ H Q => t σ H fun xs H1 => xs.length ≤ sizeLine ∧ newT H1 xs Q
theorem pe_tupF {x1} {es : List Expr} {t : TA} {pos : Pos} (h : PA X es t) : PE X (.Tuple es x1 pos) (tTupF t) := by
  refine ⟨fun pins s σ H Q I hq => ?_⟩
  refine wpAny_Tuple_spliced (thn (h.run pos pins s σ H _ I hq) fun us s1 ⟨xs, H1, I1, r, z, q⟩ => ⟨by rw [← r.length]; exact z, ?_⟩)
  exact laidT (tk := s1.toks) I1 r z q
def rCatF (K : PySem.W.Frag) : R2 := fun x y H Q => ∃ a b xs ys, x = .ref a ∧ y = .ref b ∧ SqT K H a xs ∧ SqT K H b ys ∧ xs.length + ys.length ≤ sizeLine ∧
  (xs = [] → Q (.ref b) H) ∧ (xs ≠ [] → ys = [] → Q (.ref a) H) ∧ (xs ≠ [] → ys ≠ [] → newT H (xs ++ ys) Q)
theorem op_catF : OpR X (binaryOp .Add) (rCatF X.K) := by
  intro pins s σ H x y v u Q I rx ry h
  obtain ⟨a, b, xs, ys, rfl, rfl, ha, hb, hz, q0, q1, q2⟩ := h
  cases rx
  cases ry
  obtain ⟨its, r1, p1, _⟩ := I.tuple ha
  obtain ⟨its2, r2, p2, _⟩ := I.tuple hb
  by_cases hx : xs = []
  · subst hx
    cases r1
    exact cat_tup0 p1 p2 ⟨.ref b, H, I, rfl, q0 rfl⟩
  · refine HT.cat_tup p1 p2 (fun z => hx (r1.nil_iff.mp z)) (fun z => ⟨.ref a, H, I, rfl, q1 hx (r2.nil_iff.mp z)⟩) (fun z => ?_) (by rw [← r1.length, ← r2.length]; exact hz)
    exact laidT (tk := s.toks) I (r1.append r2) (by rw [List.length_append]; exact hz) (q2 hx fun w => z (r2.nil_iff.mpr w))
def rSlF (K : PySem.W.Frag) : V → Option Int → Option Int → Hp → VK → Prop := fun x lo hi H Q => ∃ a xs, x = .ref a ∧ SqT K H a xs ∧
  (HT.sIx xs.length 0 lo = 0 ∧ HT.sIx xs.length xs.length hi = xs.length → Q (.ref a) H) ∧ (¬ (HT.sIx xs.length 0 lo = 0 ∧ HT.sIx xs.length xs.length hi = xs.length) → newT H (cutV xs lo hi) Q)
theorem sl_tupF : SlR X (rSlF X.K) := by
  intro pins s σ H x v vl vu lo hi sl Q I rx hs pl pu h
  obtain ⟨a, xs, rfl, hx, q1, q2⟩ := h
  cases rx
  obtain ⟨its, r, ht, hz⟩ := I.tuple hx
  have hlen : its.toArray.size = xs.length := by
    rw [List.size_toArray]
    exact r.length.symm
  refine ⟨"tuple", _, PyProof.Rows.slot_tuple_getitem.lookup, ht.typeIs, ?_⟩
  by_cases hw : HT.sIx xs.length 0 lo = 0 ∧ HT.sIx xs.length xs.length hi = xs.length
  · exact getItem_tuple_whole ht hs pl pu (by rw [hlen]; exact hw) ⟨.ref a, H, I, rfl, q1 hw⟩
  · refine HT.getItem_tuple_cut ht hs pl pu (by rw [hlen]; exact hw) ?_ (by rw [hlen]; exact hz)
    rw [hlen]
    exact laidT (tk := s.toks) I ((r.drop (HT.sIx xs.length 0 lo)).take (HT.sIx xs.length xs.length hi - HT.sIx xs.length 0 lo)) (Nat.le_trans (cutV_length xs lo hi) hz) (q2 hw)
theorem call_tupleF : CallR X (.type "tuple") (fun xs H Q => ∃ p ys, xs = [.ref p] ∧ ((SqL X.K H p ys ∧ newT H ys Q) ∨ (SqT X.K H p ys ∧ Q (.ref p) H))) := by
  intro pins s σ H xs us Q I r h
  obtain ⟨p, ys, rfl, h⟩ := h
  obtain ⟨u, rfl, rx⟩ := vals1 r
  cases rx
  rcases h with ⟨hq, q⟩ | ⟨hq, q⟩
  · obtain ⟨its, r', pl, hz⟩ := I.list hq
    have hlen := r'.length
    refine call_tuple_list pl.isList (fun h' kp => ?_) (by simp only [List.size_toArray] <;> omega)
    have I1 : Inv X pins σ H { s with heap := h' } := I.kept (t' := s.toks) kp
    exact laidT (tk := s.toks) I1 r' hz q
  · obtain ⟨its, r', pl, hz⟩ := I.tuple hq
    exact call_tuple_same pl ⟨.ref p, H, I, rfl, q⟩
def tTupRgF (te : L2.St → Hp → (Int → Int → Hp → Prop) → Prop) : TE := fun σ H Q => te σ H fun a b H1 => RgOk a b ∧ newT H1 (rgV a b) Q
theorem pe_tupRgF {e : Expr} {te : L2.St → Hp → (Int → Int → Hp → Prop) → Prop} {p pos : Pos} (hc : X.calm = true) (hg : Gl X "tuple") (hm : X.mg "tuple" = none) (he : PRg X e te) (na : starEach [e] X.env = (false, eval e X.env) :: starEach [] X.env) : PE X (.Call (.Name "tuple" p) [e] [] pos) (tTupRgF te) := by
  refine ⟨fun pins s σ H Q I h => ?_⟩
  refine Call_ (ld_blt I hg hm boot_tuple (PyProof.Rows.callWith_type1 (args_cons (thn (he pins s σ H _ I h) fun x s1 ⟨r, a, b, t, u, v, H1, ex, hr, I1, ok, q⟩ => args_nil ?_) na) na))
  subst ex
  obtain ⟨b1, b2, b3, b4, b5⟩ := ok
  refine call_tuple_range (n := (b - a).toNat) (I1.ok.hd hc) hr (small_one b1 b2 b3 b4) (rangeSize_nat a b) b5 fun h' tk acc hk hi => ?_
  have I2 : Inv X pins σ H1 { s1 with heap := h', toks := tk } := I1.kept hk
  have z := laidT (tk := tk) I2 (vals_rg hi) (by rw [rgV_length, sizeLine_eq]; omega) q
  rw [Array.toArray_toList] at z
  exact z
end
end HD
namespace HD
open PySem L2
abbrev clsV (K : PySem.W.Frag) (x : Str) : Value := .ref (He.ga K x)
inductive D where
  | non | bl (b : Bool) | int (i : Int) | str (x : Str) | val (v : V)
  | lst (ds : List D) | tup (ds : List D) | fz (ds : List D) | tk (ds : List D)
  | exc (c : Str)
  | glo (x : Str)
  | dk (ks : List Key) (ds : List D)
  | dt (ks : List (List Int)) (ds : List D)
def hT (ks : List Int) : Int := reduceHash (Builtin.Tuple.tupleHashOf (ks.map hashInt))
def dtO (a : Addr) (kbs : List (List Int × Addr × V)) : HO := .ext fun h => kbs.length ≤ sizeLine ∧ (a == sysModules) = false ∧ (kbs.map (·.1)).Nodup ∧ ∃ (us : List Value) (o : Obj) (es : Array DictEntry) (ep : Nat),
  Vals (kbs.map (·.2.2)) us ∧ h.get? a = some o ∧ o.ExactDict ∧ o.data = .dict es ep ∧ es.toList = (kbs.zip us).map fun x => ⟨hT x.1.1, .ref x.1.2.1, x.2⟩
mutual
def Rep (K : PySem.W.Frag) (F : Hp) : D → V → Prop
  | .non, v => v = .non
  | .bl b, v => v = .bl b
  | .int i, v => v = .int i
  | .str x, v => v = .str x
  | .val u, v => v = u
  | .lst ds, v => ∃ a xs, v = .ref a ∧ F a = some (.lst xs) ∧ Reps K F ds xs
  | .fz ds, v => ∃ a xs, v = .ref a ∧ SqL K F a xs ∧ Reps K F ds xs
  | .tup ds, v => ∃ a xs, v = .ref a ∧ TupD K F a xs ∧ Reps K F ds xs
  | .tk ds, v => ∃ a xs, v = .ref a ∧ SqT K F a xs ∧ Reps K F ds xs
  | .glo x, v => v = .ref (He.ga K x)
  | .exc c, v => ∃ a oe, v = .ref a ∧ F a = some (.frz oe (.own a)) ∧ oe.cls = clsV K c ∧ oe.dict = none ∧ ∃ vs, oe.data = .fields vs
  | .dk ks ds, v => ∃ a od vs, v = .ref a ∧ F a = some (.frz od (.dK vs)) ∧ vs.map (·.1) = ks ∧ Reps K F ds (vs.map (·.2))
  | .dt ks ds, v => ∃ a od kbs, v = .ref a ∧ F a = some (.frz od (dtO a kbs)) ∧ kbs.map (·.1) = ks ∧ (∀ x ∈ kbs, TupD K F x.2.1 (x.1.map V.int)) ∧ Reps K F ds (kbs.map (·.2.2))
def Reps (K : PySem.W.Frag) (F : Hp) : List D → List V → Prop
  | [], vs => vs = []
  | d :: ds, vs => ∃ v r, vs = v :: r ∧ Rep K F d v ∧ Reps K F ds r
end
theorem SqT.same {K : PySem.W.Frag} {F F' : Hp} {a : Addr} {xs : List V} (e : Same F F') (h : SqT K F a xs) : SqT K F' a xs := by
  rcases h with (h | ⟨o, h⟩) | h
  · exact .inl (.inl (e _ _ h))
  · exact .inl (.inr ⟨o, e _ _ h⟩)
  · exact .inr h
section
variable {K : PySem.W.Frag} {F F' : Hp}
mutual
theorem Rep.same (e : Same F F') : ∀ {d : D} {v : V}, Rep K F d v → Rep K F' d v
  | .non, _, h => h
  | .bl _, _, h => h
  | .int _, _, h => h
  | .str _, _, h => h
  | .val _, _, h => h
  | .lst _, _, h => by
    obtain ⟨a, xs, rfl, hs, hr⟩ := h
    exact ⟨a, xs, rfl, e _ _ hs, Reps.same e hr⟩
  | .fz _, _, h => by
    obtain ⟨a, xs, rfl, hs, hr⟩ := h
    exact ⟨a, xs, rfl, e.seq hs, Reps.same e hr⟩
  | .tup _, _, h => by
    obtain ⟨a, xs, rfl, hs, hr⟩ := h
    exact ⟨a, xs, rfl, TupD.same e hs, Reps.same e hr⟩
  | .tk _, _, h => by
    obtain ⟨a, xs, rfl, hs, hr⟩ := h
    exact ⟨a, xs, rfl, SqT.same e hs, Reps.same e hr⟩
  | .glo _, _, h => h
  | .exc _, _, h => by
    obtain ⟨a, oe, rfl, hs, hr⟩ := h
    exact ⟨a, oe, rfl, e _ _ hs, hr⟩
  | .dk _ _, _, h => by
    obtain ⟨a, od, vs, rfl, hs, hk, hr⟩ := h
    exact ⟨a, od, vs, rfl, e _ _ hs, hk, Reps.same e hr⟩
  | .dt _ _, _, h => by
    obtain ⟨a, od, vs, rfl, hs, hk, ht, hr⟩ := h
    exact ⟨a, od, vs, rfl, e _ _ hs, hk, fun x hx => TupD.same e (ht x hx), Reps.same e hr⟩
theorem Reps.same (e : Same F F') : ∀ {ds : List D} {vs : List V}, Reps K F ds vs → Reps K F' ds vs
  | [], _, h => h
  | _ :: _, _, h => by
    obtain ⟨v, r, rfl, h1, h2⟩ := h
    exact ⟨v, r, rfl, Rep.same e h1, Reps.same e h2⟩
end
theorem Reps.nil : Reps K F [] [] := rfl
theorem Reps.cons {d : D} {v : V} {ds : List D} {vs : List V} (h : Rep K F d v) (t : Reps K F ds vs) : Reps K F (d :: ds) (v :: vs) := ⟨v, vs, rfl, h, t⟩
theorem Reps.length : ∀ {ds : List D} {vs : List V}, Reps K F ds vs → ds.length = vs.length
  | [], _, h => by
    have e : _ = [] := h
    rw [e]
    rfl
  | _ :: ds, _, h => by
    obtain ⟨v, r, rfl, _, h2⟩ := h
    rw [List.length_cons, List.length_cons, Reps.length h2]
theorem Reps.get : ∀ {ds : List D} {vs : List V} {i : Nat} {d : D}, Reps K F ds vs → ds[i]? = some d → ∃ v, vs[i]? = some v ∧ Rep K F d v
  | [], _, _, _, _, e => by simp at e
  | _ :: ds, _, 0, _, h, e => by
    obtain ⟨v, r, rfl, h1, _⟩ := h
    have e' := Option.some.inj e
    subst e'
    exact ⟨v, rfl, h1⟩
  | _ :: ds, _, i + 1, _, h, e => by
    obtain ⟨v, r, rfl, _, h2⟩ := h
    exact Reps.get (i := i) h2 e
theorem Reps.of_get : ∀ {ds : List D} {vs : List V}, ds.length = vs.length → (∀ (i : Nat) d v, ds[i]? = some d → vs[i]? = some v → Rep K F d v) → Reps K F ds vs
  | [], [], _, _ => rfl
  | [], _ :: _, e, _ => by simp at e
  | _ :: _, [], e, _ => by simp at e
  | d :: ds, v :: vs, e, h => ⟨v, vs, rfl, h 0 d v rfl rfl, Reps.of_get (by simpa using e) fun i d' v' h1 h2 => h (i + 1) d' v' h1 h2⟩
theorem Reps.append : ∀ {ds es : List D} {vs us : List V}, Reps K F ds vs → Reps K F es us → Reps K F (ds ++ es) (vs ++ us)
  | [], _, _, _, h, g => by
    have e : _ = [] := h
    rw [e]
    exact g
  | _ :: _, _, _, _, h, g => by
    obtain ⟨v, r, rfl, h1, h2⟩ := h
    exact ⟨v, _, rfl, h1, Reps.append h2 g⟩
theorem Reps.one {d : D} {v : V} (h : Rep K F d v) : Reps K F [d] [v] := .cons h .nil
theorem Reps.take {ds : List D} {vs : List V} (h : Reps K F ds vs) (n : Nat) : Reps K F (ds.take n) (vs.take n) := by
  refine Reps.of_get (by rw [List.length_take, List.length_take, h.length]) fun i d v h1 h2 => ?_
  rw [List.getElem?_take] at h1 h2
  split at h1
  · rename_i hi
    rw [if_pos hi] at h2
    obtain ⟨v', e, r⟩ := h.get h1
    rw [h2] at e
    cases e
    exact r
  · cases h1
theorem Reps.drop {ds : List D} {vs : List V} (h : Reps K F ds vs) (n : Nat) : Reps K F (ds.drop n) (vs.drop n) := by
  refine Reps.of_get (by rw [List.length_drop, List.length_drop, h.length]) fun i d v h1 h2 => ?_
  rw [List.getElem?_drop] at h1 h2
  obtain ⟨v', e, r⟩ := h.get h1
  rw [h2] at e
  cases e
  exact r
theorem Reps.set {ds : List D} {vs : List V} (h : Reps K F ds vs) (n : Nat) {d : D} {v : V} (hd : Rep K F d v) : Reps K F (ds.set n d) (vs.set n v) := by
  refine Reps.of_get (by rw [List.length_set, List.length_set, h.length]) fun i d' v' h1 h2 => ?_
  rw [List.getElem?_set] at h1 h2
  split at h1
  · rename_i hi
    rw [if_pos hi] at h2
    split at h1
    · split at h2
      · cases h1
        cases h2
        exact hd
      · cases h2
    · cases h1
  · rename_i hi
    rw [if_neg hi] at h2
    obtain ⟨w, e, r⟩ := h.get h1
    rw [h2] at e
    cases e
    exact r
theorem Reps.eraseIdx : ∀ {ds : List D} {vs : List V} (n : Nat), Reps K F ds vs → Reps K F (ds.eraseIdx n) (vs.eraseIdx n)
  | [], _, _, h => by
    have e : _ = [] := h
    rw [e]
    exact rfl
  | _ :: _, _, 0, h => by
    obtain ⟨v, r, rfl, _, h2⟩ := h
    exact h2
  | _ :: _, _, n + 1, h => by
    obtain ⟨v, r, rfl, h1, h2⟩ := h
    exact ⟨v, _, rfl, h1, Reps.eraseIdx n h2⟩
theorem Reps.dropLast {ds : List D} {vs : List V} (h : Reps K F ds vs) : Reps K F ds.dropLast vs.dropLast := by
  rw [List.dropLast_eq_take, List.dropLast_eq_take, h.length]
  exact h.take _
theorem Reps.ints : ∀ {ns : List Int} {vs : List V}, Reps K F (ns.map D.int) vs → vs = ns.map V.int
  | [], _, h => h
  | n :: ns, _, h => by
    obtain ⟨v, r, rfl, h1, h2⟩ := h
    have e : v = .int n := h1
    rw [e, Reps.ints (ns := ns) h2]
    rfl
theorem Reps.of_ints : ∀ (ns : List Int), Reps K F (ns.map D.int) (ns.map V.int)
  | [] => rfl
  | n :: ns => ⟨_, _, rfl, rfl, Reps.of_ints ns⟩
theorem Reps.bls : ∀ {bs : List Bool} {vs : List V}, Reps K F (bs.map D.bl) vs → vs = bs.map V.bl
  | [], _, h => h
  | n :: ns, _, h => by
    obtain ⟨v, r, rfl, h1, h2⟩ := h
    have e : v = .bl n := h1
    rw [e, Reps.bls (bs := ns) h2]
    rfl
end
inductive OC where
  | lst (ds : List D)
  | dk (kvs : List (Key × D))
  | dt (kvs : List (List Int × D))
  | ins (c : Str) (dx : Addr) (fs : List (Str × D))
  | own (x : Addr)
  | lkK (kvs : List (Key × D))
  | lkT (kvs : List (List Int × D))
def OC.ok (K : PySem.W.Frag) (F : Hp) (a : Addr) : OC → HO → Prop
  | .lst ds, o => ∃ vs, o = .lst vs ∧ Reps K F ds vs
  | .dk kvs, o => ∃ vs : List (Key × V), o = .dK vs ∧ vs.map (·.1) = kvs.map (·.1) ∧ Reps K F (kvs.map (·.2)) (vs.map (·.2))
  | .dt kvs, o => ∃ kbs : List (List Int × Addr × V), o = dtO a kbs ∧ kbs.map (·.1) = kvs.map (·.1) ∧ (∀ x ∈ kbs, TupD K F x.2.1 (x.1.map V.int)) ∧ Reps K F (kvs.map (·.2)) (kbs.map (·.2.2))
  | .ins c dx fs, o => ∃ vs : List (Str × V), o = .ins (He.ga K c) dx vs ∧ vs.map (·.1) = fs.map (·.1) ∧ Reps K F (fs.map (·.2)) (vs.map (·.2))
  | .own x, o => o = .own x
  | .lkK kvs, o => ∃ (od : Obj) (vs : List (Key × V)), o = .frz od (.dK vs) ∧ vs.map (·.1) = kvs.map (·.1) ∧ Reps K F (kvs.map (·.2)) (vs.map (·.2))
  | .lkT kvs, o => ∃ (od : Obj) (kbs : List (List Int × Addr × V)), o = .frz od (dtO a kbs) ∧ kbs.map (·.1) = kvs.map (·.1) ∧ (∀ x ∈ kbs, TupD K F x.2.1 (x.1.map V.int)) ∧ Reps K F (kvs.map (·.2)) (kbs.map (·.2.2))
theorem OC.ok.same {K : PySem.W.Frag} {F F' : Hp} {a : Addr} (e : Same F F') : ∀ {c : OC} {o : HO}, OC.ok K F a c o → OC.ok K F' a c o
  | .lst _, _, ⟨vs, h1, h2⟩ => ⟨vs, h1, h2.same e⟩
  | .dk _, _, ⟨vs, h1, h2, h3⟩ => ⟨vs, h1, h2, h3.same e⟩
  | .dt _, _, ⟨vs, h1, h2, h3, h4⟩ => ⟨vs, h1, h2, fun x hx => TupD.same e (h3 x hx), h4.same e⟩
  | .ins _ _ _, _, ⟨vs, h1, h2, h3⟩ => ⟨vs, h1, h2, h3.same e⟩
  | .own _, _, h => h
  | .lkK _, _, ⟨od, vs, h1, h2, h3⟩ => ⟨od, vs, h1, h2, h3.same e⟩
  | .lkT _, _, ⟨od, vs, h1, h2, h3, h4⟩ => ⟨od, vs, h1, h2, fun x hx => TupD.same e (h3 x hx), h4.same e⟩
def Loose (o : HO) : Prop := (∀ xs, o ≠ .tup xs) ∧ ∀ od xs, o ≠ .frz od (.tup xs)
theorem OC.ok.loose {K : PySem.W.Frag} {F : Hp} {a : Addr} : ∀ {c : OC} {o : HO}, OC.ok K F a c o → Loose o
  | .lst _, _, ⟨vs, h1, _⟩ => by subst h1; exact ⟨fun _ z => (nomatch z), fun _ _ z => (nomatch z)⟩
  | .dk _, _, ⟨vs, h1, _⟩ => by subst h1; exact ⟨fun _ z => (nomatch z), fun _ _ z => (nomatch z)⟩
  | .dt _, _, ⟨vs, h1, _⟩ => by subst h1; exact ⟨fun _ z => (nomatch z), fun _ _ z => (nomatch z)⟩
  | .ins _ _ _, _, ⟨vs, h1, _⟩ => by subst h1; exact ⟨fun _ z => (nomatch z), fun _ _ z => (nomatch z)⟩
  | .own _, _, h => by
    have e : _ = HO.own _ := h
    subst e
    exact ⟨fun _ z => (nomatch z), fun _ _ z => (nomatch z)⟩
  | .lkK _, _, ⟨od, vs, h1, _⟩ => by subst h1; exact ⟨fun _ z => (nomatch z), fun _ _ z => (nomatch z)⟩
  | .lkT _, _, ⟨od, vs, h1, _⟩ => by subst h1; exact ⟨fun _ z => (nomatch z), fun _ _ z => (nomatch z)⟩
inductive Sl where
  | un
  | ext (d : D)
  | lst (a : Addr) (ds : List D)
  | al (i : Nat) (a : Addr)
  | reg (d : D) (cs : List (Addr × OC))
  | ar (i : Nat) (b : Addr)
def Sl.owned : Sl → List Addr
  | .lst a _ => [a]
  | .reg _ cs => cs.map (·.1)
  | _ => []
def cellOf : List (Addr × OC) → Addr → Option OC
  | [], _ => none
  | p :: r, b => if p.1 = b then some p.2 else cellOf r b
def SlOk (K : PySem.W.Frag) (F H : Hp) (v : V) : Sl → Prop
  | .un => True
  | .ext d => Rep K F d v
  | .lst a ds => v = .ref a ∧ F a = none ∧ ∃ vs, H a = some (.lst vs) ∧ Reps K F ds vs
  | .al _ a => v = .ref a
  | .ar _ b => v = .ref b
  | .reg d cs => Rep K F d v ∧ (cs.map (·.1)).Nodup ∧ ∀ p ∈ cs, F p.1 = none ∧ ∃ o, H p.1 = some o ∧ OC.ok K F p.1 p.2 o
theorem SlOk.ndo {K : PySem.W.Frag} {F H : Hp} {v : V} : ∀ {sl : Sl}, SlOk K F H v sl → sl.owned.Nodup
  | .un, _ => List.nodup_nil
  | .ext _, _ => List.nodup_nil
  | .al _ _, _ => List.nodup_nil
  | .lst _ _, _ => List.pairwise_singleton _ _
  | .ar _ _, _ => List.nodup_nil
  | .reg _ _, h => h.2.1
structure Ent where
  F0 : Hp
  H0 : Hp
  A0 : List Addr
abbrev Env' := List Sl
abbrev Tmp := List (V × Sl)
def ownedE (env : Env') : List Addr := env.flatMap Sl.owned
def ownedT (T : Tmp) : List Addr := T.flatMap fun p => p.2.owned
structure Holds (K : PySem.W.Frag) (e : Ent) (env : Env') (T : Tmp) (F : Hp) (σ : St) (H : Hp) : Prop where
  fh : Same F H
  len : env.length = σ.length
  slots : ∀ (i : Nat) sl, env[i]? = some sl → sl = .un ∨ ∃ v, σ[i]? = some (some v) ∧ SlOk K F H v sl
  temps : ∀ p ∈ T, SlOk K F H p.1 p.2
  nd : (ownedE env ++ ownedT T).Nodup
  s1 : Same e.F0 F
  s2 : ∀ a o, e.H0 a = some o → a ∉ e.A0 → H a = some o ∧ (e.F0 a = none → F a = none)
  s3 : ∀ a ∈ ownedE env ++ ownedT T, a ∈ e.A0 ∨ e.H0 a = none
structure Grow (F H F1 H1 : Hp) : Prop where
  ff : Same F F1
  hh : Same H H1
  fh : Same F1 H1
  new : ∀ a, F1 a ≠ none → F a ≠ none ∨ H a = none
theorem Grow.refl {F H : Hp} (h : Same F H) : Grow F H F H := ⟨Same.refl _, Same.refl _, h, fun _ z => .inl z⟩
theorem Grow.trans {F H F1 H1 F2 H2 : Hp} (g : Grow F H F1 H1) (k : Grow F1 H1 F2 H2) : Grow F H F2 H2 :=
  ⟨g.ff.trans k.ff, g.hh.trans k.hh, k.fh, fun a z => by
    rcases k.new a z with z | z
    · exact g.new a z
    · exact .inr (g.hh.free z)⟩
theorem Grow.frozen {F H : Hp} {p : Addr} {o : HO} (fh : Same F H) (n : H p = none) : Grow F H (upd F p o) (upd H p o) where
  ff := fun b x q => by
    rw [upd_ne (ne_of_none (fh _ _ q) n)]
    exact q
  hh := fun b x q => by
    rw [upd_ne (ne_of_none q n)]
    exact q
  fh := fun b x q => by
    by_cases e : b = p
    · subst e
      rw [upd_same] at q ⊢
      exact q
    · rw [upd_ne e] at q ⊢
      exact fh _ _ q
  new := fun a z => by
    by_cases e : a = p
    · subst e
      exact .inr n
    · rw [upd_ne e] at z
      exact .inl z
theorem Grow.loose {F H : Hp} {p : Addr} {o : HO} (fh : Same F H) (n : H p = none) : Grow F H F (upd H p o) where
  ff := Same.refl _
  hh := fun b x q => by
    rw [upd_ne (ne_of_none q n)]
    exact q
  fh := fun b x q => by
    rw [upd_ne (ne_of_none (fh _ _ q) n)]
    exact fh _ _ q
  new := fun a z => .inl z
theorem SlOk.grow {K : PySem.W.Frag} {F H F1 H1 : Hp} {v : V} (g : Grow F H F1 H1) : ∀ {sl : Sl}, SlOk K F H v sl → SlOk K F1 H1 v sl
  | .un, _ => trivial
  | .ext d, h => Rep.same g.ff h
  | .al _ _, h => h
  | .lst a ds, h => by
    obtain ⟨rfl, n, vs, hv, hr⟩ := h
    refine ⟨rfl, ?_, vs, g.hh _ _ hv, hr.same g.ff⟩
    cases q : F1 a with
    | none => rfl
    | some o =>
      rcases g.new a (by rw [q]; simp) with z | z
      · exact absurd n z
      · rw [hv] at z
        cases z
  | .ar _ _, h => h
  | .reg d cs, h => by
    obtain ⟨rd, nd, hc⟩ := h
    refine ⟨Rep.same g.ff rd, nd, fun p hp => ?_⟩
    obtain ⟨n, o, ho, ok⟩ := hc p hp
    refine ⟨?_, o, g.hh _ _ ho, ok.same g.ff⟩
    cases q : F1 p.1 with
    | none => rfl
    | some o' =>
      rcases g.new p.1 (by rw [q]; simp) with z | z
      · exact absurd n z
      · rw [ho] at z
        cases z
section
variable {K : PySem.W.Frag} {e : Ent} {env : Env'} {T : Tmp} {F F1 : Hp} {σ : St} {H H1 : Hp}
theorem Holds.ownedL (h : Holds K e env T F σ H) : ∀ a ∈ ownedE env ++ ownedT T, F a = none ∧ ∃ o, H a = some o ∧ Loose o := fun a ha => by
  have key : ∀ v (sl : Sl), SlOk K F H v sl → a ∈ sl.owned → F a = none ∧ ∃ o, H a = some o ∧ Loose o := fun v sl ok hm => by
    cases sl with
    | un => cases hm
    | ext d => cases hm
    | al i b => cases hm
    | lst b ds =>
      obtain ⟨_, n, vs, hv, _⟩ := ok
      have z : a = b := List.mem_singleton.mp hm
      subst z
      exact ⟨n, _, hv, ⟨fun _ z => (nomatch z), fun _ _ z => (nomatch z)⟩⟩
    | ar i b => cases hm
    | reg b cs =>
      obtain ⟨_, _, hc⟩ := ok
      obtain ⟨p, hp, rfl⟩ := List.mem_map.mp hm
      obtain ⟨n, o, ho, ok⟩ := hc p hp
      exact ⟨n, o, ho, ok.loose⟩
  rcases List.mem_append.mp ha with ha | ha
  · obtain ⟨sl, hs, hm⟩ := List.mem_flatMap.mp ha
    obtain ⟨i, hi, rfl⟩ := List.getElem_of_mem hs
    rcases h.slots i _ (List.getElem?_eq_getElem hi) with z | ⟨v, _, ok⟩
    · rw [z] at hm
      cases hm
    · exact key v _ ok hm
  · obtain ⟨p, hp, hm⟩ := List.mem_flatMap.mp ha
    exact key p.1 p.2 (h.temps p hp) hm
theorem Holds.ownedH (h : Holds K e env T F σ H) : ∀ a ∈ ownedE env ++ ownedT T, F a = none ∧ ∃ o, H a = some o := fun a ha => by
  obtain ⟨n, o, ho, _⟩ := h.ownedL a ha
  exact ⟨n, o, ho⟩
theorem Holds.grow (h : Holds K e env T F σ H) (g : Grow F H F1 H1) : Holds K e env T F1 σ H1 where
  fh := g.fh
  len := h.len
  slots := fun i sl q => by
    rcases h.slots i sl q with z | ⟨v, hv, ok⟩
    · exact .inl z
    · exact .inr ⟨v, hv, ok.grow g⟩
  temps := fun p hp => (h.temps p hp).grow g
  nd := h.nd
  s1 := h.s1.trans g.ff
  s2 := fun a o q n => by
    obtain ⟨q1, q2⟩ := h.s2 a o q n
    refine ⟨g.hh _ _ q1, fun z => ?_⟩
    cases r : F1 a with
    | none => rfl
    | some x =>
      rcases g.new a (by rw [r]; simp) with y | y
      · exact absurd (q2 z) y
      · rw [q1] at y
        cases y
  s3 := h.s3
theorem Holds.push {v : V} {sl : Sl} (h : Holds K e env T F σ H) (g : Grow F H F1 H1) (ok : SlOk K F1 H1 v sl) (own : ∀ a ∈ sl.owned, H a = none) : Holds K e env ((v, sl) :: T) F1 σ H1 := by
  have h1 := h.grow g
  have old := h.ownedH
  have ndo : sl.owned.Nodup := ok.ndo
  have dis : ∀ a ∈ sl.owned, a ∉ ownedE env ++ ownedT T := fun a ha hb => by
    obtain ⟨_, vs, q⟩ := old a hb
    rw [own a ha] at q
    cases q
  refine ⟨h1.fh, h1.len, h1.slots, fun p hp => ?_, ?_, h1.s1, h1.s2, fun a ha => ?_⟩
  · rcases List.mem_cons.mp hp with rfl | hp
    · exact ok
    · exact h1.temps p hp
  · show (ownedE env ++ (sl.owned ++ ownedT T)).Nodup
    have z := h.nd
    rw [List.nodup_append] at z ⊢
    obtain ⟨z1, z2, z3⟩ := z
    refine ⟨z1, ?_, fun a ha b hb => ?_⟩
    · rw [List.nodup_append]
      exact ⟨ndo, z2, fun a ha b hb e => dis a ha (by rw [e]; exact List.mem_append_right _ hb)⟩
    · rcases List.mem_append.mp hb with hb | hb
      · exact fun e => dis b hb (by rw [← e]; exact List.mem_append_left _ ha)
      · exact z3 a ha b hb
  · have ha' : a ∈ ownedE env ++ (sl.owned ++ ownedT T) := ha
    rcases List.mem_append.mp ha' with hb | hb
    · exact h.s3 a (List.mem_append_left _ hb)
    · rcases List.mem_append.mp hb with hb | hb
      · have hn := own a hb
        cases q : e.H0 a with
        | none => exact .inr rfl
        | some o =>
          by_cases hA : a ∈ e.A0
          · exact .inl hA
          · rw [(h.s2 a o q hA).1] at hn
            cases hn
      · exact h.s3 a (List.mem_append_right _ hb)
theorem Holds.pushE {v : V} {d : D} (h : Holds K e env T F σ H) (ok : Rep K F d v) : Holds K e env ((v, .ext d) :: T) F σ H :=
  h.push (Grow.refl h.fh) ok fun a ha => by cases ha
theorem Holds.pushA {i : Nat} {a : Addr} (h : Holds K e env T F σ H) : Holds K e env ((.ref a, .al i a) :: T) F σ H :=
  h.push (Grow.refl h.fh) rfl fun a ha => by cases ha
theorem ownedT_sub {T T' : Tmp} (s : T'.Sublist T) : (ownedT T').Sublist (ownedT T) := by
  unfold ownedT
  induction s with
  | slnil => exact .slnil
  | cons a _ ih => exact ih.trans (List.sublist_append_right _ _)
  | cons_cons a _ ih => exact (List.Sublist.refl _).append ih
theorem Holds.sub {T' : Tmp} (h : Holds K e env T F σ H) (s : T'.Sublist T) : Holds K e env T' F σ H := by
  have so : (ownedT T').Sublist (ownedT T) := ownedT_sub s
  have sa : (ownedE env ++ ownedT T').Sublist (ownedE env ++ ownedT T) := (List.Sublist.refl _).append so
  exact ⟨h.fh, h.len, h.slots, fun p hp => h.temps p (s.subset hp), h.nd.sublist sa, h.s1, h.s2, fun a ha => h.s3 a (sa.subset ha)⟩
theorem Holds.pop {p : V × Sl} (h : Holds K e env (p :: T) F σ H) : Holds K e env T F σ H := h.sub (List.sublist_cons_self _ _)
theorem splitE {env : Env'} {i : Nat} {sl : Sl} (h : env[i]? = some sl) : ∃ A B, ownedE env = A ++ (sl.owned ++ B) ∧ ∀ sl', ownedE (env.set i sl') = A ++ (Sl.owned sl' ++ B) := by
  obtain ⟨hi, rfl⟩ := List.getElem?_eq_some_iff.mp h
  refine ⟨ownedE (env.take i), ownedE (env.drop (i + 1)), ?_, fun sl' => ?_⟩
  · have z : env = env.take i ++ env[i] :: env.drop (i + 1) := by
      rw [List.getElem_cons_drop, List.take_append_drop]
    have y := congrArg ownedE z
    rw [y]
    unfold ownedE
    rw [List.flatMap_append, List.flatMap_cons]
  · rw [List.set_eq_take_append_cons_drop, if_pos hi]
    unfold ownedE
    rw [List.flatMap_append, List.flatMap_cons]
theorem owned_two {env : Env'} {X : List Addr} {i j : Nat} {s1 s2 : Sl} {a : Addr} (nd : (ownedE env ++ X).Nodup) (h1 : env[i]? = some s1) (h2 : env[j]? = some s2) (m1 : a ∈ s1.owned) (m2 : a ∈ s2.owned) : i = j := by
  obtain ⟨A, B, e1, e2⟩ := splitE h1
  rcases Nat.lt_trichotomy i j with h | h | h
  · exfalso
    obtain ⟨hi, rfl⟩ := List.getElem?_eq_some_iff.mp h1
    obtain ⟨hj, rfl⟩ := List.getElem?_eq_some_iff.mp h2
    have z : env = env.take j ++ env[j] :: env.drop (j + 1) := by rw [List.getElem_cons_drop, List.take_append_drop]
    have y : ownedE env = ownedE (env.take j) ++ (env[j].owned ++ ownedE (env.drop (j + 1))) := by
      have y := congrArg ownedE z
      rw [y]
      unfold ownedE
      rw [List.flatMap_append, List.flatMap_cons]
    rw [y, List.append_assoc] at nd
    have q := (List.nodup_append.mp nd).2.2
    refine q a (List.mem_flatMap.mpr ⟨env[i], ?_, m1⟩) a (List.mem_append_left _ (List.mem_append_left _ m2)) rfl
    exact List.mem_iff_getElem?.mpr ⟨i, by rw [List.getElem?_take_of_lt h]; exact List.getElem?_eq_getElem hi⟩
  · exact h
  · exfalso
    obtain ⟨hi, rfl⟩ := List.getElem?_eq_some_iff.mp h1
    obtain ⟨hj, rfl⟩ := List.getElem?_eq_some_iff.mp h2
    have z : env = env.take i ++ env[i] :: env.drop (i + 1) := by rw [List.getElem_cons_drop, List.take_append_drop]
    have y : ownedE env = ownedE (env.take i) ++ (env[i].owned ++ ownedE (env.drop (i + 1))) := by
      have y := congrArg ownedE z
      rw [y]
      unfold ownedE
      rw [List.flatMap_append, List.flatMap_cons]
    rw [y, List.append_assoc] at nd
    have q := (List.nodup_append.mp nd).2.2
    refine q a (List.mem_flatMap.mpr ⟨env[j], ?_, m2⟩) a (List.mem_append_left _ (List.mem_append_left _ m1)) rfl
    exact List.mem_iff_getElem?.mpr ⟨j, by rw [List.getElem?_take_of_lt h]; exact List.getElem?_eq_getElem hj⟩
theorem mem_ownedE {env : Env'} {i : Nat} {sl : Sl} {a : Addr} (h : env[i]? = some sl) (m : a ∈ sl.owned) : a ∈ ownedE env :=
  List.mem_flatMap.mpr ⟨sl, List.mem_iff_getElem?.mpr ⟨i, h⟩, m⟩
theorem SlOk.write {v : V} {a : Addr} {o : HO} : ∀ {sl : Sl}, a ∉ sl.owned → SlOk K F H v sl → SlOk K F (upd H a o) v sl
  | .un, _, _ => trivial
  | .ext _, _, h => h
  | .al _ _, _, h => h
  | .lst b ds, n, h => by
    obtain ⟨rfl, q, vs, hv, hr⟩ := h
    refine ⟨rfl, q, vs, ?_, hr⟩
    have nb : b ≠ a := fun z => n (by rw [z]; exact List.mem_singleton.mpr rfl)
    rw [upd_ne nb]
    exact hv
  | .ar _ _, _, h => h
  | .reg b cs, n, h => by
    obtain ⟨rd, nd, hc⟩ := h
    refine ⟨rd, nd, fun p hp => ?_⟩
    obtain ⟨q, o', ho, ok⟩ := hc p hp
    have nb : p.1 ≠ a := fun z => n (by rw [← z]; exact List.mem_map.mpr ⟨p, hp, rfl⟩)
    exact ⟨q, o', by rw [upd_ne nb]; exact ho, ok⟩
theorem Holds.write {i : Nat} {a : Addr} {ds ds' : List D} {vs' : List V} (h : Holds K e env T F σ H) (hi : env[i]? = some (.lst a ds)) (hr : Reps K F ds' vs') : Holds K e (env.set i (.lst a ds')) T F σ (upd H a (.lst vs')) := by
  obtain ⟨A, B, e1, e2⟩ := splitE hi
  have own : ownedE (env.set i (.lst a ds')) = ownedE env := by
    rw [e1, e2]
    rfl
  have ma : a ∈ ownedE env := mem_ownedE hi (List.mem_singleton.mpr rfl)
  have mm : a ∈ ownedE env ++ ownedT T := List.mem_append_left _ ma
  obtain ⟨Fn, _⟩ := h.ownedH a mm
  refine ⟨fun b o q => ?_, by rw [List.length_set]; exact h.len, fun j sl q => ?_, fun p hp => (h.temps p hp).write fun m => ?_, by rw [own]; exact h.nd, h.s1, fun b o q n => ?_, by rw [own]; exact h.s3⟩
  · have nb : b ≠ a := fun z => by
      rw [z, Fn] at q
      cases q
    rw [upd_ne nb]
    exact h.fh b o q
  · rw [List.getElem?_set] at q
    split at q
    · rename_i ij
      subst ij
      split at q
      · cases q
        right
        rcases h.slots i _ hi with z | ⟨v, hv, rfl, q1, _⟩
        · cases z
        · exact ⟨_, hv, rfl, q1, vs', upd_same, hr⟩
      · cases q
    · rename_i ij
      rcases h.slots j sl q with z | ⟨v, hv, ok⟩
      · exact .inl z
      · refine .inr ⟨v, hv, ok.write fun m => ij (owned_two h.nd hi q (List.mem_singleton.mpr rfl) m)⟩
  · exact (List.nodup_append.mp h.nd).2.2 a ma a (List.mem_flatMap.mpr ⟨p, hp, m⟩) rfl
  · have nb : b ≠ a := fun z => by
      subst z
      rcases h.s3 b mm with y | y
      · exact n y
      · rw [q] at y
        cases y
    rw [upd_ne nb]
    exact h.s2 b o q n
theorem Holds.writeT {v : V} {a : Addr} {ds ds' : List D} {vs' : List V} (h : Holds K e env ((v, .lst a ds) :: T) F σ H) (hr : Reps K F ds' vs') : Holds K e env ((v, .lst a ds') :: T) F σ (upd H a (.lst vs')) := by
  have mT : a ∈ ownedT ((v, Sl.lst a ds) :: T) := List.mem_append_left _ (List.mem_singleton.mpr rfl)
  have mm : a ∈ ownedE env ++ ownedT ((v, Sl.lst a ds) :: T) := List.mem_append_right _ mT
  obtain ⟨Fn, _⟩ := h.ownedH a mm
  have z3 := (List.nodup_append.mp h.nd).2.2
  have zT : ([a] ++ ownedT T).Nodup := (List.nodup_append.mp h.nd).2.1
  refine ⟨fun b o q => ?_, h.len, fun j sl q => ?_, fun p hp => ?_, h.nd, h.s1, fun b o q n => ?_, h.s3⟩
  · have nb : b ≠ a := fun z => by
      rw [z, Fn] at q
      cases q
    rw [upd_ne nb]
    exact h.fh b o q
  · rcases h.slots j sl q with z | ⟨w, hw, ok⟩
    · exact .inl z
    · exact .inr ⟨w, hw, ok.write fun m => z3 a (mem_ownedE q m) a mT rfl⟩
  · rcases List.mem_cons.mp hp with rfl | hp
    · obtain ⟨rfl, q1, _⟩ := h.temps (v, .lst a ds) List.mem_cons_self
      exact ⟨rfl, q1, vs', upd_same, hr⟩
    · refine (h.temps p (List.mem_cons_of_mem _ hp)).write fun m => ?_
      exact (List.nodup_append.mp zT).2.2 a (List.mem_singleton.mpr rfl) a (List.mem_flatMap.mpr ⟨p, hp, m⟩) rfl
  · have nb : b ≠ a := fun z => by
      subst z
      rcases h.s3 b mm with y | y
      · exact n y
      · rw [q] at y
        cases y
    rw [upd_ne nb]
    exact h.s2 b o q n
theorem SlOk.freeze {v : V} {a : Addr} {vs : List V} (hF : F a = none) : ∀ {sl : Sl}, a ∉ sl.owned → SlOk K F H v sl → SlOk K (upd F a (.lst vs)) H v sl := by
  have sm : Same F (upd F a (.lst vs)) := fun b o q => by
    rw [upd_ne (ne_of_none q hF)]
    exact q
  intro sl n h
  cases sl with
  | un => trivial
  | ext d => exact Rep.same sm h
  | al i b => exact h
  | lst b ds =>
    obtain ⟨rfl, q, us, hv, hr⟩ := h
    refine ⟨rfl, ?_, us, hv, hr.same sm⟩
    have nb : b ≠ a := fun z => n (by rw [z]; exact List.mem_singleton.mpr rfl)
    rw [upd_ne nb]
    exact q
  | ar i b => exact h
  | reg b cs =>
    obtain ⟨rd, nd, hc⟩ := h
    refine ⟨Rep.same sm rd, nd, fun p hp => ?_⟩
    obtain ⟨q, o', ho, ok⟩ := hc p hp
    have nb : p.1 ≠ a := fun z => n (by rw [← z]; exact List.mem_map.mpr ⟨p, hp, rfl⟩)
    exact ⟨by rw [upd_ne nb]; exact q, o', ho, ok.same sm⟩
theorem Holds.freezeT {v : V} {a : Addr} {ds : List D} (h : Holds K e env ((v, .lst a ds) :: T) F σ H) : ∃ F1, Same F F1 ∧ Holds K e env ((v, .ext (.lst ds)) :: T) F1 σ H := by
  have mT : a ∈ ownedT ((v, Sl.lst a ds) :: T) := List.mem_append_left _ (List.mem_singleton.mpr rfl)
  have mm : a ∈ ownedE env ++ ownedT ((v, Sl.lst a ds) :: T) := List.mem_append_right _ mT
  obtain ⟨rfl, hF, vs, hv, hr⟩ := h.temps (v, .lst a ds) List.mem_cons_self
  have z3 := (List.nodup_append.mp h.nd).2.2
  have zT : ([a] ++ ownedT T).Nodup := (List.nodup_append.mp h.nd).2.1
  have hF : F a = none := hF
  have sm : Same F (upd F a (.lst vs)) := fun b o q => by
    rw [upd_ne (ne_of_none q hF)]
    exact q
  have sub : (ownedE env ++ ownedT ((V.ref a, Sl.ext (.lst ds)) :: T)).Sublist (ownedE env ++ ownedT ((V.ref a, Sl.lst a ds) :: T)) :=
    (List.Sublist.refl _).append (List.sublist_append_right [a] (ownedT T))
  refine ⟨upd F a (.lst vs), sm, fun b o q => ?_, h.len, fun j sl q => ?_, fun p hp => ?_, h.nd.sublist sub, h.s1.trans sm, fun b o q n => ?_, fun b hb => h.s3 b (sub.subset hb)⟩
  · by_cases nb : b = a
    · rw [nb, upd_same] at q
      rw [nb, hv]
      exact q
    · rw [upd_ne nb] at q
      exact h.fh b o q
  · rcases h.slots j sl q with z | ⟨w, hw, ok⟩
    · exact .inl z
    · exact .inr ⟨w, hw, ok.freeze hF fun m => z3 a (mem_ownedE q m) a mT rfl⟩
  · rcases List.mem_cons.mp hp with rfl | hp
    · exact ⟨a, vs, rfl, upd_same, hr.same sm⟩
    · refine (h.temps p (List.mem_cons_of_mem _ hp)).freeze hF fun m => ?_
      exact (List.nodup_append.mp zT).2.2 a (List.mem_singleton.mpr rfl) a (List.mem_flatMap.mpr ⟨p, hp, m⟩) rfl
  · have nb : b ≠ a := fun z => by
      subst z
      rcases h.s3 b mm with y | y
      · exact n y
      · rw [q] at y
        cases y
    rw [upd_ne nb]
    exact h.s2 b o q n
theorem Holds.unset (h : Holds K e env T F σ H) (i : Nat) : Holds K e (env.set i .un) T F σ H := by
  by_cases hl : i < env.length
  · obtain ⟨A, B, e1, e2⟩ := splitE (List.getElem?_eq_getElem hl)
    have sub : (ownedE (env.set i .un) ++ ownedT T).Sublist (ownedE env ++ ownedT T) := by
      rw [e2, e1]
      exact ((List.Sublist.refl _).append (List.sublist_append_right _ _)).append (List.Sublist.refl _)
    refine ⟨h.fh, by rw [List.length_set]; exact h.len, fun j sl q => ?_, h.temps, h.nd.sublist sub, h.s1, h.s2, fun a ha => h.s3 a (sub.subset ha)⟩
    rw [List.getElem?_set] at q
    split at q
    · cases q
      exact .inl rfl
    · exact h.slots j sl q
  · rw [List.set_eq_of_length_le (by omega)]
    exact h
def Sl.plain : Sl → Prop
  | .al _ _ => False
  | .ar _ _ => False
  | _ => True
theorem Holds.assign {v : V} {sl : Sl} (h : Holds K e env ((v, sl) :: T) F σ H) (i : Nat) (hp : sl.plain) : Holds K e (env.set i sl) T F (σ.set i (some v)) H := by
  by_cases hl : i < env.length
  · obtain ⟨A, B, e1, e2⟩ := splitE (List.getElem?_eq_getElem hl)
    have sub : (A ++ B ++ (sl.owned ++ ownedT T)).Sublist (ownedE env ++ ownedT ((v, sl) :: T)) := by
      rw [e1]
      exact ((List.Sublist.refl _).append (List.sublist_append_right _ _)).append (List.Sublist.refl _)
    have perm : (A ++ B ++ (sl.owned ++ ownedT T)).Perm (ownedE (env.set i sl) ++ ownedT T) := by
      rw [e2, List.append_assoc, List.append_assoc]
      refine List.Perm.append_left A ?_
      rw [List.append_assoc, ← List.append_assoc, ← List.append_assoc]
      exact List.Perm.append_right _ List.perm_append_comm
    refine ⟨h.fh, by rw [List.length_set, List.length_set]; exact h.len, fun j s q => ?_, fun p hp => h.temps p (List.mem_cons_of_mem _ hp), perm.nodup (h.nd.sublist sub), h.s1, h.s2, fun a ha => h.s3 a (sub.subset (perm.mem_iff.mpr ha))⟩
    rw [List.getElem?_set] at q
    rw [List.getElem?_set]
    split at q
    · rename_i ij
      rw [if_pos ij, if_pos (by rw [← h.len]; exact hl)]
      cases q
      exact .inr ⟨v, rfl, h.temps (v, sl) List.mem_cons_self⟩
    · rename_i ij
      rw [if_neg ij]
      exact h.slots j s q
  · rw [List.set_eq_of_length_le (by omega), List.set_eq_of_length_le (by rw [← h.len]; omega)]
    exact h.pop
theorem Holds.take {i : Nat} {sl : Sl} {v : V} (h : Holds K e env T F σ H) (hi : env[i]? = some sl) (hv : σ[i]? = some (some v)) : Holds K e (env.set i .un) ((v, sl) :: T) F σ H := by
  obtain ⟨A, B, e1, e2⟩ := splitE hi
  have perm : (ownedE env ++ ownedT T).Perm (ownedE (env.set i .un) ++ ownedT ((v, sl) :: T)) := by
    rw [e1, e2]
    show (A ++ (sl.owned ++ B) ++ ownedT T).Perm (A ++ ([] ++ B) ++ (sl.owned ++ ownedT T))
    rw [List.append_assoc, List.append_assoc, List.nil_append, List.append_assoc]
    refine List.Perm.append_left A ?_
    rw [← List.append_assoc, ← List.append_assoc]
    exact List.Perm.append_right _ List.perm_append_comm
  refine ⟨h.fh, by rw [List.length_set]; exact h.len, (h.unset i).slots, fun p hp => ?_, perm.nodup h.nd, h.s1, h.s2, fun a ha => h.s3 a (perm.mem_iff.mpr ha)⟩
  rcases List.mem_cons.mp hp with rfl | hp
  · rcases h.slots i sl hi with z | ⟨w, hw, ok⟩
    · subst z
      trivial
    · rw [hv] at hw
      cases hw
      exact ok
  · exact h.temps p hp
theorem Holds.freeze {i : Nat} {a : Addr} {ds : List D} (h : Holds K e env T F σ H) (hi : env[i]? = some (.lst a ds)) : ∃ F1, Same F F1 ∧ Holds K e (env.set i (.ext (.lst ds))) T F1 σ H := by
  rcases h.slots i _ hi with z | ⟨v, hv, ok⟩
  · cases z
  · obtain ⟨F1, sm, h1⟩ := (h.take hi hv).freezeT
    have h2 := h1.assign i trivial
    rw [List.set_set] at h2
    have z : σ.set i (some v) = σ := by
      obtain ⟨hl, e⟩ := List.getElem?_eq_some_iff.mp hv
      rw [← e]
      exact List.set_getElem_self hl
    rw [z] at h2
    exact ⟨F1, sm, h2⟩
theorem Holds.bare (h : Holds K e env T F σ H) : Holds K e env [] F σ H := h.sub (List.nil_sublist _)
end
end HD
namespace HD
open PySem PySem.Spec PyProof.Rows L2
structure FnG (P : Program) (w : World) (K : PySem.W.Frag) (mg : Str → Option Value) (base : Heap) (C : CXT) (k : Nat) (f : Addr) (fd : FuncData) (ps : List Str) (sp : Sp) : Prop where
  fit : ∀ vs H Q E, sp vs H Q E → vs.length = ps.length
  go : ∀ (A : Around) (out : List Env) (t : Shared) (H : Hp) (args : Args) (us : List Value) (vs : List V) (Q : VK) (E : XK), A.guards = some [] → Room k A → Env0 P w K mg base A out t H → BindsTo t fd args (ps.zip us) → Vals vs us → sp vs H Q E →
    codeAny (model P w) A (.call (.ref f) args) (CR C out P w H t Q E) t
section
variable {P : Program} {w : World} {K : PySem.W.Frag} {mg : Str → Option Value} {base : Heap} {C : CXT} {k : Nat} {f : Addr} {fd : FuncData} {N ps : List Str} {sp : Sp} {x qual : Str} {st : Stmt}
theorem fnG_of (hF : Fun K x qual st f fd) (S : FnScope N ps (defScope st)) (fit : ∀ vs H Q E, sp vs H Q E → vs.length = ps.length)
    (body : ∀ (cd : Value) (A : Around) (out : List Env) (t : Shared) (H : Hp) (vs : List V) (Q : VK) (E : XK), A.guards = some [] → Room k (A.deeper (envOfC qual (defScope st) t.heap.objs.size f cd)) → sp vs H Q E →
      ∃ tt, PSs (cxOf C P w K mg base N qual (defScope st) f cd A out t H E) (defBody st) tt ∧ tt { nx := fun _ H' => Q .non H', rt := Q } (L2.start N vs) H) : FnG P w K mg base C (k + 1) f fd ps sp := by
  obtain ⟨oc, od, kV, doc, pm, an, cd, ct, osl, rfl, at_f, code⟩ := hF.ex
  refine ⟨fit, fun A out t H args us vs Q E gd room e0 bnd rel hsp => ?_⟩
  have inK : K.In t.heap := e0.mod.kin.keeps fun b o q => (e0.bs b o q).1
  have noLim : t.heap.NoLimit := e0.mod.nolimit.keeps fun b o q => (e0.bs b o q).1
  refine codeAny_call_function room.depth (inK _ _ at_f) rfl S.co S.gen rfl (PySem.W.codeRec_of inK code) (bnd _ _ _ _ ?_)
  refine wpAny_newFunctionEnv_cells S.kind (fun y hy => ?_) fun env he t1 call => ?_
  · obtain ⟨nm, v⟩ := y
    rcases S.par nm (List.of_mem_zip hy).1 with z | z
    · exact Or.inl z
    · exact Or.inr ⟨z, PySem.W.cellsFrom_some _ _ _ (.inl z)⟩
  · subst he
    refine ⟨noLim.keeps call.toInCall.keep, codeAny_func ?_⟩
    obtain ⟨tt, hb, hq⟩ := body cd A out t H vs Q E gd (room.deeper _) hsp
    have J : L2.Inv (cxOf C P w K mg base N qual (defScope st) f cd A out t H E) [] (L2.start N vs) H t1 := inv_start S room.hd e0 (fit _ _ _ _ hsp) rel call
    refine wpAny_mono (hb.run [] t1 (L2.start N vs) H _ J hq) (fun fl t2 h2 => ?_) fun e t2 h2 => h2
    cases fl with
    | ret u =>
      obtain ⟨v, σ2, H2, J2, rv, q⟩ := h2
      exact ⟨v, H2, J2.os, J2.bare, J2.base, J2.hok, rv, q⟩
    | next =>
      obtain ⟨σ2, H2, J2, q⟩ := h2
      exact ⟨V.non, H2, J2.os, J2.bare, J2.base, J2.hok, rfl, q⟩
    | brk => exact h2.elim fun _ z => z.elim fun _ z => z.2.elim
    | cont => exact h2.elim fun _ z => z.elim fun _ z => z.2.elim
end
section
variable {X : Cx} {C : CXT} {k : Nat} {f : Addr} {fd : FuncData} {ps : List Str} {sp : Sp} {E : L2.St → XK}
theorem runG {pins : List (Addr × Obj)} {σ : L2.St} {H : Hp} {t : Shared} {Q : VK} {us : List Value} {vs : List V} (F : FnG X.prog X.w X.K X.mg X.base C k f fd ps sp) (gd : X.A.guards = some []) (room : Room k X.A) (bnd : Binds X.K fd ps []) (pass : PassesAt C X σ (E σ))
    (J : L2.Inv X pins σ H t) (rel : Vals vs us) (h : sp vs H Q (E σ)) : wpAny (model X.prog X.w) X.A (call (.ref f) us) (EP X pins σ Q) X.xe t := by
  have l1 : us.length = ps.length := by rw [← rel.length]; exact F.fit _ _ _ _ h
  have b := bnd t us J.kIn (by rw [List.append_nil]; exact l1)
  rw [List.append_nil] at b
  refine wpAny_call (codeAny_mono (F.go X.A X.stack t H ⟨us, []⟩ us vs Q (E σ) gd room J.env0 b rel h) fun res t2 hres => ?_)
  cases res with
  | error e => exact pass pins H t e t2 J hres
  | ok fl =>
    cases fl with
    | ret u => exact J.after hres
    | next => exact hres.elim
    | brk => exact hres.elim
    | cont => exact hres.elim
end
theorem law_callG {P : Program} {w : World} {K : PySem.W.Frag} {mg mb : Str → Option Value} {C : CXT} {k : Nat} {fa a : Addr} {fd : FuncData} {x : Str} {sp : Sp} {t1 : Shared} {vs : List Value} {ns : List Int}
    (KX : K.In t1.heap) (hns : t1.heap.Ns mainGlobals mg) (hb : t1.heap.Ns builtinsNs mb) (hbb : ∀ y : Str, y ≠ "__name__" → mb y = bootBuiltins y) (lim : t1.heap.NoLimit) (hg : t1.gens = #[])
    (ha : t1.heap.get? a = some { cls := .type "list", data := .seq vs.toArray }) (hi : IntsAre vs ns) (hl : ns.length ≤ sizeLine) (room : Room k callerA)
    (F : ∀ base : Heap, K.In base → base.Ns mainGlobals mg → FnG P w K mg base C k fa fd [x] sp) (bnd : ∀ (s : Shared) (u : Value), BindsTo s fd ⟨[u], []⟩ [(x, u)])
    (hsp : ∀ H : Hp, L2.Only H → SqL K H a (ns.map V.int) → sp [.ref a] H (fun v _ => v = .bl true) fun _ _ _ => False)
    (noX : ∀ H e s', C [] H t1 (fun _ _ _ => False) e s' → False) :
    codeAny (model P w) callerA (.call (.ref fa) ⟨[.ref a], []⟩) (fun r s' => r = .ok (.ret (.bool true)) ∧ OldK t1.heap s'.heap ∧ s'.os = t1.os ∧ AllBare s'.gens) t1 := by
  have rv := vals_ints hi
  have lenV := hi.length
  have core : ∀ H : Hp, L2.Only H → SqL K H a (ns.map V.int) → HOk P w H t1.heap → (∀ b, H b ≠ none → b = a) → (H a ≠ none → K.lookup a = none) →
      codeAny (model P w) callerA (.call (.ref fa) ⟨[.ref a], []⟩) (fun r s' => r = .ok (.ret (.bool true)) ∧ OldK t1.heap s'.heap ∧ s'.os = t1.os ∧ AllBare s'.gens) t1 := by
    intro H only hS hok hA hK
    have up : ∀ {b : Addr} {o : Obj}, t1.heap.get? b = some o → H b = none → (hidT t1.heap H).get? b = some o := fun e n => hidT_get e n
    have notA : ∀ {b : Addr} {u : HO}, H b = some u → b = a := fun {b u} q => hA b (by rw [q]; simp)
    have dicts : ∀ {b : Addr} {o : Obj} {es : Array DictEntry} {ep : Nat}, t1.heap.get? b = some o → o.data = .dict es ep → H b = none := fun {b o es ep} e d => by
      cases q : H b with
      | none => rfl
      | some u =>
        have e1 := notA q
        subst e1
        rw [ha] at e
        cases e
        cases (show Data.seq vs.toArray _ = Data.dict es ep from d)
    have spaces : ∀ {b : Addr} {m : Str → Option Value}, t1.heap.Ns b m → (hidT t1.heap H).Ns b m := fun {b m} ⟨o, es, ep, e, d, r⟩ => ⟨o, es, ep, up e (dicts e d), d, r⟩
    have inB : K.In (hidT t1.heap H) := fun b o e => up (KX b o e) (by
      cases q : H b with
      | none => rfl
      | some u =>
        have e1 := notA q
        subst e1
        rw [hK (by rw [q]; simp)] at e
        cases e)
    have md : Mod K mg (hidT t1.heap H) := ⟨inB, spaces hns, ⟨mb, spaces hb, hbb⟩, let ⟨mc, h1, h2⟩ := lim; ⟨mc, spaces h1, h2⟩⟩
    have e0 : Env0 P w K mg (hidT t1.heap H) callerA [] t1 H := ⟨rfl, md, fun b o e => of_hidT e, Nat.le_of_eq (hidT_size _ _), True.intro, fun b hb => absurd (show b ∈ ([] : List Addr) from hb) (by simp), hok, .of_eq hg⟩
    refine codeAny_mono ((F _ inB (spaces hns)).go callerA [] t1 H ⟨[.ref a], []⟩ [.ref a] [.ref a] _ _ rfl room e0 (bnd t1 (.ref a)) (.cons rfl .nil) (hsp H only hS)) fun res t2 h => ?_
    cases res with
    | error e => exact (noX H e t2 h).elim
    | ok fl =>
      cases fl with
      | next => exact h.elim
      | brk => exact h.elim
      | cont => exact h.elim
      | ret u =>
        obtain ⟨v, H2, os, bare, un, hok2, r2, q⟩ := h
        cases (show v = .bl true from q)
        cases (show u = Value.bool true from r2)
        refine ⟨rfl, OldK.of_keep fun b o e => ?_, os, bare⟩
        cases q : H b with
        | none => exact un.keep b o e q (by intro z; exact absurd (show b ∈ ([] : List Addr) from z) (by simp)) (by simp)
        | some u =>
          rcases only b with z | ⟨ob, ys, z⟩
          · rw [q] at z; cases z
          · obtain ⟨y1, _⟩ := hok b _ z
            obtain ⟨y2, _⟩ := hok2 b _ (un.frzs b ob _ z)
            rw [e] at y1
            cases y1
            exact y2
  cases hk : K.lookup a with
  | some o =>
    have e := KX a o hk
    rw [ha] at e
    cases e
    exact core (fun _ => none) (fun _ => .inl rfl) (.inr ⟨_, vs.toArray, _, hk, rfl, rfl, rfl, by rw [List.size_toArray, lenV]; exact hl, by simpa using rv⟩) (fun b u z => by cases (show (none : Option HO) = some u from z)) (fun b z => absurd rfl z) fun z => absurd rfl z
  | none =>
    let o0 : Obj := { cls := .type "list", data := .seq vs.toArray }
    refine core (fun b => if b = a then some (.frz o0 (.lst (ns.map V.int))) else none) (fun b => ?_) (.inl (.inr ⟨o0, if_pos rfl⟩)) (fun b u z => ?_) (fun b z => ?_) fun _ => hk
    · by_cases q : b = a
      · exact .inr ⟨_, _, if_pos q⟩
      · exact .inl (if_neg q)
    · by_cases q : b = a
      · cases (if_pos q).symm.trans z
        subst q
        exact ⟨ha, by rw [List.length_map]; exact hl, vs, _, rv, ha⟩
      · cases (if_neg q).symm.trans z
    · by_cases q : b = a
      · exact q
      · exact absurd (if_neg q) z
end HD
namespace HD
open PySem L2
theorem ownedT_perm {T T' : Tmp} (p : T.Perm T') : (ownedT T).Perm (ownedT T') := by
  unfold ownedT
  induction p with
  | nil => exact .refl _
  | cons x _ ih => exact ih.append_left _
  | swap x y l =>
    rw [List.flatMap_cons, List.flatMap_cons, List.flatMap_cons, List.flatMap_cons, ← List.append_assoc, ← List.append_assoc]
    exact List.perm_append_comm.append_right _
  | trans _ _ i1 i2 => exact i1.trans i2
theorem Holds.perm {K : PySem.W.Frag} {e : Ent} {env : Env'} {T T' : Tmp} {F : Hp} {σ : St} {H : Hp} (h : Holds K e env T F σ H) (p : T.Perm T') : Holds K e env T' F σ H :=
  ⟨h.fh, h.len, h.slots, fun x hx => h.temps x (p.mem_iff.mpr hx), ((ownedT_perm p).append_left _).nodup h.nd, h.s1, h.s2, fun a ha => h.s3 a (((ownedT_perm p).append_left _).mem_iff.mpr ha)⟩
abbrev DX := Str → Env' → Prop
abbrev DT := DX → Env' → (Sl → Env' → Prop) → Prop
abbrev DTT := DX → Env' → (Bool → Env' → Prop) → Prop
abbrev DTA := DX → Env' → (List Sl → Env' → Prop) → Prop
def Link (K : PySem.W.Frag) (e : Ent) (W : WX) (Ex : DX) : Prop := ∀ c env F σ H, Holds K e env [] F σ H → Ex c env → W (clsV K c) none σ H
def Im (K : PySem.W.Frag) (W : WX) (te : TE) (t : DT) : Prop :=
  ∀ (e : Ent) (Ex : DX), Link K e W Ex → ∀ (env : Env') (T : Tmp) (F : Hp) (σ : St) (H : Hp) (Q : Sl → Env' → Prop) (R : VK),
    Holds K e env T F σ H → t Ex env Q → (∀ v H' F' env' sl, Holds K e env' ((v, sl) :: T) F' σ H' → Q sl env' → R v H') → te σ H R
def ImT (K : PySem.W.Frag) (W : WX) (tt : TT) (t : DTT) : Prop :=
  ∀ (e : Ent) (Ex : DX), Link K e W Ex → ∀ (env : Env') (T : Tmp) (F : Hp) (σ : St) (H : Hp) (Q : Bool → Env' → Prop) (R : Bool → Hp → Prop),
    Holds K e env T F σ H → t Ex env Q → (∀ b H' F' env', Holds K e env' T F' σ H' → Q b env' → R b H') → tt σ H R
def ImA (K : PySem.W.Frag) (W : WX) (ta : TA) (t : DTA) : Prop :=
  ∀ (e : Ent) (Ex : DX), Link K e W Ex → ∀ (env : Env') (T : Tmp) (F : Hp) (σ : St) (H : Hp) (Q : List Sl → Env' → Prop) (R : List V → Hp → Prop),
    Holds K e env T F σ H → t Ex env Q → (∀ vs H' F' env' xs, vs.length = xs.length → Holds K e env' (vs.zip xs ++ T) F' σ H' → Q xs env' → R vs H') → ta σ H R
structure GG where
  P : Program
  w : World
  K : PySem.W.Frag
  mg : Str → Option Value
  base : Heap
structure SC where
  sc : Scope
  own : Str → Bool
  top : Bool
abbrev fnS (sc : Scope) : SC := ⟨sc, fun _ => true, true⟩
def relab (scope sc : Scope) : Scope :=
  { scope with names := scope.names.map fun (n, k) => if (k == .free && sc.kind == .function && sc.names.lookup n == some .cell) then (n, .cell) else (n, k) }
abbrev lcS (scope : Scope) (sc : SC) : SC := ⟨relab scope sc.sc, fun x => scope.names.lookup x == some .cell, false⟩
structure Sit (G : GG) (N : List Str) (sc : SC) (W : WX) (k : Nat) (X : Cx) : Prop where
  prog : X.prog = G.P
  w : X.w = G.w
  K : X.K = G.K
  mg : X.mg = G.mg
  base : X.base = G.base
  nms : X.N = N
  nd : N.Nodup
  scp : X.env.scope = sc.sc
  calm : X.calm = true
  room : Room k X.A
  tk : Takes X W
  fn : ∀ x, sc.own x = true → X.fn x = true
  own : PassesOwn (model X.prog X.w) X.A X.env X.xe
  stk : sc.top = true → X.stack = X.env :: X.outer ∧ X.env.frame = some X.env.locals
  gd : X.A.guards = some []
structure DE (G : GG) (N : List Str) (sc : SC) (k : Nat) (e : Expr) (t : DT) : Prop where
  ex : ∀ W : WX, ∃ te, (∀ X, Sit G N sc W k X → PE X e te) ∧ Im G.K W te t
structure DTe (G : GG) (N : List Str) (sc : SC) (k : Nat) (e : Expr) (t : DTT) : Prop where
  ex : ∀ W : WX, ∃ te, (∀ X, Sit G N sc W k X → PT X e te) ∧ ImT G.K W te t
structure DAs (G : GG) (N : List Str) (sc : SC) (k : Nat) (es : List Expr) (t : DTA) : Prop where
  ex : ∀ W : WX, ∃ te, (∀ X, Sit G N sc W k X → PA X es te) ∧ ImA G.K W te t
section
variable {G : GG} {N : List Str} {sc : SC} {k : Nat}
def dC (d : D) : DT := fun _ env Q => Q (.ext d) env
def dVar (i : Nat) : DT := fun _ env Q => match env[i]? with
  | some (.ext d) => Q (.ext d) env
  | some (.lst a _) => Q (.al i a) env
  | _ => False
theorem im_const {K : PySem.W.Frag} {W : WX} {v : V} {d : D} (h : ∀ F, Rep K F d v) : Im K W (tC v) (dC d) :=
  fun e Ex _ env T F σ H Q R hh ht hR => hR v H F env (.ext d) (hh.pushE (h F)) ht
theorem im_var {K : PySem.W.Frag} {W : WX} (i : Nat) : Im K W (tVar i) (dVar i) := fun e Ex _ env T F σ H Q R hh ht hR => by
  unfold dVar at ht
  split at ht
  · rename_i d q
    rcases hh.slots i _ q with z | ⟨v, hv, ok⟩
    · cases z
    · exact ⟨v, hv, hR v H F env (.ext d) (hh.pushE ok) ht⟩
  · rename_i a ds q
    rcases hh.slots i _ q with z | ⟨v, hv, ok⟩
    · cases z
    · obtain ⟨rfl, _⟩ := ok
      exact ⟨_, hv, hR _ H F env (.al i a) hh.pushA ht⟩
  · exact ht.elim
theorem Sit.vis {W : WX} {X : Cx} {x : Str} (S : Sit G N sc W k X) (h : Vis sc.sc x) : Vis X.env.scope x := by rw [S.scp]; exact h
theorem de_var (i : Nat) {x : Str} {pos : Pos} (hN : N[i]? = some x := by rfl) (hv : Vis sc.sc x := by first | exact Or.inl rfl | exact Or.inr (Or.inl rfl) | exact Or.inr (Or.inr rfl))
    (hd : (x == ("__debug__" : Str)) = false := by decide) (hcd : (x == ("__classdict__" : Str)) = false := by decide) : DE G N sc k (.Name x pos) (dVar i) :=
  ⟨fun W => ⟨tVar i, fun X S => pe_var (by rw [S.nms]; exact hN) (S.vis hv) hd hcd, im_var i⟩⟩
theorem de_int {i j pos} : DE G N sc k (.Constant (.int i) j pos) (dC (.int i)) := ⟨fun _ => ⟨_, fun _ _ => pe_int, im_const fun _ => rfl⟩⟩
theorem de_bl {i j pos} : DE G N sc k (.Constant (.bool i) j pos) (dC (.bl i)) := ⟨fun _ => ⟨_, fun _ _ => pe_bl, im_const fun _ => rfl⟩⟩
theorem de_non {j pos} : DE G N sc k (.Constant .none j pos) (dC .non) := ⟨fun _ => ⟨_, fun _ _ => pe_non, im_const fun _ => rfl⟩⟩
theorem de_str {i j pos} : DE G N sc k (.Constant (.str i) j pos) (dC (.str i)) := ⟨fun _ => ⟨_, fun _ _ => pe_str, im_const fun _ => rfl⟩⟩
def GlS (sc : SC) (x : Str) : Prop := sc.sc.names.lookup x = some .globalImplicit
theorem Sit.gl {W : WX} {X : Cx} {x : Str} (S : Sit G N sc W k X) (h : GlS sc x) : Gl X x := by
  show X.env.scope.names.lookup x = some .globalImplicit
  rw [S.scp]
  exact h
theorem de_bltn {x : Str} {v : V} {u : Value} {pos : Pos} (hg : GlS sc x) (hm : G.mg x = none) (hv : bootBuiltins x = some u) (r : RelV v u) (hn : x ≠ "__name__" := by decide) (hd : (x == ("__debug__" : Str)) = false := by decide) : DE G N sc k (.Name x pos) (dC (.val v)) :=
  ⟨fun _ => ⟨tC v, fun X S => pe_bltn (S.gl hg) (by rw [S.mg]; exact hm) hv r hn hd, im_const fun _ => rfl⟩⟩
def dNil : DTA := fun _ env Q => Q [] env
def dCons (t : DT) (u : DTA) : DTA := fun Ex env Q => t Ex env fun x env1 => u Ex env1 fun xs env2 => Q (x :: xs) env2
theorem im_nil {K : PySem.W.Frag} {W : WX} : ImA K W tNil dNil := fun e Ex _ env T F σ H Q R hh ht hR => hR [] H F env [] rfl hh ht
theorem im_cons {K : PySem.W.Frag} {W : WX} {te : TE} {ta : TA} {t : DT} {u : DTA} (h1 : Im K W te t) (h2 : ImA K W ta u) : ImA K W (tCons te ta) (dCons t u) := fun e Ex hl env T F σ H Q R hh ht hR => by
  refine h1 e Ex hl env T F σ H _ _ hh ht fun v H1 F1 env1 sl hh1 q1 => ?_
  refine h2 e Ex hl env1 _ F1 σ H1 _ _ hh1 q1 fun vs H2 F2 env2 xs le hh2 q2 => ?_
  exact hR (v :: vs) H2 F2 env2 (sl :: xs) (by rw [List.length_cons, List.length_cons, le]) (hh2.perm List.perm_middle) q2
theorem da_nil : DAs G N sc k [] dNil := ⟨fun _ => ⟨tNil, fun _ _ => pa_nil, im_nil⟩⟩
abbrev NoStar (e : Expr) (es : List Expr) : Prop := ∀ env, starEach (e :: es) env = (false, eval e env) :: starEach es env
theorem da_cons {e : Expr} {es : List Expr} {t : DT} {u : DTA} (h1 : DE G N sc k e t) (h2 : DAs G N sc k es u) (hs : NoStar e es := by intro _; rfl) : DAs G N sc k (e :: es) (dCons t u) :=
  ⟨fun W => by
    obtain ⟨te, p1, i1⟩ := h1.ex W
    obtain ⟨ta, p2, i2⟩ := h2.ex W
    exact ⟨tCons te ta, fun X S => pa_cons (p1 X S) (p2 X S) (hs _), im_cons i1 i2⟩⟩
theorem cellOf_mem : ∀ {cs : List (Addr × OC)} {b : Addr} {oc : OC}, cellOf cs b = some oc → (b, oc) ∈ cs
  | [], _, _, h => nomatch h
  | p :: r, b, oc, h => by
    unfold cellOf at h
    split at h
    · rename_i e
      cases h
      rw [← e]
      exact List.mem_cons_self
    · exact List.mem_cons_of_mem _ (cellOf_mem h)
theorem Holds.cell {K : PySem.W.Frag} {e : Ent} {env : Env'} {T : Tmp} {F : Hp} {σ : St} {H : Hp} {i : Nat} {d : D} {cs : List (Addr × OC)} {b : Addr} {oc : OC} (h : Holds K e env T F σ H) (hi : env[i]? = some (.reg d cs)) (hc : cellOf cs b = some oc) : F b = none ∧ ∃ o, H b = some o ∧ OC.ok K F b oc o := by
  rcases h.slots i _ hi with z | ⟨v, _, _, _, ok⟩
  · cases z
  · exact ok (b, oc) (cellOf_mem hc)
def RepT (K : PySem.W.Frag) (F H : Hp) (d : D) (v : V) : Prop := Rep K F d v ∨ ∃ a ds vs, d = .lst ds ∧ v = .ref a ∧ H a = some (.lst vs) ∧ Reps K F ds vs
def RepTs (K : PySem.W.Frag) (F H : Hp) : List D → List V → Prop
  | [], vs => vs = []
  | d :: ds, vs => ∃ v r, vs = v :: r ∧ RepT K F H d v ∧ RepTs K F H ds r
def wd (env : Env') (sl : Sl) (k : D → Prop) : Prop := match sl with
  | .ext d => k d
  | .lst _ ds => k (.lst ds)
  | .al i a => match env[i]? with
    | some (.lst b ds) => b = a ∧ k (.lst ds)
    | _ => False
  | .un => False
  | .reg _ _ => False
  | .ar i b => match env[i]? with
    | some (.reg _ cs) => match cellOf cs b with
      | some (.lst ds) => k (.lst ds)
      | _ => False
    | _ => False
def wds (env : Env') : List Sl → (List D → Prop) → Prop
  | [], k => k []
  | s :: ss, k => wd env s fun d => wds env ss fun ds => k (d :: ds)
theorem Holds.wd {K : PySem.W.Frag} {e : Ent} {env : Env'} {T : Tmp} {F : Hp} {σ : St} {H : Hp} {v : V} {sl : Sl} {q : D → Prop} (h : Holds K e env T F σ H) (m : (v, sl) ∈ T) (w : HD.wd env sl q) : ∃ d, RepT K F H d v ∧ q d := by
  have ok := h.temps _ m
  cases sl with
  | un => exact w.elim
  | reg _ _ => exact w.elim
  | ar i b =>
    have w' : (match env[i]? with | some (.reg _ cs) => (match cellOf cs b with | some (.lst ds) => q (.lst ds) | _ => False) | _ => False) := w
    split at w'
    · rename_i d cs hb
      split at w'
      · rename_i ds hc
        obtain ⟨_, o, ho, vs, rfl, hr⟩ := h.cell hb hc
        exact ⟨.lst ds, .inr ⟨b, ds, vs, rfl, ok, ho, hr⟩, w'⟩
      · exact w'.elim
    · exact w'.elim
  | ext d => exact ⟨d, .inl ok, w⟩
  | lst a ds =>
    obtain ⟨e1, _, vs, hv, hr⟩ := ok
    exact ⟨.lst ds, .inr ⟨a, ds, vs, rfl, e1, hv, hr⟩, w⟩
  | al i a =>
    have w' : (match env[i]? with | some (.lst b ds) => b = a ∧ q (.lst ds) | _ => False) := w
    split at w'
    · rename_i b ds hb
      obtain ⟨rfl, w'⟩ := w'
      rcases h.slots i _ hb with z | ⟨u, hu, e1, _, vs, hv, hr⟩
      · cases z
      · exact ⟨.lst ds, .inr ⟨b, ds, vs, rfl, ok, hv, hr⟩, w'⟩
    · exact w'.elim
theorem Holds.wds {K : PySem.W.Frag} {e : Ent} {env : Env'} {T : Tmp} {F : Hp} {σ : St} {H : Hp} (h : Holds K e env T F σ H) : ∀ {vs : List V} {xs : List Sl} {q : List D → Prop}, vs.length = xs.length → (∀ p ∈ vs.zip xs, p ∈ T) → HD.wds env xs q → ∃ ds, RepTs K F H ds vs ∧ q ds
  | [], [], q, _, _, w => ⟨[], rfl, w⟩
  | [], _ :: _, _, e, _, _ => by cases e
  | _ :: _, [], _, e, _, _ => by cases e
  | v :: vs, x :: xs, q, e, m, w => by
    obtain ⟨d, r1, w1⟩ := h.wd (m (v, x) List.mem_cons_self) w
    obtain ⟨ds, r2, w2⟩ := Holds.wds h (by simpa using e) (fun p hp => m p (List.mem_cons_of_mem _ hp)) w1
    exact ⟨d :: ds, ⟨v, vs, rfl, r1, r2⟩, w2⟩
section
variable {K : PySem.W.Frag} {F H : Hp} {v : V}
theorem RepT.int {i : Int} (h : RepT K F H (.int i) v) : v = .int i := by
  rcases h with h | ⟨_, _, _, z, _⟩
  · exact h
  · cases z
theorem RepT.str {x : Str} (h : RepT K F H (.str x) v) : v = .str x := by
  rcases h with h | ⟨_, _, _, z, _⟩
  · exact h
  · cases z
theorem RepT.bl {x : Bool} (h : RepT K F H (.bl x) v) : v = .bl x := by
  rcases h with h | ⟨_, _, _, z, _⟩
  · exact h
  · cases z
theorem RepT.non (h : RepT K F H .non v) : v = .non := by
  rcases h with h | ⟨_, _, _, z, _⟩
  · exact h
  · cases z
theorem RepT.val {x : V} (h : RepT K F H (.val x) v) : v = x := by
  rcases h with h | ⟨_, _, _, z, _⟩
  · exact h
  · cases z
theorem RepT.tup {ds : List D} (fh : Same F H) (h : RepT K F H (.tup ds) v) : ∃ a vs, v = .ref a ∧ SqT K H a vs ∧ TupD K F a vs ∧ Reps K F ds vs := by
  rcases h with ⟨a, vs, e, hs, hr⟩ | ⟨_, _, _, z, _⟩
  · exact ⟨a, vs, e, SqT.same fh hs.sq, hs, hr⟩
  · cases z
theorem RepT.tk {ds : List D} (fh : Same F H) (h : RepT K F H (.tk ds) v) : ∃ a vs, v = .ref a ∧ SqT K H a vs ∧ SqT K F a vs ∧ Reps K F ds vs := by
  rcases h with ⟨a, vs, e, hs, hr⟩ | ⟨_, _, _, z, _⟩
  · exact ⟨a, vs, e, SqT.same fh hs, hs, hr⟩
  · cases z
theorem RepT.lst {ds : List D} (fh : Same F H) (h : RepT K F H (.lst ds) v) : ∃ a vs, v = .ref a ∧ H a = some (.lst vs) ∧ Reps K F ds vs := by
  rcases h with ⟨a, vs, e, hs, hr⟩ | ⟨a, ds', vs, z, e, hs, hr⟩
  · exact ⟨a, vs, e, fh _ _ hs, hr⟩
  · cases z
    exact ⟨a, vs, e, hs, hr⟩
theorem RepT.fz {ds : List D} (fh : Same F H) (h : RepT K F H (.fz ds) v) : ∃ a vs, v = .ref a ∧ SqL K H a vs ∧ Reps K F ds vs := by
  rcases h with ⟨a, vs, e, hs, hr⟩ | ⟨a, ds', vs, z, e, hs, hr⟩
  · exact ⟨a, vs, e, fh.seq hs, hr⟩
  · cases z
theorem RepT.rep {d : D} (fh : Same F H) (h : RepT K F H d v) : Rep K H d v := by
  rcases h with h | ⟨a, ds, vs, rfl, rfl, hs, hr⟩
  · exact Rep.same fh h
  · exact ⟨a, vs, rfl, hs, hr.same fh⟩
theorem RepTs.one {d : D} {vs : List V} (h : RepTs K F H [d] vs) : ∃ v, vs = [v] ∧ RepT K F H d v := by
  obtain ⟨v, r, rfl, h1, h2⟩ := h
  have z : r = [] := h2
  exact ⟨v, by rw [z], h1⟩
theorem RepTs.two {d d' : D} {vs : List V} (h : RepTs K F H [d, d'] vs) : ∃ v v', vs = [v, v'] ∧ RepT K F H d v ∧ RepT K F H d' v' := by
  obtain ⟨v, r, rfl, h1, h2⟩ := h
  obtain ⟨v', e, h3⟩ := RepTs.one h2
  exact ⟨v, v', by rw [e], h1, h3⟩
end
def After (K : PySem.W.Frag) (F H : Hp) (Q : Sl → Prop) (R : VK) : Prop :=
  ∀ v F1 H1 sl, Grow F H F1 H1 → SlOk K F1 H1 v sl → (∀ a ∈ sl.owned, H a = none) → Q sl → R v H1
def Pr (K : PySem.W.Frag) (r : List V → Hp → VK → Prop) (f : List D → (Sl → Prop) → Prop) : Prop :=
  ∀ F H vs ds (Q : Sl → Prop) (R : VK), Same F H → RepTs K F H ds vs → f ds Q → After K F H Q R → r vs H R
def Pr2 (K : PySem.W.Frag) (r : R2) (f : D → D → (Sl → Prop) → Prop) : Prop :=
  ∀ F H v u d d' (Q : Sl → Prop) (R : VK), Same F H → RepT K F H d v → RepT K F H d' u → f d d' Q → After K F H Q R → r v u H R
section
variable {K : PySem.W.Frag} {F H : Hp} {Q : Sl → Prop} {R : VK}
theorem After.ext (h : After K F H Q R) (fh : Same F H) {v : V} {d : D} (r : Rep K F d v) (q : Q (.ext d)) : R v H := h v F H (.ext d) (Grow.refl fh) r (fun _ z => nomatch z) q
theorem After.int (h : After K F H Q R) (fh : Same F H) {i : Int} (q : Q (.ext (.int i))) : R (.int i) H := h.ext (d := .int i) fh rfl q
theorem After.bl (h : After K F H Q R) (fh : Same F H) {i : Bool} (q : Q (.ext (.bl i))) : R (.bl i) H := h.ext (d := .bl i) fh rfl q
theorem After.str (h : After K F H Q R) (fh : Same F H) {i : Str} (q : Q (.ext (.str i))) : R (.str i) H := h.ext (d := .str i) fh rfl q
theorem After.lst (h : After K F H Q R) (fh : Same F H) {p : Addr} {ds : List D} {vs : List V} (n : H p = none) (r : Reps K F ds vs) (q : Q (.lst p ds)) : R (.ref p) (upd H p (.lst vs)) :=
  h _ F _ (.lst p ds) (Grow.loose fh n) ⟨rfl, fh.free n, vs, upd_same, r⟩ (fun a z => by rw [List.mem_singleton.mp z]; exact n) q
theorem After.tup (h : After K F H Q R) (fh : Same F H) {ds : List D} {vs : List V} (r : Reps K F ds vs) (q : Q (.ext (.tup ds))) : newT H vs R := fun p o n d =>
  h _ (upd F p (.frz o (.tup vs))) _ (.ext (.tup ds)) (Grow.frozen fh n) ⟨p, vs, rfl, .inl ⟨o, upd_same, d⟩, r.same (Grow.frozen fh n).ff⟩ (fun _ z => nomatch z) q
theorem After.more (h : After K F H Q R) {p : Addr} {o : HO} (fh : Same F H) (n : H p = none) : After K F (upd H p o) Q R := fun v F1 H1 sl g ok own q =>
  h v F1 H1 sl ((Grow.loose fh n).trans g) ok (fun a ha => (Grow.loose fh n).hh.free (own a ha)) q
end
theorem Holds.done {K : PySem.W.Frag} {e : Ent} {env : Env'} {T : Tmp} {F : Hp} {σ : St} {H : Hp} {Q : Sl → Env' → Prop} {R : VK} (h : Holds K e env T F σ H) (hR : ∀ v H' F' env' sl, Holds K e env' ((v, sl) :: T) F' σ H' → Q sl env' → R v H') : After K F H (fun sl => Q sl env) R :=
  fun v F1 H1 sl g ok own q => hR v H1 F1 env sl (h.push g ok own) q
def dOp (f : D → D → (Sl → Prop) → Prop) (ta tb : DT) : DT := fun Ex env Q => ta Ex env fun x env1 => tb Ex env1 fun y env2 => wd env2 x fun d => wd env2 y fun d' => f d d' fun sl => Q sl env2
theorem im_op {K : PySem.W.Frag} {W : WX} {r : R2} {f : D → D → (Sl → Prop) → Prop} {ta tb : TE} {sa sb : DT} (hr : Pr2 K r f) (ha : Im K W ta sa) (hb : Im K W tb sb) : Im K W (tOp r ta tb) (dOp f sa sb) := fun e Ex hl env T F σ H Q R hh ht hR => by
  refine ha e Ex hl env T F σ H _ _ hh ht fun v H1 F1 env1 x hh1 q1 => ?_
  refine hb e Ex hl env1 _ F1 σ H1 _ _ hh1 q1 fun u H2 F2 env2 y hh2 q2 => ?_
  obtain ⟨d, rd, q3⟩ := hh2.wd (v := v) (sl := x) (List.mem_cons_of_mem _ List.mem_cons_self) q2
  obtain ⟨d', rd', q4⟩ := hh2.wd (v := u) (sl := y) List.mem_cons_self q3
  exact hr F2 H2 v u d d' _ R hh2.fh rd rd' q4 (hh2.pop.pop.done hR)
theorem Sit.units {W : WX} {X : Cx} (S : Sit G N sc W k X) : X.A.units + 64 < cLine := S.room.units
end
end HD
namespace HD
open PySem L2
def fAdd : D → D → (Sl → Prop) → Prop
  | .int i, .int j, Q => Q (.ext (.int (i + j)))
  | .str x, .str y, Q => x.length + y.length ≤ sizeLine ∧ Q (.ext (.str (x ++ y)))
  | .lst xs, .lst ys, Q => xs.length + ys.length ≤ sizeLine ∧ ∀ a, Q (.lst a (xs ++ ys))
  | .tup xs, .tup ys, Q => xs.length + ys.length ≤ sizeLine ∧ Q (.ext (.tup (xs ++ ys)))
  | _, _, _ => False
def rAddD (K : PySem.W.Frag) : R2 := fun x y H Q => (rI0 fun i j => .int (i + j)) x y H Q ∨ (∃ i j, x = .str i ∧ y = .str j ∧ i.length + j.length ≤ sizeLine ∧ Q (.str (i ++ j)) H) ∨ rCat x y H Q ∨ rCatF K x y H Q
theorem op_addD {X : Cx} : OpR X (binaryOp .Add) (rAddD X.K) := op_add.or (op_add_str.or (op_cat.or op_catF))
theorem pr_add {K : PySem.W.Frag} : Pr2 K (rAddD K) fAdd := fun F H v u d d' Q R fh h1 h2 hf ha => by
  unfold fAdd at hf
  split at hf
  · exact .inl ⟨_, _, h1.int, h2.int, ha.int fh hf⟩
  · exact .inr (.inl ⟨_, _, h1.str, h2.str, hf.1, ha.str fh hf.2⟩)
  · obtain ⟨a, vs, rfl, e1, r1⟩ := h1.lst fh
    obtain ⟨b, us, rfl, e2, r2⟩ := h2.lst fh
    exact .inr (.inr (.inl ⟨a, b, vs, us, rfl, rfl, e1, e2, by rw [← r1.length, ← r2.length]; exact hf.1, fun p n => ha.lst fh n (r1.append r2) (hf.2 p)⟩))
  · obtain ⟨a, vs, rfl, e1, e1', r1⟩ := h1.tup fh
    obtain ⟨b, us, rfl, e2, e2', r2⟩ := h2.tup fh
    refine .inr (.inr (.inr ⟨a, b, vs, us, rfl, rfl, e1, e2, by rw [← r1.length, ← r2.length]; exact hf.1, fun z => ?_, fun _ z => ?_, fun _ _ => ha.tup fh (r1.append r2) hf.2⟩))
    · refine ha.ext (d := .tup _) fh ⟨b, us, rfl, e2', ?_⟩ hf.2
      have q := r1.append r2
      rw [z] at q
      exact q
    · refine ha.ext (d := .tup _) fh ⟨a, vs, rfl, e1', ?_⟩ hf.2
      have q := r1.append r2
      rw [z, List.append_nil] at q
      exact q
  · exact hf.elim
def fSub : D → D → (Sl → Prop) → Prop
  | .int i, .int j, Q => Q (.ext (.int (i - j)))
  | _, _, _ => False
theorem pr_sub {K : PySem.W.Frag} : Pr2 K (rI0 fun i j => .int (i - j)) fSub := fun F H v u d d' Q R fh h1 h2 hf ha => by
  unfold fSub at hf
  split at hf
  · exact ⟨_, _, h1.int, h2.int, ha.int fh hf⟩
  · exact hf.elim
def fMul : D → D → (Sl → Prop) → Prop
  | .int i, .int j, Q => CMulW i j ∧ Q (.ext (.int (i * j)))
  | .lst xs, .int k, Q => k < 2 ^ 63 ∧ 0 ≤ k ∧ xs.length * k.toNat ≤ sizeLine ∧ ∀ a, Q (.lst a (List.replicate k.toNat xs).flatten)
  | _, _, _ => False
theorem Reps.rep {K : PySem.W.Frag} {F : Hp} {ds : List D} {vs : List V} (h : Reps K F ds vs) : ∀ k : Nat, Reps K F (List.replicate k ds).flatten (List.replicate k vs).flatten
  | 0 => rfl
  | k + 1 => by
    rw [List.replicate_succ, List.replicate_succ, List.flatten_cons, List.flatten_cons]
    exact h.append (Reps.rep h k)
theorem pr_mul {K : PySem.W.Frag} : Pr2 K (fun x y H Q => (rI CMulW fun i j => .int (i * j)) x y H Q ∨ rRep x y H Q) fMul := fun F H v u d d' Q R fh h1 h2 hf ha => by
  unfold fMul at hf
  split at hf
  · exact .inl ⟨_, _, h1.int, h2.int, hf.1, ha.int fh hf.2⟩
  · obtain ⟨a, vs, rfl, e1, r1⟩ := h1.lst fh
    obtain ⟨hf1, hf0, hf2, hf3⟩ := hf
    exact .inr ⟨a, _, vs, rfl, h2.int, e1, Int.le_trans (by decide) hf0, hf1, by rw [← r1.length]; exact hf2, fun p n => ha.lst fh n (r1.rep _) (hf3 p)⟩
  · exact hf.elim
theorem op_mulD {X : Cx} : OpR X (binaryOp .Mult) (fun x y H Q => (rI CMulW fun i j => .int (i * j)) x y H Q ∨ rRep x y H Q) := op_mulW.or op_rep
def fDiv : D → D → (Sl → Prop) → Prop
  | .int i, .int j, Q => CDivW i j ∧ Q (.ext (.int (i / j)))
  | _, _, _ => False
theorem pr_div {K : PySem.W.Frag} : Pr2 K (rI CDivW fun i j => .int (i / j)) fDiv := fun F H v u d d' Q R fh h1 h2 hf ha => by
  unfold fDiv at hf
  split at hf
  · exact ⟨_, _, h1.int, h2.int, hf.1, ha.int fh hf.2⟩
  · exact hf.elim
def fMod : D → D → (Sl → Prop) → Prop
  | .int i, .int j, Q => 0 < j ∧ Q (.ext (.int (i % j)))
  | _, _, _ => False
theorem pr_mod {K : PySem.W.Frag} : Pr2 K (rI (fun _ j => 0 < j) fun i j => .int (i % j)) fMod := fun F H v u d d' Q R fh h1 h2 hf ha => by
  unfold fMod at hf
  split at hf
  · exact ⟨_, _, h1.int, h2.int, hf.1, ha.int fh hf.2⟩
  · exact hf.elim
def fPow : D → D → (Sl → Prop) → Prop
  | .int i, .int j, Q => CPow i j ∧ Q (.ext (.int (i ^ j.toNat)))
  | _, _, _ => False
theorem pr_pow {K : PySem.W.Frag} : Pr2 K (rI CPow fun i j => .int (i ^ j.toNat)) fPow := fun F H v u d d' Q R fh h1 h2 hf ha => by
  unfold fPow at hf
  split at hf
  · exact ⟨_, _, h1.int, h2.int, hf.1, ha.int fh hf.2⟩
  · exact hf.elim
section
variable {G : GG} {N : List Str} {sc : SC} {k : Nat} {a b : Expr} {ta tb : DT} {pos : Pos}
theorem de_bin {op : Operator} {r : PySem.W.Frag → R2} {f : D → D → (Sl → Prop) → Prop} (hr : ∀ K, Pr2 K (r K) f) (ho : ∀ X : Cx, OpR X (binaryOp op) (r X.K)) (ha : DE G N sc k a ta) (hb : DE G N sc k b tb) : DE G N sc k (.BinOp a op b pos) (dOp f ta tb) :=
  ⟨fun W => by
    obtain ⟨te, p1, i1⟩ := ha.ex W
    obtain ⟨tf, p2, i2⟩ := hb.ex W
    exact ⟨tOp (r G.K) te tf, fun X S => pe_op (by rw [← S.K]; exact ho X) (p1 X S) (p2 X S), im_op (hr _) i1 i2⟩⟩
theorem de_add (ha : DE G N sc k a ta) (hb : DE G N sc k b tb) : DE G N sc k (.BinOp a .Add b pos) (dOp fAdd ta tb) := de_bin (r := rAddD) (fun _ => pr_add) (fun _ => op_addD) ha hb
theorem de_sub (ha : DE G N sc k a ta) (hb : DE G N sc k b tb) : DE G N sc k (.BinOp a .Sub b pos) (dOp fSub ta tb) := de_bin (r := fun _ => _) (fun _ => pr_sub) (fun _ => op_sub) ha hb
theorem de_mul (ha : DE G N sc k a ta) (hb : DE G N sc k b tb) : DE G N sc k (.BinOp a .Mult b pos) (dOp fMul ta tb) := de_bin (r := fun _ => _) (fun _ => pr_mul) (fun _ => op_mulD) ha hb
theorem de_div (ha : DE G N sc k a ta) (hb : DE G N sc k b tb) : DE G N sc k (.BinOp a .FloorDiv b pos) (dOp fDiv ta tb) := de_bin (r := fun _ => _) (fun _ => pr_div) (fun _ => op_fdivW) ha hb
theorem de_mod (ha : DE G N sc k a ta) (hb : DE G N sc k b tb) : DE G N sc k (.BinOp a .Mod b pos) (dOp fMod ta tb) := de_bin (r := fun _ => _) (fun _ => pr_mod) (fun _ => op_mod) ha hb
theorem de_pow (ha : DE G N sc k a ta) (hb : DE G N sc k b tb) : DE G N sc k (.BinOp a .Pow b pos) (dOp fPow ta tb) := de_bin (r := fun _ => _) (fun _ => pr_pow) (fun _ => op_pow) ha hb
end
def dNeg (ta : DT) : DT := fun Ex env Q => ta Ex env fun x env1 => wd env1 x fun d => match d with
  | .int i => Q (.ext (.int (-i))) env1
  | _ => False
theorem de_neg {G : GG} {N : List Str} {sc : SC} {k : Nat} {a : Expr} {ta : DT} {pos : Pos} (ha : DE G N sc k a ta) : DE G N sc k (.UnaryOp .USub a pos) (dNeg ta) :=
  ⟨fun W => by
    obtain ⟨te, p1, i1⟩ := ha.ex W
    refine ⟨tUn (rU fun i => .int (-i)) te, fun X S => pe_un un_neg (p1 X S), fun e Ex hl env T F σ H Q R hh ht hR => ?_⟩
    refine i1 e Ex hl env T F σ H _ _ hh ht fun v H1 F1 env1 x hh1 q1 => ?_
    obtain ⟨d, rd, q3⟩ := hh1.wd (v := v) (sl := x) List.mem_cons_self q1
    cases d <;> first
      | exact q3.elim
      | exact ⟨_, rd.int, (hh1.pop.done hR).int hh1.fh q3⟩⟩
mutual
def D.py : D → PyData
  | .non => .none
  | .bl b => .bool b
  | .int i => .int i
  | .str x => .str x
  | .val _ => .none
  | .lst ds => .list (D.pys ds)
  | .fz ds => .list (D.pys ds)
  | .tup ds => .tuple (D.pys ds)
  | .tk ds => .tuple (D.pys ds)
  | .exc _ => .none
  | .glo _ => .none
  | .dk _ _ => .none
  | .dt _ _ => .none
def D.pys : List D → List PyData
  | [] => []
  | d :: ds => D.py d :: D.pys ds
end
mutual
def D.noVal : D → Bool
  | .val _ => false
  | .exc _ => false
  | .glo _ => false
  | .dk _ _ => false
  | .dt _ _ => false
  | .lst ds => D.noVals ds
  | .fz ds => D.noVals ds
  | .tup ds => D.noVals ds
  | .tk ds => D.noVals ds
  | _ => true
def D.noVals : List D → Bool
  | [] => true
  | d :: ds => D.noVal d && D.noVals ds
end
section
variable {K : PySem.W.Frag} {H : Hp}
mutual
theorem Rep.dp : ∀ {d : D} {v : V}, d.noVal = true → Rep K H d v → Dp K H v d.py
  | .non, _, _, h => by
    have e : _ = V.non := h
    rw [e]
    exact .non
  | .bl b, _, _, h => by
    have e : _ = V.bl b := h
    rw [e]
    exact .bl b
  | .int b, _, _, h => by
    have e : _ = V.int b := h
    rw [e]
    exact .int b
  | .str b, _, _, h => by
    have e : _ = V.str b := h
    rw [e]
    exact .str b
  | .val _, _, n, _ => nomatch n
  | .exc _, _, n, _ => nomatch n
  | .glo _, _, n, _ => nomatch n
  | .dk _ _, _, n, _ => nomatch n
  | .dt _ _, _, n, _ => nomatch n
  | .lst ds, _, n, h => by
    obtain ⟨a, xs, rfl, hs, hr⟩ := h
    exact .lst (SqL.of hs) (Reps.dp n hr)
  | .fz ds, _, n, h => by
    obtain ⟨a, xs, rfl, hs, hr⟩ := h
    exact .lst hs (Reps.dp n hr)
  | .tup ds, _, n, h => by
    obtain ⟨a, xs, rfl, hs, hr⟩ := h
    exact .tup hs.sq (Reps.dp n hr)
  | .tk ds, _, n, h => by
    obtain ⟨a, xs, rfl, hs, hr⟩ := h
    exact .tup hs (Reps.dp n hr)
theorem Reps.dp : ∀ {ds : List D} {vs : List V}, D.noVals ds = true → Reps K H ds vs → DpAll K H vs (D.pys ds)
  | [], _, _, h => by
    have e : _ = [] := h
    rw [e]
    exact .nil
  | d :: ds, _, n, h => by
    obtain ⟨v, r, rfl, h1, h2⟩ := h
    have n' : (D.noVal d && D.noVals ds) = true := n
    rw [Bool.and_eq_true] at n'
    exact .cons (Rep.dp n'.1 h1) (Reps.dp n'.2 h2)
end
end
def D.cmp (d : D) : Prop := d.noVal = true ∧ SeqAt.shaped d.py = true
def D.eqv (d e : D) : Bool := PyData.eqv d.py e.py
def fEq : D → D → (Sl → Prop) → Prop
  | .int i, .int j, Q => Q (.ext (.bl (i == j)))
  | .str i, .str j, Q => Q (.ext (.bl (i == j)))
  | .bl i, .bl j, Q => Q (.ext (.bl (i == j)))
  | d, e, Q => d.cmp ∧ e.cmp ∧ Q (.ext (.bl (d.eqv e)))
def fNe : D → D → (Sl → Prop) → Prop
  | .int i, .int j, Q => Q (.ext (.bl (!(i == j))))
  | .str i, .str j, Q => Q (.ext (.bl (!(i == j))))
  | .bl i, .bl j, Q => Q (.ext (.bl (!(i == j))))
  | d, e, Q => d.cmp ∧ e.cmp ∧ Q (.ext (.bl (!d.eqv e)))
def rEqA (K : PySem.W.Frag) : R2 := fun x y H Q => rEq x y H Q ∨ rEqD K x y H Q
def rNeA (K : PySem.W.Frag) : R2 := fun x y H Q => rNe x y H Q ∨ rNeD K x y H Q
theorem pr_eq {K : PySem.W.Frag} : Pr2 K (rEqA K) fEq := fun F H v u d d' Q R fh h1 h2 hf ha => by
  unfold fEq at hf
  split at hf
  · rw [h1.int, h2.int]
    exact .inl ⟨rfl, by rw [dec_int]; exact ha.bl fh hf⟩
  · rw [h1.str, h2.str]
    exact .inl ⟨rfl, by rw [dec_str]; exact ha.bl fh hf⟩
  · rw [h1.bl, h2.bl]
    exact .inl ⟨rfl, by rw [dec_bl]; exact ha.bl fh hf⟩
  · obtain ⟨c1, c2, q⟩ := hf
    exact .inr ⟨d.py, d'.py, Rep.dp c1.1 (h1.rep fh), Rep.dp c2.1 (h2.rep fh), c1.2, c2.2, ha.bl fh q⟩
theorem pr_ne {K : PySem.W.Frag} : Pr2 K (rNeA K) fNe := fun F H v u d d' Q R fh h1 h2 hf ha => by
  unfold fNe at hf
  split at hf
  · rw [h1.int, h2.int]
    exact .inl ⟨rfl, by rw [dec_int]; exact ha.bl fh hf⟩
  · rw [h1.str, h2.str]
    exact .inl ⟨rfl, by rw [dec_str]; exact ha.bl fh hf⟩
  · rw [h1.bl, h2.bl]
    exact .inl ⟨rfl, by rw [dec_bl]; exact ha.bl fh hf⟩
  · obtain ⟨c1, c2, q⟩ := hf
    exact .inr ⟨d.py, d'.py, Rep.dp c1.1 (h1.rep fh), Rep.dp c2.1 (h2.rep fh), c1.2, c2.2, ha.bl fh q⟩
def fCmp (p : Int → Int → Bool) : D → D → (Sl → Prop) → Prop
  | .int i, .int j, Q => Q (.ext (.bl (p i j)))
  | _, _, _ => False
theorem pr_cmp {K : PySem.W.Frag} {p : Int → Int → Bool} : Pr2 K (rI0 fun i j => .bl (p i j)) (fCmp p) := fun F H v u d d' Q R fh h1 h2 hf ha => by
  unfold fCmp at hf
  split at hf
  · exact ⟨_, _, h1.int, h2.int, ha.bl fh hf⟩
  · exact hf.elim
def D.flat : D → Bool
  | .non => true
  | .bl _ => true
  | .int _ => true
  | .str _ => true
  | _ => false
def D.toV : D → V
  | .non => .non
  | .bl b => .bl b
  | .int i => .int i
  | .str x => .str x
  | .val v => v
  | _ => .non
def D.isIn (x : D) (xs : List D) : Bool := inV x.toV (xs.map D.toV)
def fIn (neg : Bool) : D → D → (Sl → Prop) → Prop
  | d, .lst ds, Q => d.flat = true ∧ ds.all D.flat = true ∧ Q (.ext (.bl (if neg then !d.isIn ds else d.isIn ds)))
  | d, .tup ds, Q => d.flat = true ∧ ds.all D.flat = true ∧ Q (.ext (.bl (if neg then !d.isIn ds else d.isIn ds)))
  | _, _, _ => False
theorem flat_rep {K : PySem.W.Frag} {F : Hp} {d : D} {v : V} (h : Rep K F d v) (f : d.flat = true) : v = d.toV ∧ flatV v = true := by
  cases d with
  | non =>
    have e : v = .non := h
    rw [e]
    exact ⟨rfl, rfl⟩
  | bl b =>
    have e : v = .bl b := h
    rw [e]
    exact ⟨rfl, rfl⟩
  | int b =>
    have e : v = .int b := h
    rw [e]
    exact ⟨rfl, rfl⟩
  | str b =>
    have e : v = .str b := h
    rw [e]
    exact ⟨rfl, rfl⟩
  | val u => exact nomatch f
  | lst ds => exact nomatch f
  | fz ds => exact nomatch f
  | tup ds => exact nomatch f
  | tk ds => exact nomatch f
  | exc c => exact nomatch f
  | glo c => exact nomatch f
  | dk _ _ => exact nomatch f
  | dt _ _ => exact nomatch f
theorem flat_reps {K : PySem.W.Frag} {F : Hp} : ∀ {ds : List D} {vs : List V}, Reps K F ds vs → ds.all D.flat = true → vs = ds.map D.toV ∧ vs.all flatV = true
  | [], _, h, _ => by
    have e : _ = [] := h
    rw [e]
    exact ⟨rfl, rfl⟩
  | d :: ds, _, h, f => by
    obtain ⟨v, r, rfl, h1, h2⟩ := h
    rw [List.all_cons, Bool.and_eq_true] at f
    obtain ⟨e1, f1⟩ := flat_rep h1 f.1
    obtain ⟨e2, f2⟩ := flat_reps h2 f.2
    rw [List.all_cons, f1, f2, List.map_cons, ← e1, ← e2]
    exact ⟨rfl, rfl⟩
theorem pr_in {K : PySem.W.Frag} (neg : Bool) : Pr2 K (rIn K neg) (fIn neg) := fun F H v u d d' Q R fh h1 h2 hf ha => by
  unfold fIn at hf
  split at hf
  · rename_i ds
    obtain ⟨b, us, rfl, e2, r2⟩ := h2.lst fh
    obtain ⟨f1, f2, q⟩ := hf
    obtain ⟨x1, x2⟩ := flat_rep (h1.rep fh) f1
    obtain ⟨y1, y2⟩ := flat_reps r2 f2
    refine ⟨b, us, rfl, .inl (SqL.of e2), x2, y2, ?_⟩
    rw [x1, y1]
    exact ha.bl fh q
  · rename_i ds
    obtain ⟨b, us, rfl, e2, _, r2⟩ := h2.tup fh
    obtain ⟨f1, f2, q⟩ := hf
    obtain ⟨x1, x2⟩ := flat_rep (h1.rep fh) f1
    obtain ⟨y1, y2⟩ := flat_reps r2 f2
    refine ⟨b, us, rfl, .inr e2, x2, y2, ?_⟩
    rw [x1, y1]
    exact ha.bl fh q
  · exact hf.elim
section
variable {G : GG} {N : List Str} {sc : SC} {k : Nat} {a b c : Expr} {ta tb tc : DT} {pos : Pos}
def CmpR (op : CmpOp) (f : D → D → (Sl → Prop) → Prop) : Prop := ∃ r : PySem.W.Frag → R2, (∀ K, Pr2 K (r K) f) ∧ ∀ X : Cx, X.A.units + 64 < cLine → OpR X (compareOp op) (r X.K)
theorem c_eq : CmpR .Eq fEq := ⟨rEqA, fun _ => pr_eq, fun _ h => op_eq.or (op_eqD h)⟩
theorem c_ne : CmpR .NotEq fNe := ⟨rNeA, fun _ => pr_ne, fun _ h => op_ne.or (op_neD h)⟩
theorem c_lt : CmpR .Lt (fCmp fun i j => decide (i < j)) := ⟨fun _ => _, fun _ => pr_cmp, fun _ _ => op_lt⟩
theorem c_le : CmpR .LtE (fCmp fun i j => decide (i ≤ j)) := ⟨fun _ => _, fun _ => pr_cmp, fun _ _ => op_le⟩
theorem c_gt : CmpR .Gt (fCmp fun i j => decide (j < i)) := ⟨fun _ => _, fun _ => pr_cmp, fun _ _ => op_gt⟩
theorem c_ge : CmpR .GtE (fCmp fun i j => decide (j ≤ i)) := ⟨fun _ => _, fun _ => pr_cmp, fun _ _ => op_ge⟩
theorem c_in : CmpR .In (fIn false) := ⟨fun K => rIn K false, fun _ => pr_in false, fun _ _ => op_in_seq⟩
theorem c_notin : CmpR .NotIn (fIn true) := ⟨fun K => rIn K true, fun _ => pr_in true, fun _ _ => op_notIn_seq⟩
def D.knN : D → Bool
  | .val _ => false
  | _ => true
def D.isNon : D → Bool
  | .non => true
  | _ => false
def fIsN : D → D → (Sl → Prop) → Prop
  | d, .non, Q => d.knN = true ∧ Q (.ext (.bl d.isNon))
  | _, _, _ => False
theorem isN_dec {K : PySem.W.Frag} {F : Hp} {d : D} {v : V} (n : d.knN = true) (h : Rep K F d v) : decide (v = .non) = d.isNon := by
  cases d with
  | non =>
    have e : v = .non := h
    rw [e]
    rfl
  | val u => cases n
  | bl b =>
    have e : v = .bl b := h
    rw [e]
    rfl
  | int b =>
    have e : v = .int b := h
    rw [e]
    rfl
  | str b =>
    have e : v = .str b := h
    rw [e]
    exact decide_eq_false fun z => nomatch z
  | lst ds =>
    obtain ⟨a, xs, rfl, _⟩ := h
    rfl
  | fz ds =>
    obtain ⟨a, xs, rfl, _⟩ := h
    rfl
  | tup ds =>
    obtain ⟨a, xs, rfl, _⟩ := h
    rfl
  | tk ds =>
    obtain ⟨a, xs, rfl, _⟩ := h
    rfl
  | exc c =>
    obtain ⟨a, oe, rfl, _⟩ := h
    rfl
  | dk _ _ =>
    obtain ⟨a, _, _, rfl, _⟩ := h
    rfl
  | dt _ _ =>
    obtain ⟨a, _, _, rfl, _⟩ := h
    rfl
  | glo c =>
    have e : v = .ref _ := h
    rw [e]
    rfl
def fNotN : D → D → (Sl → Prop) → Prop
  | d, .non, Q => d.knN = true ∧ Q (.ext (.bl (!d.isNon)))
  | _, _, _ => False
theorem c_isnot : CmpR .IsNot fNotN := ⟨fun _ => _, fun K F H v u d d' Q R fh h1 h2 hf ha => by
    unfold fNotN at hf
    split at hf
    · refine ⟨h2.non, ?_⟩
      rw [isN_dec hf.1 (h1.rep fh)]
      exact ha.bl fh hf.2
    · exact hf.elim, fun _ _ => op_notN⟩
theorem de_cmp {op : CmpOp} {f : D → D → (Sl → Prop) → Prop} (hr : CmpR op f) (ha : DE G N sc k a ta) (hb : DE G N sc k b tb) (hm : behindInMarks op b = false := by first | exact nomark _ | rfl) : DE G N sc k (.Compare a [op] [b] pos) (dOp f ta tb) :=
  ⟨fun W => by
    obtain ⟨r, h1, h2⟩ := hr
    obtain ⟨te, p1, i1⟩ := ha.ex W
    obtain ⟨tf, p2, i2⟩ := hb.ex W
    exact ⟨tOp (r G.K) te tf, fun X S => pe_cmpR (by rw [← S.K]; exact h2 X S.units) (p1 X S) (p2 X S) hm, im_op (h1 _) i1 i2⟩⟩
def dTest (t : DT) : DTT := fun Ex env Q => t Ex env fun x env1 => match x with
  | .ext (.bl b) => Q b env1
  | _ => False
theorem imT_of {K : PySem.W.Frag} {W : WX} {te : TE} {t : DT} {tt : TT} (h : Im K W te t) (hs : ∀ σ H Q, te σ H (fun x H1 => ∃ c, x = .bl c ∧ Q c H1) → tt σ H Q) : ImT K W tt (dTest t) := fun e Ex hl env T F σ H Q R hh ht hR => by
  refine hs _ _ _ (h e Ex hl env T F σ H _ _ hh ht fun v H1 F1 env1 x hh1 q1 => ?_)
  cases x with
  | ext d =>
    cases d with
    | bl b => exact ⟨b, hh1.temps (v, .ext (.bl b)) List.mem_cons_self, hR b H1 F1 env1 hh1.pop q1⟩
    | _ => exact q1.elim
  | _ => exact q1.elim
theorem dt_cmp {op : CmpOp} {f : D → D → (Sl → Prop) → Prop} (hr : CmpR op f) (ha : DE G N sc k a ta) (hb : DE G N sc k b tb) (hm : behindInMarks op b = false := by first | exact nomark _ | rfl) : DTe G N sc k (.Compare a [op] [b] pos) (dTest (dOp f ta tb)) :=
  ⟨fun W => by
    obtain ⟨r, h1, h2⟩ := hr
    obtain ⟨te, p1, i1⟩ := ha.ex W
    obtain ⟨tf, p2, i2⟩ := hb.ex W
    exact ⟨tTest (tOp (r G.K) te tf), fun X S => pt_cmpR (by rw [← S.K]; exact h2 X S.units) (p1 X S) (p2 X S) hm, imT_of (im_op (h1 _) i1 i2) fun _ _ _ h => h⟩⟩
theorem dt_val {e : Expr} {t : DT} (h : DE G N sc k e t) (he : ∀ env whole, isTrue e env whole = (do let v ← whole; standAt e.pos; holding [v] (truthy v)) := by intro _ _; rfl) : DTe G N sc k e (dTest t) :=
  ⟨fun W => by
    obtain ⟨te, p1, i1⟩ := h.ex W
    exact ⟨tB te, fun X S => pt_val (p1 X S) (he _), imT_of i1 fun _ _ _ h => h⟩⟩
def dChain (f f' : D → D → (Sl → Prop) → Prop) (ta tb tc : DT) : DT := fun Ex env Q => ta Ex env fun x env1 => tb Ex env1 fun y env2 => wd env2 x fun d => wd env2 y fun d' => f d d' fun z => match z with
  | .ext (.bl true) => tc Ex env2 fun w env3 => wd env3 y fun d1 => wd env3 w fun d2 => f' d1 d2 fun sl => Q sl env3
  | .ext (.bl false) => Q (.ext (.bl false)) env2
  | _ => False
theorem de_chain {op op' : CmpOp} {f f' : D → D → (Sl → Prop) → Prop} (hr : CmpR op f) (hr' : CmpR op' f') (ha : DE G N sc k a ta) (hb : DE G N sc k b tb) (hc : DE G N sc k c tc)
    (hm : lastMarks [op, op'] [b, c] = false := by with_unfolding_all rfl) : DE G N sc k (.Compare a [op, op'] [b, c] pos) (dChain f f' ta tb tc) :=
  ⟨fun W => by
    obtain ⟨r, h1, h2⟩ := hr
    obtain ⟨r', h1', h2'⟩ := hr'
    obtain ⟨te, p1, i1⟩ := ha.ex W
    obtain ⟨tf, p2, i2⟩ := hb.ex W
    obtain ⟨tg, p3, i3⟩ := hc.ex W
    refine ⟨tChain (r G.K) (r' G.K) te tf tg, fun X S => pe_chain (by rw [← S.K]; exact h2 X S.units) (by rw [← S.K]; exact h2' X S.units) (p1 X S) (p2 X S) (p3 X S) hm, fun e Ex hl env T F σ H Q R hh ht hR => ?_⟩
    refine i1 e Ex hl env T F σ H _ _ hh ht fun v H1 F1 env1 x hh1 q1 => ?_
    refine i2 e Ex hl env1 _ F1 σ H1 _ _ hh1 q1 fun u H2 F2 env2 y hh2 q2 => ?_
    obtain ⟨d, rd, q3⟩ := hh2.wd (v := v) (sl := x) (List.mem_cons_of_mem _ List.mem_cons_self) q2
    obtain ⟨d', rd', q4⟩ := hh2.wd (v := u) (sl := y) List.mem_cons_self q3
    refine h1 _ F2 H2 v u d d' _ _ hh2.fh rd rd' q4 fun z F3 H3 sl g ok own q5 => ?_
    have hh3 := hh2.push g ok own
    cases sl with
    | ext dz =>
      cases dz with
      | bl bb =>
        refine ⟨bb, hh3.temps (z, .ext (.bl bb)) List.mem_cons_self, ?_⟩
        cases bb with
        | true =>
          rw [if_pos rfl]
          refine i3 e Ex hl env2 _ F3 σ H3 _ _ hh3.pop q5 fun w H4 F4 env4 x4 hh4 q6 => ?_
          obtain ⟨d1, rd1, q7⟩ := hh4.wd (v := u) (sl := y) (List.mem_cons_of_mem _ List.mem_cons_self) q6
          obtain ⟨d2, rd2, q8⟩ := hh4.wd (v := w) (sl := x4) List.mem_cons_self q7
          exact h1' _ F4 H4 u w d1 d2 _ R hh4.fh rd1 rd2 q8 (hh4.pop.pop.pop.done hR)
        | false =>
          rw [if_neg Bool.false_ne_true]
          exact hR (.bl false) H3 F3 env2 (.ext (.bl false)) (hh3.pop.pop.pop.pushE rfl) q5
      | _ => exact q5.elim
    | _ => exact q5.elim⟩
def dAnd (t u : DTT) : DTT := fun Ex env Q => t Ex env fun b env1 => if b = true then u Ex env1 Q else Q false env1
def dOr (t u : DTT) : DTT := fun Ex env Q => t Ex env fun b env1 => if b = true then Q true env1 else u Ex env1 Q
def dNot (t : DTT) : DTT := fun Ex env Q => t Ex env fun b env1 => Q (!b) env1
structure DWe (G : GG) (N : List Str) (sc : SC) (k : Nat) (e : Expr) (t : DTT) : Prop where
  ex : ∀ W : WX, ∃ te, (∀ X, Sit G N sc W k X → PW X e te) ∧ ImT G.K W te t
variable {rest : List Expr} {t u : DTT}
theorem imT_and {K : PySem.W.Frag} {W : WX} {te tf : TT} (h : ImT K W te t) (g : ImT K W tf u) : ImT K W (tAnd te tf) (dAnd t u) := fun e Ex hl env T F σ H Q R hh ht hR => by
  refine h e Ex hl env T F σ H _ _ hh ht fun b H1 F1 env1 hh1 q1 => ?_
  cases b with
  | true =>
    rw [if_pos rfl] at q1 ⊢
    exact g e Ex hl env1 T F1 σ H1 _ _ hh1 q1 hR
  | false =>
    rw [if_neg Bool.false_ne_true] at q1 ⊢
    exact hR false H1 F1 env1 hh1 q1
theorem imT_or {K : PySem.W.Frag} {W : WX} {te tf : TT} (h : ImT K W te t) (g : ImT K W tf u) : ImT K W (tOr te tf) (dOr t u) := fun e Ex hl env T F σ H Q R hh ht hR => by
  refine h e Ex hl env T F σ H _ _ hh ht fun b H1 F1 env1 hh1 q1 => ?_
  cases b with
  | true =>
    rw [if_pos rfl] at q1 ⊢
    exact hR true H1 F1 env1 hh1 q1
  | false =>
    rw [if_neg Bool.false_ne_true] at q1 ⊢
    exact g e Ex hl env1 T F1 σ H1 _ _ hh1 q1 hR
theorem dw_and1 (h : DTe G N sc k a t) : DWe G N sc k (.BoolOp .And [a] pos) t := ⟨fun W => by
  obtain ⟨te, p1, i1⟩ := h.ex W
  exact ⟨te, fun X S => pw_and1 (p1 X S), i1⟩⟩
theorem dw_or1 (h : DTe G N sc k a t) : DWe G N sc k (.BoolOp .Or [a] pos) t := ⟨fun W => by
  obtain ⟨te, p1, i1⟩ := h.ex W
  exact ⟨te, fun X S => pw_or1 (p1 X S), i1⟩⟩
theorem dw_and (h : DTe G N sc k a t) (g : DWe G N sc k (.BoolOp .And (b :: rest) pos) u) : DWe G N sc k (.BoolOp .And (a :: b :: rest) pos) (dAnd t u) := ⟨fun W => by
  obtain ⟨te, p1, i1⟩ := h.ex W
  obtain ⟨tf, p2, i2⟩ := g.ex W
  exact ⟨tAnd te tf, fun X S => pw_and (p1 X S) (p2 X S), imT_and i1 i2⟩⟩
theorem dw_or (h : DTe G N sc k a t) (g : DWe G N sc k (.BoolOp .Or (b :: rest) pos) u) : DWe G N sc k (.BoolOp .Or (a :: b :: rest) pos) (dOr t u) := ⟨fun W => by
  obtain ⟨te, p1, i1⟩ := h.ex W
  obtain ⟨tf, p2, i2⟩ := g.ex W
  exact ⟨tOr te tf, fun X S => pw_or (p1 X S) (p2 X S), imT_or i1 i2⟩⟩
theorem DWe.te {e : Expr} (h : DWe G N sc k e t) : DTe G N sc k e t := ⟨fun W => by
  obtain ⟨te, p1, i1⟩ := h.ex W
  exact ⟨te, fun X S => (p1 X S).pt, i1⟩⟩
theorem dt_not (h : DTe G N sc k a t) : DTe G N sc k (.UnaryOp .Not a pos) (dNot t) := ⟨fun W => by
  obtain ⟨te, p1, i1⟩ := h.ex W
  exact ⟨tNot te, fun X S => pt_not (p1 X S), fun e Ex hl env T F σ H Q R hh ht hR => i1 e Ex hl env T F σ H _ _ hh ht fun b H1 F1 env1 hh1 q1 => hR (!b) H1 F1 env1 hh1 q1⟩⟩
def dAndV (ta tb : DT) : DT := fun Ex env Q => ta Ex env fun x env1 => match x with
  | .ext (.bl true) => tb Ex env1 Q
  | .ext (.bl false) => Q (.ext (.bl false)) env1
  | _ => False
def dOrV (ta tb : DT) : DT := fun Ex env Q => ta Ex env fun x env1 => match x with
  | .ext (.bl false) => tb Ex env1 Q
  | .ext (.bl true) => Q (.ext (.bl true)) env1
  | _ => False
def dNotV (ta : DT) : DT := fun Ex env Q => ta Ex env fun x env1 => match x with
  | .ext (.bl b) => Q (.ext (.bl (!b))) env1
  | _ => False
theorem de_one {op} {t : DT} (h : DE G N sc k a t) : DE G N sc k (.BoolOp op [a] pos) t := ⟨fun W => by
  obtain ⟨te, p1, i1⟩ := h.ex W
  exact ⟨te, fun X S => pe_one (p1 X S), i1⟩⟩
theorem de_and (h : DE G N sc k a ta) (g : DE G N sc k (.BoolOp .And (b :: rest) pos) tb) : DE G N sc k (.BoolOp .And (a :: b :: rest) pos) (dAndV ta tb) := ⟨fun W => by
  obtain ⟨te, p1, i1⟩ := h.ex W
  obtain ⟨tf, p2, i2⟩ := g.ex W
  refine ⟨tAndV te tf, fun X S => pe_and (p1 X S) (p2 X S), fun e Ex hl env T F σ H Q R hh ht hR => ?_⟩
  refine i1 e Ex hl env T F σ H _ _ hh ht fun v H1 F1 env1 x hh1 q1 => ?_
  cases x with
  | ext d =>
    cases d with
    | bl bb =>
      refine ⟨bb, hh1.temps (v, .ext (.bl bb)) List.mem_cons_self, ?_⟩
      cases bb with
      | true =>
        rw [if_pos rfl]
        exact i2 e Ex hl env1 T F1 σ H1 _ _ hh1.pop q1 hR
      | false =>
        rw [if_neg Bool.false_ne_true]
        exact hR (.bl false) H1 F1 env1 (.ext (.bl false)) (hh1.pop.pushE rfl) q1
    | _ => exact q1.elim
  | _ => exact q1.elim⟩
theorem de_not (h : DE G N sc k a ta) : DE G N sc k (.UnaryOp .Not a pos) (dNotV ta) := ⟨fun W => by
  obtain ⟨te, p1, i1⟩ := h.ex W
  refine ⟨tNotV te, fun X S => pe_not (p1 X S), fun e Ex hl env T F σ H Q R hh ht hR => ?_⟩
  refine i1 e Ex hl env T F σ H _ _ hh ht fun v H1 F1 env1 x hh1 q1 => ?_
  cases x with
  | ext d =>
    cases d with
    | bl bb => exact ⟨bb, hh1.temps (v, .ext (.bl bb)) List.mem_cons_self, hR _ H1 F1 env1 (.ext (.bl (!bb))) (hh1.pop.pushE rfl) q1⟩
    | _ => exact q1.elim
  | _ => exact q1.elim⟩
def dIf (t : DTT) (ta tb : DT) : DT := fun Ex env Q => t Ex env fun b env1 => if b = true then ta Ex env1 Q else tb Ex env1 Q
theorem de_if {t : DTT} (hc : DTe G N sc k c t) (ha : DE G N sc k a ta) (hb : DE G N sc k b tb) : DE G N sc k (.IfExp c a b pos) (dIf t ta tb) := ⟨fun W => by
  obtain ⟨tc, p0, i0⟩ := hc.ex W
  obtain ⟨te, p1, i1⟩ := ha.ex W
  obtain ⟨tf, p2, i2⟩ := hb.ex W
  refine ⟨tIf tc te tf, fun X S => pe_ifExp (p0 X S) (p1 X S) (p2 X S), fun e Ex hl env T F σ H Q R hh ht hR => ?_⟩
  refine i0 e Ex hl env T F σ H _ _ hh ht fun bb H1 F1 env1 hh1 q1 => ?_
  cases bb with
  | true =>
    rw [if_pos rfl] at q1 ⊢
    exact i1 e Ex hl env1 T F1 σ H1 _ _ hh1 q1 hR
  | false =>
    rw [if_neg Bool.false_ne_true] at q1 ⊢
    exact i2 e Ex hl env1 T F1 σ H1 _ _ hh1 q1 hR⟩
def froz (env : Env') : Sl → (D → Prop) → Prop
  | .ext d, q => q d
  | .lst _ ds, q => q (.lst ds)
  | _, _ => False
def frozs (env : Env') : List Sl → (List D → Prop) → Prop
  | [], q => q []
  | s :: ss, q => froz env s fun d => frozs env ss fun ds => q (d :: ds)
theorem Holds.froz1 {K : PySem.W.Frag} {e : Ent} {env : Env'} {T : Tmp} {F : Hp} {σ : St} {H : Hp} {v : V} {sl : Sl} {q : D → Prop} (h : Holds K e env ((v, sl) :: T) F σ H) (w : froz env sl q) : ∃ d F1, Same F F1 ∧ Holds K e env T F1 σ H ∧ Rep K F1 d v ∧ q d := by
  cases sl with
  | un => exact w.elim
  | reg _ _ => exact w.elim
  | ar _ _ => exact w.elim
  | al i a => exact w.elim
  | ext d => exact ⟨d, F, Same.refl _, h.pop, h.temps (v, .ext d) List.mem_cons_self, w⟩
  | lst a ds =>
    obtain ⟨F1, sm, h1⟩ := h.freezeT
    exact ⟨.lst ds, F1, sm, h1.pop, h1.temps (v, .ext (.lst ds)) List.mem_cons_self, w⟩
theorem Holds.frozs {K : PySem.W.Frag} {e : Ent} {env : Env'} {T : Tmp} {σ : St} {H : Hp} : ∀ {vs : List V} {xs : List Sl} {q : List D → Prop} {F : Hp}, vs.length = xs.length → Holds K e env (vs.zip xs ++ T) F σ H → HD.frozs env xs q → ∃ ds F1, Same F F1 ∧ Holds K e env T F1 σ H ∧ Reps K F1 ds vs ∧ q ds
  | [], [], q, F, _, h, w => ⟨[], F, Same.refl _, h, rfl, w⟩
  | [], _ :: _, _, _, e, _, _ => by cases e
  | _ :: _, [], _, _, e, _, _ => by cases e
  | v :: vs, x :: xs, q, F, le, h, w => by
    obtain ⟨d, F1, sm, h1, r1, w1⟩ := h.froz1 w
    obtain ⟨ds, F2, sm2, h2, r2, w2⟩ := Holds.frozs (vs := vs) (xs := xs) (by simpa using le) h1 w1
    exact ⟨d :: ds, F2, sm.trans sm2, h2, ⟨v, vs, rfl, Rep.same sm2 r1, r2⟩, w2⟩
def frzD (env : Env') : Sl → (D → Env' → Prop) → Prop
  | .ext d, q => q d env
  | .lst _ ds, q => q (.lst ds) env
  | .al i a, q => match env[i]? with
    | some (.lst b ds) => b = a ∧ q (.lst ds) (env.set i (.ext (.lst ds)))
    | some (.ext (.lst ds)) => False
    | _ => False
  | .un, _ => False
  | .reg _ _, _ => False
  | .ar _ _, _ => False
def frzDs (env : Env') : List Sl → (List D → Env' → Prop) → Prop
  | [], q => q [] env
  | s :: ss, q => frzD env s fun d env1 => frzDs env1 ss fun ds env2 => q (d :: ds) env2
theorem Holds.frz1 {K : PySem.W.Frag} {e : Ent} {env : Env'} {T : Tmp} {F : Hp} {σ : St} {H : Hp} {v : V} {sl : Sl} {q : D → Env' → Prop} (h : Holds K e env ((v, sl) :: T) F σ H) (w : frzD env sl q) : ∃ d F1 env', Same F F1 ∧ Holds K e env' T F1 σ H ∧ Rep K F1 d v ∧ q d env' := by
  cases sl with
  | un => exact w.elim
  | reg _ _ => exact w.elim
  | ar _ _ => exact w.elim
  | ext d => exact ⟨d, F, env, Same.refl _, h.pop, h.temps (v, .ext d) List.mem_cons_self, w⟩
  | lst a ds =>
    obtain ⟨F1, sm, h1⟩ := h.freezeT
    exact ⟨.lst ds, F1, env, sm, h1.pop, h1.temps (v, .ext (.lst ds)) List.mem_cons_self, w⟩
  | al i a =>
    have ev : v = .ref a := h.temps (v, .al i a) List.mem_cons_self
    have w' : (match env[i]? with | some (.lst b ds) => b = a ∧ q (.lst ds) (env.set i (.ext (.lst ds))) | some (.ext (.lst ds)) => False | _ => False) := w
    split at w'
    · rename_i b ds hb
      obtain ⟨rfl, w'⟩ := w'
      obtain ⟨F1, sm, h1⟩ := h.pop.freeze hb
      refine ⟨.lst ds, F1, _, sm, h1, ?_, w'⟩
      have hi : i < env.length := (List.getElem?_eq_some_iff.mp hb).1
      rcases h.slots i _ hb with z | ⟨u, hu, e1, _⟩
      · cases z
      · rcases h1.slots i (.ext (.lst ds)) (by rw [List.getElem?_set, if_pos rfl, if_pos hi]) with z | ⟨u', hu', ok⟩
        · cases z
        · rw [hu] at hu'
          cases hu'
          rw [ev, ← e1]
          exact ok
    · exact w'.elim
    · exact w'.elim
theorem Holds.frzs {K : PySem.W.Frag} {e : Ent} {T : Tmp} {σ : St} {H : Hp} : ∀ {vs : List V} {xs : List Sl} {q : List D → Env' → Prop} {F : Hp} {env : Env'}, vs.length = xs.length → Holds K e env (vs.zip xs ++ T) F σ H → HD.frzDs env xs q → ∃ ds F1 env', Same F F1 ∧ Holds K e env' T F1 σ H ∧ Reps K F1 ds vs ∧ q ds env'
  | [], [], q, F, env, _, h, w => ⟨[], F, env, Same.refl _, h, rfl, w⟩
  | [], _ :: _, _, _, _, e, _, _ => by cases e
  | _ :: _, [], _, _, _, e, _, _ => by cases e
  | v :: vs, x :: xs, q, F, env, le, h, w => by
    obtain ⟨d, F1, env1, sm, h1, r1, w1⟩ := h.frz1 w
    obtain ⟨ds, F2, env2, sm2, h2, r2, w2⟩ := Holds.frzs (vs := vs) (xs := xs) (by simpa using le) h1 w1
    exact ⟨d :: ds, F2, env2, sm.trans sm2, h2, ⟨v, vs, rfl, Rep.same sm2 r1, r2⟩, w2⟩
def dTup (t : DTA) : DT := fun Ex env Q => t Ex env fun xs env1 => xs.length ≤ sizeLine ∧ frzDs env1 xs fun ds env2 => Q (.ext (.tup ds)) env2
def dLst (t : DTA) : DT := fun Ex env Q => t Ex env fun xs env1 => xs.length ≤ sizeLine ∧ frzDs env1 xs fun ds env2 => ∀ a, Q (.lst a ds) env2
variable {es : List Expr} {tA : DTA}
theorem de_tup {x1} (h : DAs G N sc k es tA) : DE G N sc k (.Tuple es x1 pos) (dTup tA) := ⟨fun W => by
  obtain ⟨te, p1, i1⟩ := h.ex W
  refine ⟨tTupF te, fun X S => pe_tupF (p1 X S), fun e Ex hl env T F σ H Q R hh ht hR => ?_⟩
  refine i1 e Ex hl env T F σ H _ _ hh ht fun vs H1 F1 env1 xs le hh1 q1 => ⟨by rw [le]; exact q1.1, ?_⟩
  obtain ⟨ds, F2, env2, sm, hh2, r2, q2⟩ := hh1.frzs le q1.2
  exact (hh2.done hR).tup hh2.fh r2 q2⟩
theorem de_lst (h : DAs G N sc k es tA) : DE G N sc k (.List es pos) (dLst tA) := ⟨fun W => by
  obtain ⟨te, p1, i1⟩ := h.ex W
  refine ⟨tLst te, fun X S => pe_lst (p1 X S), fun e Ex hl env T F σ H Q R hh ht hR => ?_⟩
  refine i1 e Ex hl env T F σ H _ _ hh ht fun vs H1 F1 env1 xs le hh1 q1 => ⟨by rw [le]; exact q1.1, fun p n => ?_⟩
  obtain ⟨ds, F2, env2, sm, hh2, r2, q2⟩ := hh1.frzs le q1.2
  exact (hh2.done hR).lst hh2.fh n r2 (q2 p)⟩
def fIx : D → D → (Sl → Prop) → Prop
  | .lst ds, .int i, Q => ∃ d, atI ds i = some d ∧ Q (.ext d)
  | .tup ds, .int i, Q => ∃ d, atI ds i = some d ∧ Q (.ext d)
  | .tk ds, .int i, Q => ∃ d, atI ds i = some d ∧ Q (.ext d)
  | .fz ds, .int i, Q => ∃ d, atI ds i = some d ∧ Q (.ext d)
  | .str z, .int i, Q => z.length ≤ sizeLine ∧ ∃ c, atI z.cps.toList i = some c ∧ Q (.ext (.str ⟨#[c]⟩))
  | _, _, _ => False
theorem Reps.atI {K : PySem.W.Frag} {F : Hp} {ds : List D} {vs : List V} {i : Int} {d : D} (h : Reps K F ds vs) (e : L2.atI ds i = some d) : ∃ v, L2.atI vs i = some v ∧ Rep K F d v := by
  unfold L2.atI at e ⊢
  rw [← h.length]
  cases q : ixN ds.length i with
  | none =>
    rw [q] at e
    cases e
  | some j =>
    rw [q] at e
    exact h.get e
theorem pr_ix {K : PySem.W.Frag} : Pr2 K (rIx K) fIx := fun F H v u d d' Q R fh h1 h2 hf ha => by
  unfold fIx at hf
  split at hf
  · obtain ⟨a, vs, rfl, e1, r1⟩ := h1.lst fh
    obtain ⟨d, e, q⟩ := hf
    obtain ⟨w, e', r⟩ := r1.atI e
    exact .inl ⟨a, vs, _, w, rfl, h2.int, SqL.of e1, e', ha.ext fh r q⟩
  · obtain ⟨a, vs, rfl, e1, _, r1⟩ := h1.tup fh
    obtain ⟨d, e, q⟩ := hf
    obtain ⟨w, e', r⟩ := r1.atI e
    exact .inr (.inl ⟨a, vs, _, w, rfl, h2.int, e1, e', ha.ext fh r q⟩)
  · obtain ⟨a, vs, rfl, e1, _, r1⟩ := h1.tk fh
    obtain ⟨d, e, q⟩ := hf
    obtain ⟨w, e', r⟩ := r1.atI e
    exact .inr (.inl ⟨a, vs, _, w, rfl, h2.int, e1, e', ha.ext fh r q⟩)
  · obtain ⟨a, vs, rfl, e1, r1⟩ := h1.fz fh
    obtain ⟨d, e, q⟩ := hf
    obtain ⟨w, e', r⟩ := r1.atI e
    exact .inl ⟨a, vs, _, w, rfl, h2.int, e1, e', ha.ext fh r q⟩
  · obtain ⟨hz, c, e, q⟩ := hf
    exact .inr (.inr ⟨_, _, c, h1.str, h2.int, hz, e, ha.str fh q⟩)
  · exact hf.elim
theorem de_ix (ha : DE G N sc k a ta) (hb : DE G N sc k b tb) (hs : PlainIx b := by intro _ _; rfl) : DE G N sc k (.Subscript a b pos) (dOp fIx ta tb) := ⟨fun W => by
  obtain ⟨te, p1, i1⟩ := ha.ex W
  obtain ⟨tf, p2, i2⟩ := hb.ex W
  exact ⟨tOp (rIx G.K) te tf, fun X S => pe_ix (by rw [← S.K]; exact ix_seq) (p1 X S) (p2 X S) hs, im_op pr_ix i1 i2⟩⟩
abbrev DTO := DX → Env' → (Option Int → Env' → Prop) → Prop
def ImO (K : PySem.W.Frag) (W : WX) (to : TO) (t : DTO) : Prop :=
  ∀ (e : Ent) (Ex : DX), Link K e W Ex → ∀ (env : Env') (T : Tmp) (F : Hp) (σ : St) (H : Hp) (Q : Option Int → Env' → Prop) (R : Option Int → Hp → Prop),
    Holds K e env T F σ H → t Ex env Q → (∀ o H' F' env', Holds K e env' T F' σ H' → Q o env' → R o H') → to σ H R
structure DO' (G : GG) (N : List Str) (sc : SC) (k : Nat) (e : Option Expr) (t : DTO) : Prop where
  ex : ∀ W : WX, ∃ te, (∀ X, Sit G N sc W k X → PO X e te) ∧ ImO G.K W te t
def dNoPart : DTO := fun _ env Q => Q none env
def dPart (t : DT) : DTO := fun Ex env Q => t Ex env fun x env1 => match x with
  | .ext (.int i) => Q (some i) env1
  | _ => False
theorem do_none : DO' G N sc k none dNoPart := ⟨fun W => ⟨tNoPart, fun X S => po_none, fun e Ex hl env T F σ H Q R hh ht hR => hR none H F env hh ht⟩⟩
theorem do_some (h : DE G N sc k a ta) : DO' G N sc k (some a) (dPart ta) := ⟨fun W => by
  obtain ⟨te, p1, i1⟩ := h.ex W
  refine ⟨tPart te, fun X S => po_some (p1 X S), fun e Ex hl env T F σ H Q R hh ht hR => ?_⟩
  refine i1 e Ex hl env T F σ H _ _ hh ht fun v H1 F1 env1 x hh1 q1 => ?_
  cases x with
  | ext d =>
    cases d with
    | int i => exact ⟨i, hh1.temps (v, .ext (.int i)) List.mem_cons_self, hR (some i) H1 F1 env1 hh1.pop q1⟩
    | _ => exact q1.elim
  | _ => exact q1.elim⟩
def cutD (xs : List D) (lo hi : Option Int) : List D := (xs.drop (HT.sIx xs.length 0 lo)).take (HT.sIx xs.length xs.length hi - HT.sIx xs.length 0 lo)
theorem Reps.cut {K : PySem.W.Frag} {F : Hp} {ds : List D} {vs : List V} (h : Reps K F ds vs) (lo hi : Option Int) : Reps K F (cutD ds lo hi) (cutV vs lo hi) := by
  unfold cutD cutV
  rw [h.length]
  exact (h.drop _).take _
def fSl (d : D) (lo hi : Option Int) (Q : Sl → Prop) : Prop := match d with
  | .lst ds => ∀ a, Q (.lst a (cutD ds lo hi))
  | .fz ds => ∀ a, Q (.lst a (cutD ds lo hi))
  | .tup ds => Q (.ext (.tup (cutD ds lo hi)))
  | _ => False
def dSl (ta : DT) (tl th : DTO) : DT := fun Ex env Q => ta Ex env fun x env1 => tl Ex env1 fun lo env2 => th Ex env2 fun hi env3 => wd env3 x fun d => fSl d lo hi fun sl => Q sl env3
theorem cut_whole {α : Type} {xs : List α} {lo hi : Option Int} (h : HT.sIx xs.length 0 lo = 0 ∧ HT.sIx xs.length xs.length hi = xs.length) : (xs.drop (HT.sIx xs.length 0 lo)).take (HT.sIx xs.length xs.length hi - HT.sIx xs.length 0 lo) = xs := by
  rw [h.1, h.2, List.drop_zero, Nat.sub_zero, List.take_length]
theorem de_slice {lo hi : Option Expr} {tl th : DTO} {p2 : Pos} (h : DE G N sc k a ta) (hl : DO' G N sc k lo tl) (hh : DO' G N sc k hi th) : DE G N sc k (.Subscript a (.Slice lo hi none p2) pos) (dSl ta tl th) := ⟨fun W => by
  obtain ⟨te, p1, i1⟩ := h.ex W
  obtain ⟨tl', p2', i2⟩ := hl.ex W
  obtain ⟨th', p3, i3⟩ := hh.ex W
  refine ⟨tSl (fun x lo hi H Q => rSlL G.K x lo hi H Q ∨ rSlF G.K x lo hi H Q) te tl' th', fun X S => pe_slice (by rw [← S.K]; exact sl_list.or sl_tupF) (p1 X S) (p2' X S) (p3 X S), fun e Ex hl env T F σ H Q R hh ht hR => ?_⟩
  refine i1 e Ex hl env T F σ H _ _ hh ht fun v H1 F1 env1 x hh1 q1 => ?_
  refine i2 e Ex hl env1 _ F1 σ H1 _ _ hh1 q1 fun lo' H2 F2 env2 hh2 q2 => ?_
  refine i3 e Ex hl env2 _ F2 σ H2 _ _ hh2 q2 fun hi' H3 F3 env3 hh3 q3 => ?_
  obtain ⟨d, rd, q4⟩ := hh3.wd (v := v) (sl := x) List.mem_cons_self q3
  have dn := hh3.pop.done hR
  cases d with
  | lst ds =>
    obtain ⟨b, vs, rfl, e1, r1⟩ := rd.lst hh3.fh
    exact .inl ⟨b, vs, rfl, SqL.of e1, fun p n => dn.lst hh3.fh n (r1.cut lo' hi') (q4 p)⟩
  | fz ds =>
    obtain ⟨b, vs, rfl, e1, r1⟩ := rd.fz hh3.fh
    exact .inl ⟨b, vs, rfl, e1, fun p n => dn.lst hh3.fh n (r1.cut lo' hi') (q4 p)⟩
  | tup ds =>
    obtain ⟨b, vs, rfl, e1, e2, r1⟩ := rd.tup hh3.fh
    refine .inr ⟨b, vs, rfl, e1, fun z => ?_, fun _ => dn.tup hh3.fh (r1.cut lo' hi') q4⟩
    refine dn.ext (d := .tup (cutD ds lo' hi')) hh3.fh ⟨b, vs, rfl, e2, ?_⟩ q4
    have q := r1.cut lo' hi'
    unfold cutV at q
    rw [cut_whole z] at q
    exact q
  | _ => exact q4.elim⟩
end
end HD
namespace HD
open PySem L2
abbrev DSpec := List Sl → (Sl → List Sl → Prop) → (Str → List Sl → Prop) → Prop
abbrev entOf (F H : Hp) (args : Env') : Ent := ⟨F, H, ownedE args⟩
def toSp (K : PySem.W.Frag) (n : Nat) (spec : DSpec) : Sp := fun vs H Q E => ∃ (F : Hp) (args : Env') (Qd : Sl → List Sl → Prop) (Xd : Str → List Sl → Prop),
  vs.length = n ∧ Holds K (entOf F H args) args [] F (vs.map some) H ∧ spec args Qd Xd ∧
  (∀ v H' F' r fin, Holds K (entOf F H args) fin [(v, r)] F' (vs.map some) H' → Qd r fin → Q v H') ∧
  (∀ c H' F' fin, Holds K (entOf F H args) fin [] F' (vs.map some) H' → Xd c fin → E (clsV K c) none H')
def rootOf : D → Option Addr
  | .val (.ref a) => some a
  | _ => none
theorem rootOf_some {d : D} {a : Addr} (h : rootOf d = some a) : d = .val (.ref a) := by
  unfold rootOf at h
  split at h
  · cases h; rfl
  · cases h
theorem rootOf_eq {d d' : D} (h : (rootOf d).isSome = true ∧ rootOf d = rootOf d') : d = d' := by
  obtain ⟨h1, h2⟩ := h
  cases e : rootOf d with
  | none => rw [e] at h1; cases h1
  | some a =>
    have e2 : rootOf d' = some a := by rw [← h2]; exact e
    rw [rootOf_some e, rootOf_some e2]
def fin1 : Sl → Option Sl → Sl
  | .ext d, _ => .ext d
  | .lst a _, some (.lst b ds) => if a = b then .lst a ds else .un
  | .reg d _, some (.reg d' cs) => if (rootOf d).isSome = true ∧ rootOf d = rootOf d' then .reg d cs else .un
  | _, _ => .un
def finals (args env : Env') : Env' := (List.range args.length).map fun i => fin1 (args.getD i .un) env[i]?
theorem finals_get {args env : Env'} {i : Nat} {sl : Sl} (h : (finals args env)[i]? = some sl) : ∃ s, args[i]? = some s ∧ sl = fin1 s env[i]? := by
  unfold finals at h
  rw [List.getElem?_map] at h
  by_cases hi : i < args.length
  · rw [List.getElem?_range hi] at h
    have e := Option.some.inj h
    refine ⟨args[i], List.getElem?_eq_getElem hi, ?_⟩
    rw [← e]
    show fin1 (args.getD i .un) _ = _
    rw [List.getD_eq_getElem?_getD, List.getElem?_eq_getElem hi]
    rfl
  · rw [List.getElem?_eq_none (by rw [List.length_range]; omega)] at h
    cases h
theorem fin1_owned (s : Sl) (o : Option Sl) : (fin1 s o).owned.Sublist ((o.getD .un).owned) := by
  cases s with
  | un => exact List.nil_sublist _
  | ext d => exact List.nil_sublist _
  | al i a => exact List.nil_sublist _
  | ar i a => exact List.nil_sublist _
  | reg d cs =>
    cases o with
    | none => exact List.nil_sublist _
    | some s' =>
      cases s' with
      | reg d' cs' =>
        show (if (rootOf d).isSome = true ∧ rootOf d = rootOf d' then Sl.reg d cs' else .un).owned.Sublist (cs'.map (·.1))
        split
        · exact List.Sublist.refl _
        · exact List.nil_sublist _
      | _ => exact List.nil_sublist _
  | lst a ds =>
    cases o with
    | none => exact List.nil_sublist _
    | some s' =>
      cases s' with
      | lst b es =>
        show (if a = b then Sl.lst a es else .un).owned.Sublist [b]
        split
        · rename_i e
          subst e
          exact List.Sublist.refl _
        · exact List.nil_sublist _
      | _ => exact List.nil_sublist _
theorem finals_owned (args env : Env') : (ownedE (finals args env)).Sublist (ownedE env) := by
  have key : ∀ (n : Nat), (ownedE ((List.range n).map fun i => fin1 (args.getD i .un) env[i]?)).Sublist (ownedE (env.take n)) := by
    intro n
    induction n with
    | zero => exact List.nil_sublist _
    | succ n ih =>
      rw [List.range_succ, List.map_append]
      unfold ownedE at ih ⊢
      rw [List.flatMap_append, List.take_add_one, List.flatMap_append]
      refine ih.append ?_
      rw [List.map_cons, List.map_nil, List.flatMap_cons, List.flatMap_nil, List.append_nil]
      refine (fin1_owned _ _).trans ?_
      cases env[n]? with
      | none => exact List.Sublist.refl _
      | some s =>
        show s.owned.Sublist ([s].flatMap Sl.owned)
        rw [List.flatMap_cons, List.flatMap_nil, List.append_nil]
        exact List.Sublist.refl _
  refine (key args.length).trans ?_
  unfold ownedE
  have z := congrArg (List.flatMap Sl.owned) (List.take_append_drop args.length env)
  rw [List.flatMap_append] at z
  rw [← z]
  exact List.sublist_append_left _ _
theorem Holds.finals {K : PySem.W.Frag} {F H F' H' : Hp} {args env : Env'} {T : Tmp} {σ' : St} {vs : List V} (h0 : Holds K (entOf F H args) args [] F (vs.map some) H) (h : Holds K (entOf F H args) env T F' σ' H') : Holds K (entOf F H args) (HD.finals args env) T F' (vs.map some) H' := by
  have sub : (ownedE (HD.finals args env) ++ ownedT T).Sublist (ownedE env ++ ownedT T) := (finals_owned args env).append (List.Sublist.refl _)
  refine ⟨h.fh, ?_, fun i sl q => ?_, h.temps, h.nd.sublist sub, h.s1, h.s2, fun a ha => h.s3 a (sub.subset ha)⟩
  · rw [← h0.len]
    unfold HD.finals
    rw [List.length_map, List.length_range]
  · obtain ⟨s, hs, rfl⟩ := finals_get q
    rcases h0.slots i s hs with z | ⟨v, hv, ok⟩
    · subst z
      exact .inl rfl
    · cases s with
      | un => exact .inl rfl
      | al j a => exact .inl rfl
      | ar j a => exact .inl rfl
      | reg d cs =>
        cases e : env[i]? with
        | none => exact .inl rfl
        | some s' =>
          cases s' with
          | reg d' cs' =>
            show (if (rootOf d).isSome = true ∧ rootOf d = rootOf d' then Sl.reg d cs' else .un) = .un ∨ ∃ v, _ ∧ SlOk K F' H' v (if (rootOf d).isSome = true ∧ rootOf d = rootOf d' then Sl.reg d cs' else .un)
            split
            · rename_i dd
              have ed := rootOf_eq dd
              subst ed
              rcases h.slots i _ e with z | ⟨w, _, ok'⟩
              · cases z
              · exact .inr ⟨v, hv, Rep.same h.s1 ok.1, ok'.2⟩
            · exact .inl rfl
          | _ => exact .inl rfl
      | ext d => exact .inr ⟨v, hv, Rep.same h.s1 ok⟩
      | lst a ds =>
        obtain ⟨rfl, _⟩ := ok
        cases e : env[i]? with
        | none => exact .inl rfl
        | some s' =>
          cases s' with
          | lst b es =>
            show (if a = b then Sl.lst a es else .un) = .un ∨ ∃ v, _ ∧ SlOk K F' H' v (if a = b then Sl.lst a es else .un)
            split
            · rename_i ab
              subst ab
              rcases h.slots i _ e with z | ⟨w, _, ok'⟩
              · cases z
              · obtain ⟨rfl, r⟩ := ok'
                exact .inr ⟨_, hv, rfl, r⟩
            · exact .inl rfl
          | _ => exact .inl rfl
mutual
def D.imm : D → Bool
  | .lst _ => false
  | .exc _ => false
  | .fz _ => false
  | .dk _ _ => false
  | .dt _ _ => false
  | .tup ds => D.imms ds
  | .tk ds => D.imms ds
  | _ => true
def D.imms : List D → Bool
  | [] => true
  | d :: ds => D.imm d && D.imms ds
end
mutual
theorem Rep.ofT {K : PySem.W.Frag} {F F' : Hp} (t : ∀ a xs, SqT K F a xs → SqT K F' a xs) (t2 : ∀ a xs, TupD K F a xs → TupD K F' a xs) : ∀ {d : D} {v : V}, d.imm = true → Rep K F d v → Rep K F' d v
  | .non, _, _, h => h
  | .bl _, _, _, h => h
  | .int _, _, _, h => h
  | .str _, _, _, h => h
  | .val _, _, _, h => h
  | .lst _, _, n, _ => nomatch n
  | .fz _, _, n, _ => nomatch n
  | .exc _, _, n, _ => nomatch n
  | .dk _ _, _, n, _ => nomatch n
  | .dt _ _, _, n, _ => nomatch n
  | .glo _, _, _, h => h
  | .tup _, _, n, h => by
    obtain ⟨a, xs, rfl, hs, hr⟩ := h
    exact ⟨a, xs, rfl, t2 _ _ hs, Reps.ofT t t2 n hr⟩
  | .tk _, _, n, h => by
    obtain ⟨a, xs, rfl, hs, hr⟩ := h
    exact ⟨a, xs, rfl, t _ _ hs, Reps.ofT t t2 n hr⟩
theorem Reps.ofT {K : PySem.W.Frag} {F F' : Hp} (t : ∀ a xs, SqT K F a xs → SqT K F' a xs) (t2 : ∀ a xs, TupD K F a xs → TupD K F' a xs) : ∀ {ds : List D} {vs : List V}, D.imms ds = true → Reps K F ds vs → Reps K F' ds vs
  | [], _, _, h => h
  | d :: ds, _, n, h => by
    obtain ⟨v, r, rfl, h1, h2⟩ := h
    have n' : (D.imm d && D.imms ds) = true := n
    rw [Bool.and_eq_true] at n'
    exact ⟨v, r, rfl, Rep.ofT t t2 n'.1 h1, Reps.ofT t t2 n'.2 h2⟩
end
def Sl.imm : Sl → Bool
  | .ext d => d.imm
  | .lst _ ds => D.imms ds
  | _ => false
section
variable {K : PySem.W.Frag} {e : Ent} {env : Env'} {T : Tmp} {F : Hp} {σ : St} {H : Hp}
structure Left (A : List Addr) (F H F' H' : Hp) : Prop where
  ff : Same F F'
  fh : Same F' H'
  out : ∀ b o, H b = some o → b ∉ A → H' b = some o ∧ (F b = none → F' b = none)
theorem SlOk.left {A : List Addr} {F' H' : Hp} {v : V} {sl : Sl} (l : Left A F H F' H') (n : ∀ a ∈ sl.owned, a ∉ A) (h : SlOk K F H v sl) : SlOk K F' H' v sl := by
  cases sl with
  | un => trivial
  | ext d => exact Rep.same l.ff h
  | al i b => exact h
  | lst b ds =>
    obtain ⟨rfl, q, us, hv, hr⟩ := h
    obtain ⟨q1, q2⟩ := l.out b _ hv (n b (List.mem_singleton.mpr rfl))
    exact ⟨rfl, q2 q, us, q1, hr.same l.ff⟩
  | ar i b => exact h
  | reg b cs =>
    obtain ⟨rd, nd, hc⟩ := h
    refine ⟨Rep.same l.ff rd, nd, fun p hp => ?_⟩
    obtain ⟨q, o', ho, ok⟩ := hc p hp
    obtain ⟨q1, q2⟩ := l.out p.1 _ ho (n p.1 (List.mem_map.mpr ⟨p, hp, rfl⟩))
    exact ⟨q2 q, o', q1, ok.same l.ff⟩
theorem Holds.left0 {F' H' : Hp} {v : V} {r : Sl} (h : Holds K e env T F σ H) (l : Left [] F H F' H') (ok : SlOk K F' H' v r) (own : ∀ a ∈ r.owned, H a = none) : Holds K e env ((v, r) :: T) F' σ H' := by
  have h1 : Holds K e env T F' σ H' := by
    refine ⟨l.fh, h.len, fun i sl q => ?_, fun p hp => (h.temps p hp).left l (fun _ _ z => nomatch z), h.nd, h.s1.trans l.ff, fun a o q n => ?_, h.s3⟩
    · rcases h.slots i sl q with z | ⟨w, hw, ok⟩
      · exact .inl z
      · exact .inr ⟨w, hw, ok.left l fun _ _ z => nomatch z⟩
    · obtain ⟨q1, q2⟩ := h.s2 a o q n
      obtain ⟨r1, r2⟩ := l.out a o q1 (fun z => nomatch z)
      exact ⟨r1, fun z => r2 (q2 z)⟩
  have old := h.ownedH
  have ndo : r.owned.Nodup := ok.ndo
  have dis : ∀ a ∈ r.owned, a ∉ ownedE env ++ ownedT T := fun a ha hb => by
    obtain ⟨_, vs, q⟩ := old a hb
    rw [own a ha] at q
    cases q
  refine ⟨h1.fh, h1.len, h1.slots, fun p hp => ?_, ?_, h1.s1, h1.s2, fun a ha => ?_⟩
  · rcases List.mem_cons.mp hp with rfl | hp
    · exact ok
    · exact h1.temps p hp
  · show (ownedE env ++ (r.owned ++ ownedT T)).Nodup
    have z := h.nd
    rw [List.nodup_append] at z ⊢
    obtain ⟨z1, z2, z3⟩ := z
    refine ⟨z1, ?_, fun a ha b hb => ?_⟩
    · rw [List.nodup_append]
      exact ⟨ndo, z2, fun a ha b hb e => dis a ha (by rw [e]; exact List.mem_append_right _ hb)⟩
    · rcases List.mem_append.mp hb with hb | hb
      · exact fun e => dis b hb (by rw [← e]; exact List.mem_append_left _ ha)
      · exact z3 a ha b hb
  · have ha' : a ∈ ownedE env ++ (r.owned ++ ownedT T) := ha
    rcases List.mem_append.mp ha' with hb | hb
    · exact h.s3 a (List.mem_append_left _ hb)
    · rcases List.mem_append.mp hb with hb | hb
      · have hn := own a hb
        cases q : e.H0 a with
        | none => exact .inr rfl
        | some o =>
          by_cases hA : a ∈ e.A0
          · exact .inl hA
          · rw [(h.s2 a o q hA).1] at hn
            cases hn
      · exact h.s3 a (List.mem_append_right _ hb)
theorem Holds.left1 {F' H' : Hp} {v : V} {r s' : Sl} {i : Nat} {a : Addr} {ds : List D} (h : Holds K e env T F σ H) (hi : env[i]? = some (.lst a ds)) (l : Left [a] F H F' H') (ok : SlOk K F' H' v r) (ok' : SlOk K F' H' (.ref a) s')
    (own : ∀ b ∈ s'.owned ++ r.owned, b = a ∨ H b = none) (nd : (s'.owned ++ r.owned).Nodup) (hp : s'.plain) : Holds K e (env.set i s') ((v, r) :: T) F' σ H' := by
  obtain ⟨hv0, hF0⟩ : (∃ w, σ[i]? = some (some w) ∧ w = .ref a) ∧ F a = none := by
    rcases h.slots i _ hi with z | ⟨w, hw, e1, e2, _⟩
    · cases z
    · exact ⟨⟨w, hw, e1⟩, e2⟩
  obtain ⟨w, hw, rfl⟩ := hv0
  -- the slot's object as a temp, then dropped: the others
  have h0 := (h.take hi hw).pop
  have hx := h.take hi hw
  have na : ∀ b ∈ ownedE (env.set i .un) ++ ownedT T, b ≠ a := fun b hb z => by
    subst z
    have nd := hx.nd
    have perm : (ownedE (env.set i .un) ++ (([b] : List Addr) ++ ownedT T)).Perm ([b] ++ (ownedE (env.set i .un) ++ ownedT T)) := by
      rw [← List.append_assoc, ← List.append_assoc]
      exact List.Perm.append_right _ List.perm_append_comm
    have nd' : ([b] ++ (ownedE (env.set i .un) ++ ownedT T)).Nodup := perm.nodup nd
    exact (List.nodup_append.mp nd').2.2 b (List.mem_singleton.mpr rfl) b hb rfl
  have h1 : Holds K e (env.set i .un) T F' σ H' := by
    refine ⟨l.fh, h0.len, fun j sl q => ?_, fun p hp => (h0.temps p hp).left l (fun b hb z => ?_), h0.nd, h0.s1.trans l.ff, fun b o q n => ?_, h0.s3⟩
    · rcases h0.slots j sl q with z | ⟨w, hw, ok⟩
      · exact .inl z
      · refine .inr ⟨w, hw, ok.left l fun b hb z => ?_⟩
        exact na b (List.mem_append_left _ (mem_ownedE q hb)) (List.mem_singleton.mp z)
    · exact na b (List.mem_append_right _ (List.mem_flatMap.mpr ⟨p, hp, hb⟩)) (List.mem_singleton.mp z)
    · obtain ⟨q1, q2⟩ := h0.s2 b o q n
      have nb : b ∉ [a] := fun z => by
        rw [List.mem_singleton.mp z] at q n
        have mm : a ∈ ownedE env ++ ownedT T := List.mem_append_left _ (mem_ownedE hi (List.mem_singleton.mpr rfl))
        rcases h.s3 a mm with y | y
        · exact n y
        · rw [q] at y
          cases y
      obtain ⟨r1, r2⟩ := l.out b o q1 nb
      exact ⟨r1, fun z => r2 (q2 z)⟩
  have old := h0.ownedH
  have dis : ∀ b ∈ s'.owned ++ r.owned, b ∉ ownedE (env.set i .un) ++ ownedT T := fun b hb hc => by
    rcases own b hb with z | z
    · exact na b hc z
    · obtain ⟨_, vs, q⟩ := old b hc
      rw [z] at q
      cases q
  have fin3 : ∀ b ∈ s'.owned ++ r.owned, b ∈ e.A0 ∨ e.H0 b = none := fun b hb => by
    rcases own b hb with z | z
    · subst z
      exact h.s3 b (List.mem_append_left _ (mem_ownedE hi (List.mem_singleton.mpr rfl)))
    · cases q : e.H0 b with
      | none => exact .inr rfl
      | some o =>
        by_cases hA : b ∈ e.A0
        · exact .inl hA
        · rw [(h.s2 b o q hA).1] at z
          cases z
  -- both come in as temps, then the slot is set
  have h2 : Holds K e (env.set i .un) ((.ref a, s') :: (v, r) :: T) F' σ H' := by
    refine ⟨h1.fh, h1.len, h1.slots, fun p hp => ?_, ?_, h1.s1, h1.s2, fun b hb => ?_⟩
    · rcases List.mem_cons.mp hp with rfl | hp
      · exact ok'
      · rcases List.mem_cons.mp hp with rfl | hp
        · exact ok
        · exact h1.temps p hp
    · show (ownedE (env.set i .un) ++ (s'.owned ++ (r.owned ++ ownedT T))).Nodup
      have z := h0.nd
      rw [← List.append_assoc s'.owned]
      rw [List.nodup_append] at z ⊢
      obtain ⟨z1, z2, z3⟩ := z
      refine ⟨z1, ?_, fun b hb c hc => ?_⟩
      · rw [List.nodup_append]
        exact ⟨nd, z2, fun b hb c hc e => dis b hb (by rw [e]; exact List.mem_append_right _ hc)⟩
      · rcases List.mem_append.mp hc with hc | hc
        · exact fun e => dis c hc (by rw [← e]; exact List.mem_append_left _ hb)
        · exact z3 b hb c hc
    · have hb' : b ∈ ownedE (env.set i .un) ++ (s'.owned ++ (r.owned ++ ownedT T)) := hb
      rw [← List.append_assoc s'.owned] at hb'
      rcases List.mem_append.mp hb' with hc | hc
      · exact h0.s3 b (List.mem_append_left _ hc)
      · rcases List.mem_append.mp hc with hc | hc
        · exact fin3 b hc
        · exact h0.s3 b (List.mem_append_right _ hc)
  have h3 := h2.assign i hp
  rw [List.set_set] at h3
  have z : σ.set i (some (.ref a)) = σ := by
    obtain ⟨hl, q⟩ := List.getElem?_eq_some_iff.mp hw
    rw [← q]
    exact List.set_getElem_self hl
  rw [z] at h3
  exact h3
end
def anyAl : List Sl → Bool
  | [] => false
  | .al _ _ :: _ => true
  | .ar _ _ :: _ => true
  | _ :: r => anyAl r
section
variable {K : PySem.W.Frag} {e : Ent} {env : Env'} {T : Tmp} {σ : St} {H : Hp}
theorem Holds.lend : ∀ {vs : List V} {xs : List Sl} {q : List D → Prop} {F : Hp}, vs.length = xs.length → Holds K e env (vs.zip xs ++ T) F σ H → HD.wds env xs q →
    ∃ ds F1 Fc, q ds ∧ Holds K e env T F1 σ H ∧ Same F F1 ∧ Same F1 Fc ∧ Reps K Fc ds vs ∧ Same Fc H ∧ (∀ b, Fc b ≠ none → F1 b ≠ none ∨ b ∈ ownedE env) ∧ (anyAl xs = false → Fc = F1)
  | [], [], q, F, _, h, w => ⟨[], F, F, w, h, Same.refl _, Same.refl _, rfl, h.fh, fun _ z => .inl z, fun _ => rfl⟩
  | [], _ :: _, _, _, le, _, _ => by cases le
  | _ :: _, [], _, _, le, _, _ => by cases le
  | v :: vs, x :: xs, q, F, le, h, w => by
    have le' : vs.length = xs.length := by simpa using le
    cases x with
    | un => exact w.elim
    | reg _ _ => exact w.elim
    | ar i b =>
      have ev : v = .ref b := h.temps (v, .ar i b) List.mem_cons_self
      have h' : Holds K e env (vs.zip xs ++ T) F σ H := h.pop
      have w' : (match env[i]? with | some (.reg _ cs) => (match cellOf cs b with | some (.lst ds) => HD.wds env xs (fun es => q (.lst ds :: es)) | _ => False) | _ => False) := w
      split at w'
      · rename_i dr cs hb
        split at w'
        · rename_i es hc
          obtain ⟨ds, F1, Fc, w1, h1, s1, s2, r, fh, nw, na⟩ := Holds.lend (q := fun ds => q (.lst es :: ds)) le' h' w'
          obtain ⟨e2, o, hv, us, rfl, hr⟩ := h1.cell hb hc
          have s3 : Same Fc (upd Fc b (.lst us)) := fun c o qc => by
            by_cases nc : c = b
            · rw [nc] at qc ⊢
              have := fh _ _ qc
              rw [hv] at this
              rw [upd_same]
              exact this
            · rw [upd_ne nc]
              exact qc
          refine ⟨.lst es :: ds, F1, upd Fc b (.lst us), w1, h1, s1, s2.trans s3, ⟨v, vs, rfl, ⟨b, us, ev, upd_same, hr.same (s2.trans s3)⟩, r.same s3⟩, fun c o qc => ?_, fun c nc => ?_, fun z => nomatch z⟩
          · by_cases ec : c = b
            · rw [ec, upd_same] at qc
              rw [ec, hv]
              exact qc
            · rw [upd_ne ec] at qc
              exact fh _ _ qc
          · by_cases ec : c = b
            · rw [ec]
              exact .inr (mem_ownedE hb (List.mem_map.mpr ⟨(b, .lst es), cellOf_mem hc, rfl⟩))
            · rw [upd_ne ec] at nc
              exact nw c nc
        · exact w'.elim
      · exact w'.elim
    | ext d =>
      have rd : Rep K F d v := h.temps (v, .ext d) List.mem_cons_self
      have h' : Holds K e env (vs.zip xs ++ T) F σ H := h.pop
      obtain ⟨ds, F1, Fc, w1, h1, s1, s2, r, fh, nw, na⟩ := Holds.lend (q := fun ds => q (d :: ds)) le' h' w
      exact ⟨d :: ds, F1, Fc, w1, h1, s1, s2, ⟨v, vs, rfl, Rep.same (s1.trans s2) rd, r⟩, fh, nw, na⟩
    | lst a es =>
      obtain ⟨F0, s0, h0⟩ := h.freezeT
      have rd : Rep K F0 (.lst es) v := h0.temps (v, .ext (.lst es)) List.mem_cons_self
      have h' : Holds K e env (vs.zip xs ++ T) F0 σ H := h0.pop
      obtain ⟨ds, F1, Fc, w1, h1, s1, s2, r, fh, nw, na⟩ := Holds.lend (q := fun ds => q (.lst es :: ds)) le' h' w
      exact ⟨.lst es :: ds, F1, Fc, w1, h1, s0.trans s1, s2, ⟨v, vs, rfl, Rep.same (s1.trans s2) rd, r⟩, fh, nw, na⟩
    | al i a =>
      have ev : v = .ref a := h.temps (v, .al i a) List.mem_cons_self
      have h' : Holds K e env (vs.zip xs ++ T) F σ H := h.pop
      have w' : (match env[i]? with | some (.lst b ds) => b = a ∧ HD.wds env xs (fun es => q (.lst ds :: es)) | _ => False) := w
      split at w'
      · rename_i b es hb
        obtain ⟨rfl, w'⟩ := w'
        obtain ⟨ds, F1, Fc, w1, h1, s1, s2, r, fh, nw, na⟩ := Holds.lend (q := fun ds => q (.lst es :: ds)) le' h' w'
        rcases h1.slots i _ hb with z | ⟨u, hu, e1, e2, us, hv, hr⟩
        · cases z
        · have s3 : Same Fc (upd Fc b (.lst us)) := fun c o qc => by
            by_cases nc : c = b
            · rw [nc] at qc ⊢
              have := fh _ _ qc
              rw [hv] at this
              rw [upd_same]
              exact this
            · rw [upd_ne nc]
              exact qc
          refine ⟨.lst es :: ds, F1, upd Fc b (.lst us), w1, h1, s1, s2.trans s3, ⟨v, vs, rfl, ⟨b, us, ev, upd_same, hr.same (s2.trans s3)⟩, r.same s3⟩, fun c o qc => ?_, fun c nc => ?_, fun z => nomatch z⟩
          · by_cases ec : c = b
            · rw [ec, upd_same] at qc
              rw [ec, hv]
              exact qc
            · rw [upd_ne ec] at qc
              exact fh _ _ qc
          · by_cases ec : c = b
            · rw [ec]
              exact .inr (mem_ownedE hb (List.mem_singleton.mpr rfl))
            · rw [upd_ne ec] at nc
              exact nw c nc
      · exact w'.elim
theorem Holds.thaw {F1 Fc F' H' : Hp} (h : Holds K e env T F1 σ H) (s2 : Same F1 Fc) (nw : ∀ b, Fc b ≠ none → F1 b ≠ none ∨ b ∈ ownedE env) (l : Left [] Fc H F' H') :
    ∃ F2, Left [] F1 H F2 H' ∧ (∀ (d : D) (v : V), d.imm = true → Rep K F' d v → Rep K F2 d v) ∧ (∀ (ds : List D) (vs : List V), D.imms ds = true → Reps K F' ds vs → Reps K F2 ds vs) ∧ ∀ b, F' b = none → F2 b = none := by
  have old := h.ownedL
  have sT : ∀ a xs, SqT K F' a xs → SqT K (fun b => if b ∈ ownedE env then none else F' b) a xs := fun a xs hs => by
    have out : ∀ o, F' a = some o → a ∈ ownedE env → Loose o := fun o q m => by
      obtain ⟨_, us, hu, lo⟩ := old a (List.mem_append_left _ m)
      have z := (l.out a _ hu (fun z => nomatch z)).1
      rw [l.fh _ _ q] at z
      rw [Option.some.inj z]
      exact lo
    rcases hs with (hs | ⟨o, hs⟩) | hs
    · refine .inl (.inl ?_)
      have n : a ∉ ownedE env := fun m => by
        obtain ⟨z1, z2⟩ := out _ hs m
        first | exact z1 _ rfl | exact z2 _ _ rfl
      show (if a ∈ ownedE env then none else F' a) = _
      rw [if_neg n]
      exact hs
    · refine .inl (.inr ⟨o, ?_⟩)
      have n : a ∉ ownedE env := fun m => by
        obtain ⟨z1, z2⟩ := out _ hs m
        first | exact z1 _ rfl | exact z2 _ _ rfl
      show (if a ∈ ownedE env then none else F' a) = _
      rw [if_neg n]
      exact hs
    · exact .inr hs
  have sD : ∀ a xs, TupD K F' a xs → TupD K (fun b => if b ∈ ownedE env then none else F' b) a xs := fun a xs hs => by
    rcases hs with ⟨o, hs, d⟩ | hs
    · refine .inl ⟨o, ?_, d⟩
      have n : a ∉ ownedE env := fun m => by
        obtain ⟨_, us, hu, lo⟩ := old a (List.mem_append_left _ m)
        have z := (l.out a _ hu (fun z => nomatch z)).1
        rw [l.fh _ _ hs] at z
        cases z
        obtain ⟨z1, z2⟩ := lo
        first | exact z1 _ rfl | exact z2 _ _ rfl
      show (if a ∈ ownedE env then none else F' a) = _
      rw [if_neg n]
      exact hs
    · exact .inr hs
  refine ⟨fun b => if b ∈ ownedE env then none else F' b, ⟨fun b o q => ?_, fun b o q => ?_, fun b o q n => ?_⟩, fun d v n r => Rep.ofT sT sD n r, fun ds vs n r => Reps.ofT sT sD n r, fun b q => ?_⟩
  · have n : b ∉ ownedE env := fun m => by
      rw [(old b (List.mem_append_left _ m)).1] at q
      cases q
    show (if b ∈ ownedE env then none else F' b) = _
    rw [if_neg n]
    exact l.ff _ _ (s2 _ _ q)
  · have q' : (if b ∈ ownedE env then none else F' b) = some o := q
    split at q'
    · cases q'
    · exact l.fh _ _ q'
  · obtain ⟨r1, r2⟩ := l.out b o q n
    refine ⟨r1, fun z => ?_⟩
    show (if b ∈ ownedE env then none else F' b) = none
    by_cases m : b ∈ ownedE env
    · rw [if_pos m]
    · rw [if_neg m]
      refine r2 ?_
      cases y : Fc b with
      | none => rfl
      | some o' =>
        rcases nw b (by rw [y]; simp) with t | t
        · exact absurd z t
        · exact absurd t m
  · show (if b ∈ ownedE env then none else F' b) = none
    split
    · rfl
    · exact q
theorem ownedE_ext (ds : List D) : ownedE (ds.map Sl.ext) = [] := by
  unfold ownedE
  rw [List.flatMap_eq_nil_iff]
  intro x hx
  obtain ⟨d, _, rfl⟩ := List.mem_map.mp hx
  rfl
theorem argsE {F : Hp} {ds : List D} {vs : List V} (fh : Same F H) (r : Reps K F ds vs) : Holds K (entOf F H (ds.map .ext)) (ds.map .ext) [] F (vs.map some) H := by
  have own := ownedE_ext ds
  refine ⟨fh, by rw [List.length_map, List.length_map, r.length], fun i sl q => ?_, (fun p hp => nomatch hp), by rw [own]; exact List.nodup_nil, Same.refl _, fun a o q _ => ⟨q, fun z => z⟩, fun a ha => ?_⟩
  · rw [List.getElem?_map] at q
    cases z : ds[i]? with
    | none =>
      rw [z] at q
      cases q
    | some d =>
      rw [z] at q
      have e := Option.some.inj q
      subst e
      obtain ⟨v, hv, rd⟩ := r.get z
      exact .inr ⟨v, by rw [List.getElem?_map, hv]; rfl, rd⟩
  · rw [own] at ha
    cases ha
end
def dCall (spec : DSpec) (ta : DTA) : DT := fun Ex env Q => ta Ex env fun xs env1 => wds env1 xs fun ds =>
  spec (ds.map .ext) (fun r _ => (anyAl xs = false ∨ r.imm = true) ∧ r.plain ∧ Q r env1) (fun c _ => Ex c env1)
theorem im_call {K : PySem.W.Frag} {W : WX} {spec : DSpec} {n : Nat} {ta : TA} {t : DTA} (h : ImA K W ta t) (hn : ∀ ds Q X, spec ds Q X → ds.length = n) : Im K W (tCallS (toSp K n spec) (WE W) ta) (dCall spec t) := fun e Ex hl env T F σ H Q R hh ht hR => by
  refine h e Ex hl env T F σ H _ _ hh ht fun vs H1 F1 env1 xs le hh1 q1 => ?_
  obtain ⟨ds, F2, Fc, q2, hh2, sm1, sm2, rr, fh, nw, na⟩ := hh1.lend le q1
  have back : ∀ (H' F' : Hp), Same Fc F' → Same F' H' → (∀ a o, H1 a = some o → a ∉ ownedE (ds.map Sl.ext) → H' a = some o ∧ (Fc a = none → F' a = none)) → Left [] Fc H1 F' H' := fun H' F' a b c => ⟨a, b, fun x o q _ => c x o q (by rw [ownedE_ext]; exact fun z => nomatch z)⟩
  refine ⟨Fc, ds.map .ext, _, _, ?_, argsE fh rr, q2, fun v H' F' r fin hf hq => ?_, fun c H' F' fin hf hq => ?_⟩
  · rw [← hn _ _ _ q2, List.length_map, rr.length]
  · obtain ⟨qi, qp, q3⟩ := hq
    have l := back H' F' hf.s1 hf.fh hf.s2
    have own : ∀ a ∈ r.owned, H1 a = none := fun a ha => by
      have m : a ∈ ownedE fin ++ ownedT [(v, r)] := List.mem_append_right _ (by
        show a ∈ r.owned ++ []
        rw [List.append_nil]
        exact ha)
      rcases hf.s3 a m with z | z
      · have z' : a ∈ ownedE (ds.map Sl.ext) := z
        rw [ownedE_ext] at z'
        cases z'
      · exact z
    have ok := hf.temps (v, r) List.mem_cons_self
    by_cases al : anyAl xs = false
    · have ec := na al
      subst ec
      exact hR v H' F' env1 r (hh2.left0 l ok own) q3
    · have im : r.imm = true := by
        rcases qi with z | z
        · exact absurd z al
        · exact z
      obtain ⟨F3, l3, t1, t2, t3⟩ := hh2.thaw sm2 nw l
      refine hR v H' F3 env1 r (hh2.left0 l3 ?_ own) q3
      cases r with
      | un => exact nomatch im
      | al i a => exact nomatch im
      | reg _ _ => exact nomatch im
      | ar _ _ => exact nomatch im
      | ext d => exact t1 d v im ok
      | lst a es =>
        obtain ⟨e1, e2, us, hu, hr⟩ := ok
        exact ⟨e1, t3 _ e2, us, hu, t2 es us im hr⟩
  · have l := back H' F' hf.s1 hf.fh hf.s2
    obtain ⟨F3, l3, _, _, _⟩ := hh2.thaw sm2 nw l
    have h4 := hh2.left0 (v := .non) (r := .ext .non) l3 rfl (fun a z => nomatch z)
    exact hl c env1 F3 σ H' h4.bare hq
def dCallJ (spec : DSpec) (i : Nat) (ta : DTA) : DT := fun Ex env Q => match env[i]? with
  | some (.lst a _) => ta Ex env fun xs env1 => match env1[i]? with
    | some (.lst b ds) => b = a ∧ frozs env1 xs fun es => spec (.lst a ds :: es.map .ext)
        (fun r fin => match fin with | s' :: _ => s'.plain ∧ r.plain ∧ Q r (env1.set i s') | [] => False) (fun c fin => match fin with | s' :: _ => s'.plain ∧ Ex c (env1.set i s') | [] => False)
    | _ => False
  | _ => False
theorem im_callJ {K : PySem.W.Frag} {W : WX} {spec : DSpec} {n i : Nat} {ta : TA} {t : DTA} (h : ImA K W ta t) (hn : ∀ ds Q X, spec ds Q X → ds.length = n) : Im K W (tCallS (toSp K n spec) (WE W) (tCons (tVar i) ta)) (dCallJ spec i t) := fun e Ex hl env T F σ H Q R hh ht hR => by
  unfold dCallJ at ht
  split at ht
  · rename_i a ds0 hi0
    rcases hh.slots i _ hi0 with z | ⟨v0, hv0, e0, _⟩
    · cases z
    · subst e0
      refine ⟨_, hv0, ?_⟩
      refine h e Ex hl env T F σ H _ _ hh ht fun vs H1 F1 env1 xs le hh1 q1 => ?_
      split at q1
      · rename_i b ds hi
        obtain ⟨rfl, q1⟩ := q1
        obtain ⟨es, F2, sm, hh2, rr, q2⟩ := hh1.frozs le q1
        have own0 : ownedE (Sl.lst b ds :: es.map Sl.ext) = [b] := by
          show [b] ++ ownedE (es.map Sl.ext) = [b]
          rw [ownedE_ext, List.append_nil]
        have hs := hh2.slots i _ hi
        have okJ : SlOk K F2 H1 (.ref b) (.lst b ds) := by
          rcases hs with z | ⟨w, _, e1, r⟩
          · cases z
          · exact ⟨rfl, r⟩
        have hE := argsE (K := K) hh2.fh rr
        have hA : Holds K (entOf F2 H1 (Sl.lst b ds :: es.map Sl.ext)) (Sl.lst b ds :: es.map Sl.ext) [] F2 ((V.ref b :: vs).map some) H1 := by
          refine ⟨hh2.fh, ?_, fun j sl q => ?_, (fun p hp => nomatch hp), ?_, Same.refl _, fun a o q _ => ⟨q, fun z => z⟩, fun a ha => ?_⟩
          · have z := hE.len
            show (es.map Sl.ext).length + 1 = (vs.map some).length + 1
            rw [z]
          · cases j with
            | zero =>
              have z := Option.some.inj q
              subst z
              exact .inr ⟨.ref b, rfl, okJ⟩
            | succ j => exact hE.slots j sl q
          · rw [own0]
            show ([b] ++ ([] : List Addr)).Nodup
            simp
          · rw [show ownedT ([] : Tmp) = [] from rfl, List.append_nil] at ha
            exact .inl ha
        have back : ∀ (H' F' : Hp) (fin : Env') (U : Tmp), Holds K (entOf F2 H1 (Sl.lst b ds :: es.map Sl.ext)) fin U F' ((V.ref b :: vs).map some) H' → Left [b] F2 H1 F' H' := fun H' F' fin U hf =>
          ⟨hf.s1, hf.fh, fun x o q nx => hf.s2 x o q (by
            show x ∉ ownedE (Sl.lst b ds :: es.map Sl.ext)
            rw [own0]
            exact nx)⟩
        have ownF : ∀ (H' F' : Hp) (fin : Env') (U : Tmp), Holds K (entOf F2 H1 (Sl.lst b ds :: es.map Sl.ext)) fin U F' ((V.ref b :: vs).map some) H' → ∀ x ∈ ownedE fin ++ ownedT U, x = b ∨ H1 x = none := fun H' F' fin U hf x hx => by
          rcases hf.s3 x hx with z | z
          · have z' : x ∈ ownedE (Sl.lst b ds :: es.map Sl.ext) := z
            rw [own0] at z'
            exact .inl (List.mem_singleton.mp z')
          · exact .inr z
        refine ⟨F2, Sl.lst b ds :: es.map Sl.ext, _, _, ?_, hA, q2, fun v H' F' r fin hf hq => ?_, fun c H' F' fin hf hq => ?_⟩
        · rw [← hn _ _ _ q2]
          show vs.length + 1 = (es.map Sl.ext).length + 1
          rw [List.length_map, rr.length]
        · cases fin with
          | nil => exact hq.elim
          | cons s' fr =>
            obtain ⟨qs, qr, q3⟩ := hq
            have ok' : SlOk K F' H' (.ref b) s' := by
              rcases hf.slots 0 s' rfl with z | ⟨w, hw, ok⟩
              · subst z
                trivial
              · have z := Option.some.inj (Option.some.inj hw)
                subst z
                exact ok
            have sub : (s'.owned ++ r.owned).Sublist (ownedE (s' :: fr) ++ ownedT [(v, r)]) := by
              show (s'.owned ++ r.owned).Sublist ((s'.owned ++ ownedE fr) ++ (r.owned ++ []))
              rw [List.append_nil]
              exact (List.sublist_append_left _ _).append (List.Sublist.refl _)
            exact hR v H' F' _ r (hh2.left1 hi (back H' F' _ _ hf) (hf.temps (v, r) List.mem_cons_self) ok' (fun x hx => ownF H' F' _ _ hf x (sub.subset hx)) (hf.nd.sublist sub) qs) q3
        · cases fin with
          | nil => exact hq.elim
          | cons s' fr =>
            obtain ⟨qs, q3⟩ := hq
            have ok' : SlOk K F' H' (.ref b) s' := by
              rcases hf.slots 0 s' rfl with z | ⟨w, hw, ok⟩
              · subst z
                trivial
              · have z := Option.some.inj (Option.some.inj hw)
                subst z
                exact ok
            have sub : (s'.owned ++ (Sl.ext .non).owned).Sublist (ownedE (s' :: fr) ++ ownedT []) := by
              show (s'.owned ++ []).Sublist ((s'.owned ++ ownedE fr) ++ [])
              rw [List.append_nil, List.append_nil]
              exact List.sublist_append_left _ _
            have h5 := hh2.left1 (v := .non) (r := .ext .non) hi (back H' F' _ _ hf) rfl ok' (fun x hx => ownF H' F' _ _ hf x (sub.subset hx)) (hf.nd.sublist sub) qs
            exact hl c _ F' σ H' h5.bare q3
      · exact q1.elim
  · exact ht.elim
structure Def (G : GG) (kf : Nat) (x : Str) (n : Nat) (spec : DSpec) : Prop where
  ex : ∃ f fd ps, FnG G.P G.w G.K G.mg G.base (L2.CX G.P G.w) kf f fd ps (toSp G.K n spec) ∧ G.mg x = some (.ref f) ∧ PySem.W.keepIn G.K (.ref f) = true ∧ Binds G.K fd ps []
  len : ∀ ds Q X, spec ds Q X → ds.length = n
section
variable {G : GG} {N : List Str} {sc : SC} {k kf n : Nat} {x : Str} {spec : DSpec} {e : Expr} {es : List Expr} {p pos : Pos}
theorem Def.pe {W : WX} {X : Cx} {ta : TA} (d : Def G kf x n spec) (S : Sit G N sc W k X) (hk : kf ≤ k) (hg : GlS sc x) (ha : PA X (e :: es) ta) (hdb : (x == ("__debug__" : Str)) = false) (he : NoStar e es) (hpl : ∀ env, (backTo pos (starEach es env)).any (·.1) = false) :
    PE X (.Call (.Name x p) (e :: es) [] pos) (tCallS (toSp G.K n spec) (WE W) ta) := by
  obtain ⟨f, fd, ps, h1, h2, h3, h4⟩ := d.ex
  have pass : ∀ σ, PassesAt (L2.CX X.prog X.w) X σ (WE W σ) := fun σ => passAt S.tk σ
  rw [← S.prog, ← S.w, ← S.K, ← S.mg, ← S.base] at h1
  rw [← S.K] at h3 h4 ⊢
  rw [← S.mg] at h2
  refine ⟨fun pins s σ H Q I h => ?_⟩
  refine wpAny_Call_Name_kw (ld_glob I (S.gl hg) h2 ?_ hdb)
  refine PySem.W.callWith_K (h₀ := X.base) I.ok.mod.kin h3 (thn (ha.run pos pins s σ H _ I h) fun us s1 ⟨vs, H1, I1, r, q⟩ => ⟨I1.kIn, ?_⟩) (he _) (hpl _)
  exact runG h1 S.gd (S.room.mono hk) h4 (pass σ) I1 r q
theorem de_call {ta : DTA} (d : Def G kf x n spec) (ha : DAs G N sc k (e :: es) ta) (hk : kf ≤ k := by decide) (hg : GlS sc x := by rfl) (hdb : (x == ("__debug__" : Str)) = false := by decide) (he : NoStar e es := by intro _; rfl) (hpl : ∀ env, (backTo pos (starEach es env)).any (·.1) = false := by intro _; rfl) :
    DE G N sc k (.Call (.Name x p) (e :: es) [] pos) (dCall spec ta) := ⟨fun W => by
  obtain ⟨te, p1, i1⟩ := ha.ex W
  exact ⟨tCallS (toSp G.K n spec) (WE W) te, fun X S => d.pe S hk hg (p1 X S) hdb he hpl, im_call i1 d.len⟩⟩
theorem de_callJ {ta : DTA} {y : Str} {py : Pos} (i : Nat) (d : Def G kf x n spec) (ha : DAs G N sc k es ta) (hk : kf ≤ k := by decide) (hg : GlS sc x := by rfl) (hN : N[i]? = some y := by rfl)
    (hv : Vis sc.sc y := by first | exact Or.inl rfl | exact Or.inr (Or.inl rfl) | exact Or.inr (Or.inr rfl)) (hdb : (x == ("__debug__" : Str)) = false := by decide) (hdy : (y == ("__debug__" : Str)) = false := by decide) (hcy : (y == ("__classdict__" : Str)) = false := by decide)
    (he : NoStar (.Name y py) es := by intro _; rfl) (hpl : ∀ env, (backTo pos (starEach es env)).any (·.1) = false := by intro _; rfl) :
    DE G N sc k (.Call (.Name x p) (.Name y py :: es) [] pos) (dCallJ spec i ta) := ⟨fun W => by
  obtain ⟨te, p1, i1⟩ := ha.ex W
  refine ⟨tCallS (toSp G.K n spec) (WE W) (tCons (tVar i) te), fun X S => d.pe S hk hg (pa_cons (pe_var (by rw [S.nms]; exact hN) (S.vis hv) hdy hcy) (p1 X S) (he _)) hdb he hpl, im_callJ i1 d.len⟩⟩
end
end HD
namespace HD
open PySem L2
structure DEnds where
  nx : Env' → Prop
  rt : Sl → Env' → Prop
  bk : Env' → Prop := fun _ => False
  ct : Env' → Prop := fun _ => False
abbrev DTS := DX → DEnds → Env' → Prop
structure EndsOk (K : PySem.W.Frag) (e : Ent) (E : DEnds) (Dn : Ends) : Prop where
  nx : ∀ env F σ H, Holds K e env [] F σ H → E.nx env → Dn.nx σ H
  rt : ∀ env F σ H v r, Holds K e env [(v, r)] F σ H → E.rt r env → Dn.rt v H
  bk : ∀ env F σ H, Holds K e env [] F σ H → E.bk env → Dn.bk σ H
  ct : ∀ env F σ H, Holds K e env [] F σ H → E.ct env → Dn.ct σ H
def ImS (K : PySem.W.Frag) (W : WX) (ts : TS) (t : DTS) : Prop :=
  ∀ (e : Ent) (Ex : DX), Link K e W Ex → ∀ (env : Env') (F : Hp) (σ : St) (H : Hp) (E : DEnds) (Dn : Ends), Holds K e env [] F σ H → t Ex E env → EndsOk K e E Dn → ts Dn σ H
structure DS (G : GG) (N : List Str) (sc : SC) (k : Nat) (st : Stmt) (t : DTS) : Prop where
  ex : ∀ W : WX, ∃ ts, (∀ X, Sit G N sc W k X → PS X st ts) ∧ ImS G.K W ts t
structure DSs (G : GG) (N : List Str) (sc : SC) (k : Nat) (st : List Stmt) (t : DTS) : Prop where
  ex : ∀ W : WX, ∃ ts, (∀ X, Sit G N sc W k X → PSs X st ts) ∧ ImS G.K W ts t
section
variable {G : GG} {N : List Str} {sc : SC} {k : Nat} {st : Stmt} {rest : List Stmt} {t u : DTS} {a : Expr} {ta : DT} {pos : Pos}
def sNext : DTS := fun _ E env => E.nx env
def sSeq (t u : DTS) : DTS := fun Ex E env => t Ex { E with nx := fun env1 => u Ex E env1 } env
theorem dss_nil : DSs G N sc k [] sNext := ⟨fun W => ⟨tNext, fun X S => pss_nil, fun e Ex hl env F σ H E Dn hh ht ok => ok.nx env F σ H hh ht⟩⟩
theorem dss_cons (h1 : DS G N sc k st t) (h2 : DSs G N sc k rest u) : DSs G N sc k (st :: rest) (sSeq t u) := ⟨fun W => by
  obtain ⟨ts, p1, i1⟩ := h1.ex W
  obtain ⟨us, p2, i2⟩ := h2.ex W
  refine ⟨tSeq ts us, fun X S => pss_cons (p1 X S) (p2 X S), fun e Ex hl env F σ H E Dn hh ht ok => ?_⟩
  exact i1 e Ex hl env F σ H _ _ hh ht ⟨fun env1 F1 σ1 H1 hh1 q1 => i2 e Ex hl env1 F1 σ1 H1 E Dn hh1 q1 ok, ok.rt, ok.bk, ok.ct⟩⟩
theorem dss_one (h1 : DS G N sc k st t) : DSs G N sc k [st] t := ⟨fun W => by
  obtain ⟨ts, p1, i1⟩ := h1.ex W
  exact ⟨ts, fun X S => pss_one (p1 X S), i1⟩⟩
def sBreak : DTS := fun _ E env => E.bk env
def sCont : DTS := fun _ E env => E.ct env
def sDrop (t : DT) : DTS := fun Ex E env => t Ex env fun _ env1 => E.nx env1
theorem ds_expr (h : DE G N sc k a ta) (hs : ∀ env, swapsWith a none pos.line env = pure false := by intro _; rfl) : DS G N sc k (.Expr a pos) (sDrop ta) := ⟨fun W => by
  obtain ⟨te, p1, i1⟩ := h.ex W
  refine ⟨tDrop te, fun X S => ps_expr (p1 X S) (hs _), fun e Ex hl env F σ H E Dn hh ht ok => ?_⟩
  exact i1 e Ex hl env [] F σ H _ _ hh ht fun v H1 F1 env1 x hh1 q1 => ok.nx env1 F1 σ H1 hh1.pop q1⟩
def retD (env : Env') (x : Sl) (q : Sl → Env' → Prop) : Prop := match x with
  | .al i a => match env[i]? with
    | some (.lst b ds) => b = a ∧ q (.lst a ds) (env.set i .un)
    | _ => False
  | .un => False
  | .ext d => q (.ext d) env
  | .lst a ds => q (.lst a ds) env
  | .reg a cs => q (.reg a cs) env
  | .ar _ _ => False
def sRet (t : DT) : DTS := fun Ex E env => t Ex env fun x env1 => retD env1 x E.rt
theorem Holds.ret {K : PySem.W.Frag} {e : Ent} {env : Env'} {T : Tmp} {F : Hp} {σ : St} {H : Hp} {v : V} {x : Sl} {q : Sl → Env' → Prop} (h : Holds K e env ((v, x) :: T) F σ H) (w : retD env x q) : ∃ r env', Holds K e env' ((v, r) :: T) F σ H ∧ r.plain ∧ q r env' := by
  cases x with
  | un => exact w.elim
  | ext d => exact ⟨_, _, h, trivial, w⟩
  | lst a ds => exact ⟨_, _, h, trivial, w⟩
  | reg a ds => exact ⟨_, _, h, trivial, w⟩
  | ar _ _ => exact w.elim
  | al i a =>
    have ev : v = .ref a := h.temps (v, .al i a) List.mem_cons_self
    have w' : (match env[i]? with | some (.lst b ds) => b = a ∧ q (.lst a ds) (env.set i .un) | _ => False) := w
    split at w'
    · rename_i b ds hb
      obtain ⟨rfl, w'⟩ := w'
      rcases h.slots i _ hb with z | ⟨u, hu, e1, _⟩
      · cases z
      · subst e1
        subst ev
        exact ⟨_, _, h.pop.take hb hu, trivial, w'⟩
    · exact w'.elim
theorem ds_ret (h : DE G N sc k a ta) : DS G N sc k (.Return (some a) pos) (sRet ta) := ⟨fun W => by
  obtain ⟨te, p1, i1⟩ := h.ex W
  refine ⟨tRet te, fun X S => ps_ret (p1 X S), fun e Ex hl env F σ H E Dn hh ht ok => ?_⟩
  refine i1 e Ex hl env [] F σ H _ _ hh ht fun v H1 F1 env1 x hh1 q1 => ?_
  obtain ⟨r, env2, hh2, _, q2⟩ := hh1.ret q1
  exact ok.rt env2 F1 σ H1 v r hh2 q2⟩
def sRetN : DTS := fun _ E env => E.rt (.ext .non) env
def sIf (c : DTT) (t u : DTS) : DTS := fun Ex E env => c Ex env fun b env1 => if b = true then t Ex E env1 else u Ex E env1
theorem ds_if {c : Expr} {x y : List Stmt} {tc : DTT} (hc : DTe G N sc k c tc) (h1 : DSs G N sc k x t) (h2 : DSs G N sc k y u) : DS G N sc k (.If c x y pos) (sIf tc t u) := ⟨fun W => by
  obtain ⟨tt, p0, i0⟩ := hc.ex W
  obtain ⟨ts, p1, i1⟩ := h1.ex W
  obtain ⟨us, p2, i2⟩ := h2.ex W
  refine ⟨tIfS tt ts us, fun X S => ps_if (p0 X S) (p1 X S) (p2 X S), fun e Ex hl env F σ H E Dn hh ht ok => ?_⟩
  refine i0 e Ex hl env [] F σ H _ _ hh ht fun b H1 F1 env1 hh1 q1 => ?_
  cases b with
  | true =>
    rw [if_pos rfl] at q1 ⊢
    exact i1 e Ex hl env1 F1 σ H1 E Dn hh1 q1 ok
  | false =>
    rw [if_neg Bool.false_ne_true] at q1 ⊢
    exact i2 e Ex hl env1 F1 σ H1 E Dn hh1 q1 ok⟩
def sFz (i : Nat) (t : DTS) : DTS := fun Ex E env => match env[i]? with
  | some (.lst _ ds) => t Ex E (env.set i (.ext (.lst ds)))
  | _ => t Ex E env
abbrev DTG := D → Env' → (Env' → Prop) → Prop
def Only (vs : List Nat) (σ σ' : St) : Prop := (∀ i, i ∉ vs → σ'[i]? = σ[i]?) ∧ σ'.length = σ.length
def ImG (K : PySem.W.Frag) (vs : List Nat) (g : TG) (t : DTG) : Prop := ∀ (e : Ent) (env : Env') (T : Tmp) (F : Hp) (σ : St) (H : Hp) (v : V) (d : D) (Q : Env' → Prop) (R : St → Hp → Prop),
  Holds K e env T F σ H → Rep K F d v → t d env Q → (∀ env' σ', Holds K e env' T F σ' H → Only vs σ σ' → Q env' → R σ' H) → g v σ H R
structure DG (G : GG) (N : List Str) (sc : SC) (tg : Expr) (vs : List Nat) (t : DTG) : Prop where
  ex : ∃ g, (∀ W k X, Sit G N sc W k X → PG X tg g) ∧ ImG G.K vs g t
def LocS (sc : SC) (x : Str) : Prop := sc.sc.names.lookup x = some .local ∨ (sc.sc.names.lookup x = some .cell ∧ sc.own x = true)
theorem Sit.loc {W : WX} {X : Cx} {x : Str} (S : Sit G N sc W k X) (h : LocS sc x) : Loc X.env.scope x ∧ (X.fn x = true ∨ X.env.scope.names.lookup x = some .local) := by
  rcases h with h | h
  · exact ⟨.inl (by rw [S.scp]; exact h), .inr (by rw [S.scp]; exact h)⟩
  · exact ⟨.inr (by rw [S.scp]; exact h.1), .inl (S.fn x h.2)⟩
def gSet (i : Nat) : DTG := fun d env Q => Q (env.set i (.ext d))
theorem dg_name {x : Str} (i : Nat) (hi : N[i]? = some x := by rfl) (hx : LocS sc x := by first | exact Or.inl rfl | exact Or.inr ⟨rfl, rfl⟩) : DG G N sc (.Name x pos) [i] (gSet i) :=
  ⟨gName i, fun W k X S => pg_name (by rw [S.nms]; exact S.nd) (by rw [S.nms]; exact hi) (S.loc hx).1 (S.loc hx).2,
    fun e env T F σ H v d Q R hh rd ht hR => hR _ _ ((hh.pushE rd).assign i trivial) ⟨fun j hj => List.getElem?_set_ne (fun z => hj (by rw [← z]; exact List.mem_singleton.mpr rfl)), List.length_set⟩ ht⟩
abbrev DTGs := List D → Env' → (Env' → Prop) → Prop
def ImGs (K : PySem.W.Frag) (us : List Nat) (g : TGs) (t : DTGs) : Prop := ∀ (e : Ent) (env : Env') (T : Tmp) (F : Hp) (σ : St) (H : Hp) (vs : List V) (ds : List D) (Q : Env' → Prop) (R : St → Hp → Prop),
  Holds K e env T F σ H → Reps K F ds vs → t ds env Q → (∀ env' σ', Holds K e env' T F σ' H → Only us σ σ' → Q env' → R σ' H) → g vs σ H R
structure DGs (G : GG) (N : List Str) (sc : SC) (tgs : List Expr) (vs : List Nat) (t : DTGs) : Prop where
  ex : ∃ g, (∀ W k X, Sit G N sc W k X → PGs X tgs g) ∧ ImGs G.K vs g t
def gsNil : DTGs := fun ds env Q => ds = [] ∧ Q env
def gsCons (t : DTG) (u : DTGs) : DTGs := fun ds env Q => match ds with
  | d :: r => t d env fun env1 => u r env1 Q
  | [] => False
theorem dgs_nil : DGs G N sc [] [] gsNil := ⟨gNil, fun W k X S => pgs_nil, fun e env T F σ H vs ds Q R hh rd ht hR => by
    obtain ⟨rfl, ht⟩ := ht
    exact ⟨rd, hR env σ hh ⟨fun _ _ => rfl, rfl⟩ ht⟩⟩
theorem dgs_cons {e : Expr} {es : List Expr} {vs us : List Nat} {t : DTG} {u : DTGs} (h1 : DG G N sc e vs t) (h2 : DGs G N sc es us u)
    (hs : ∀ env, (assignEach (e :: es) env).map (·.2) = assign e env :: (assignEach es env).map (·.2) := by intro _; rfl) : DGs G N sc (e :: es) (vs ++ us) (gsCons t u) := by
  obtain ⟨g, p1, i1⟩ := h1.ex
  obtain ⟨gs, p2, i2⟩ := h2.ex
  refine ⟨gCons g gs, fun W k X S => pgs_cons (p1 W k X S) (p2 W k X S) (hs _), fun en env T F σ H xs ds Q R hh rd ht hR => ?_⟩
  cases ds with
  | nil => exact ht.elim
  | cons d r =>
    obtain ⟨v, vr, rfl, r1, r2⟩ := rd
    refine ⟨v, vr, rfl, i1 en env T F σ H v d _ _ hh r1 ht fun env1 σ1 hh1 o1 q1 => ?_⟩
    exact i2 en env1 T F σ1 H vr r Q R hh1 r2 q1 fun env2 σ2 hh2 o2 q2 => hR env2 σ2 hh2 ⟨fun i hi => (o2.1 i fun z => hi (List.mem_append_right _ z)).trans (o1.1 i fun z => hi (List.mem_append_left _ z)), o2.2.trans o1.2⟩ q2
def gTupD (n : Nat) (t : DTGs) : DTG := fun d env Q => match d with
  | .tup ds => ds.length = n ∧ t ds env Q
  | .tk ds => ds.length = n ∧ t ds env Q
  | _ => False
theorem dg_tup {es : List Expr} {kk : Nat} {vs : List Nat} {t : DTGs} {n : Nat} (h : DGs G N sc es vs t) (hn : ∀ env, (assignEach es env).length = n := by intro _; rfl) (hst : ∀ env, (assignEach es env).findIdx? (·.1) = none := by intro _; rfl) : DG G N sc (.Tuple es kk pos) vs (gTupD n t) := by
  obtain ⟨g, p1, i1⟩ := h.ex
  refine ⟨gTup G.K n g, fun W k X S => ?_, fun en env T F σ H v d Q R hh rd ht hR => ?_⟩
  · rw [← S.K]
    exact pg_tup S.calm (p1 W k X S) (hn _) (hst _)
  · cases d with
    | tup ds =>
      obtain ⟨a, xs, rfl, hs, hr⟩ := rd
      obtain ⟨hl, ht⟩ := ht
      exact ⟨a, xs, rfl, SqT.same hh.fh hs.sq, by rw [← hr.length]; exact hl, i1 en env T F σ H xs ds Q R hh hr ht hR⟩
    | tk ds =>
      obtain ⟨a, xs, rfl, hs, hr⟩ := rd
      obtain ⟨hl, ht⟩ := ht
      exact ⟨a, xs, rfl, SqT.same hh.fh hs, by rw [← hr.length]; exact hl, i1 en env T F σ H xs ds Q R hh hr ht hR⟩
    | _ => exact ht.elim
def sSet (i : Nat) (t : DT) : DTS := fun Ex E env => t Ex env fun x env1 => retD env1 x fun r env2 => E.nx (env2.set i r)
theorem imS_set {K : PySem.W.Frag} {W : WX} {te : TE} {t : DT} (i : Nat) (h : Im K W te t) : ImS K W (tAsg te (gName i)) (sSet i t) := fun e Ex hl env F σ H E Dn hh ht ok => by
  refine h e Ex hl env [] F σ H _ _ hh ht fun v H1 F1 env1 x hh1 q1 => ?_
  obtain ⟨r, env2, hh2, hp, q2⟩ := hh1.ret q1
  exact ok.nx _ F1 _ H1 (hh2.assign i hp) q2
theorem ds_set {x : Str} {pos' : Pos} (i : Nat) (h : DE G N sc k a ta) (hi : N[i]? = some x := by rfl) (hx : LocS sc x := by first | exact Or.inl rfl | exact Or.inr ⟨rfl, rfl⟩) (hs : ∀ env, env.scope = sc.sc → swapsWith a (some (.Name x pos')) pos.line env = pure false := by intro _ _; rfl) : DS G N sc k (.Assign [.Name x pos'] a pos) (sSet i ta) := ⟨fun W => by
  obtain ⟨te, p1, i1⟩ := h.ex W
  exact ⟨tAsg te (gName i), fun X S => ps_set (by rw [S.nms]; exact S.nd) (by rw [S.nms]; exact hi) (S.loc hx).1 (p1 X S) (hs _ S.scp) (S.loc hx).2, imS_set i i1⟩⟩
def sSetE (i : Nat) (t : DT) : DTS := fun Ex E env => t Ex env fun x env1 => frzD env1 x fun d env2 => E.nx (env2.set i (.ext d))
theorem imS_setE {K : PySem.W.Frag} {W : WX} {te : TE} {t : DT} (i : Nat) (h : Im K W te t) : ImS K W (tAsg te (gName i)) (sSetE i t) := fun e Ex hl env F σ H E Dn hh ht ok => by
  refine h e Ex hl env [] F σ H _ _ hh ht fun v H1 F1 env1 x hh1 q1 => ?_
  obtain ⟨d, F2, env2, _, hh2, rd, q2⟩ := hh1.frz1 q1
  exact ok.nx _ F2 _ H1 ((hh2.pushE rd).assign i trivial) q2
theorem ds_setE {x : Str} {pos' : Pos} (i : Nat) (h : DE G N sc k a ta) (hi : N[i]? = some x := by rfl) (hx : LocS sc x := by first | exact Or.inl rfl | exact Or.inr ⟨rfl, rfl⟩) (hs : ∀ env, env.scope = sc.sc → swapsWith a (some (.Name x pos')) pos.line env = pure false := by intro _ _; rfl) : DS G N sc k (.Assign [.Name x pos'] a pos) (sSetE i ta) := ⟨fun W => by
  obtain ⟨te, p1, i1⟩ := h.ex W
  exact ⟨tAsg te (gName i), fun X S => ps_set (by rw [S.nms]; exact S.nd) (by rw [S.nms]; exact hi) (S.loc hx).1 (p1 X S) (hs _ S.scp) (S.loc hx).2, imS_setE i i1⟩⟩
def sAsg (t : DT) (g : DTG) : DTS := fun Ex E env => t Ex env fun x env1 => frzD env1 x fun d env2 => g d env2 E.nx
theorem ds_asg {tg : Expr} {vs : List Nat} {g : DTG} (h : DE G N sc k a ta) (hg : DG G N sc tg vs g) (hs : ∀ env, swapsWithSole [tg] a pos.line env = pure false := by intro _; rfl) (hw : ∀ env, swappedStores [tg] a env = pure none := by intro _; rfl)
    (h1 : ∀ env, (assignEach [tg] env).map (·.2) = [assign tg env] := by intro _; rfl) : DS G N sc k (.Assign [tg] a pos) (sAsg ta g) := ⟨fun W => by
  obtain ⟨te, p1, i1⟩ := h.ex W
  obtain ⟨gg, p2, i2⟩ := hg.ex
  refine ⟨tAsg te gg, fun X S => ps_asg (p1 X S) (p2 W k X S) (hs _) (hw _) (h1 _), fun e Ex hl env F σ H E Dn hh ht ok => ?_⟩
  refine i1 e Ex hl env [] F σ H _ _ hh ht fun v H1 F1 env1 x hh1 q1 => ?_
  obtain ⟨d, F2, env2, _, hh2, rd, q2⟩ := hh1.frz1 q1
  exact i2 e env2 [] F2 σ H1 v d E.nx Dn.nx hh2 rd q2 fun env3 σ3 hh3 _ q3 => ok.nx env3 F2 σ3 H1 hh3 q3⟩
def Src (K : PySem.W.Frag) (J : It) (items : List D) (keep : Env' → Prop) (F0 : Hp) : Prop :=
  ∀ (e : Ent) (env : Env') (T : Tmp) (F : Hp) (σ : St) (H : Hp) (i : Nat), Holds K e env T F σ H → Same F0 F → keep env →
    (items.length = i → J.stop i H) ∧ ∀ d, items[i]? = some d → J.go i H ∧ ∀ x H2, J.yld i H x H2 → ∃ F2, Grow F H F2 H2 ∧ Rep K F2 d x
abbrev DTI := DX → Env' → (List D → (Env' → Prop) → Env' → Prop) → Prop
def ImI (K : PySem.W.Frag) (W : WX) (wi : TI) (t : DTI) : Prop := ∀ (e : Ent) (Ex : DX), Link K e W Ex → ∀ (env : Env') (T : Tmp) (F : Hp) (σ : St) (H : Hp) (Q : List D → (Env' → Prop) → Env' → Prop) (R : It → Hp → Prop),
  Holds K e env T F σ H → t Ex env Q → (∀ J H' F' env' items keep, Holds K e env' T F' σ H' → Src K J items keep F' → Q items keep env' → R J H') → wi σ H R
structure DI (G : GG) (N : List Str) (sc : SC) (k : Nat) (tg iter : Expr) (t : DTI) : Prop where
  ex : ∀ W : WX, ∃ wi, (∀ X, Sit G N sc W k X → PI X tg iter wi) ∧ ImI G.K W wi t
def atC (i : Nat) (b : Addr) (ds : List D) (env : Env') : Prop := ∃ d cs, env[i]? = some (.reg d cs) ∧ cellOf cs b = some (.lst ds)
def iterD (env : Env') (x : Sl) (q : List D → (Env' → Prop) → Prop) : Prop := match x with
  | .ext (.lst ds) => q ds fun _ => True
  | .lst _ ds => q ds fun _ => True
  | .al i a => match env[i]? with
    | some (.lst b ds) => b = a ∧ q ds fun env' => env'[i]? = some (.lst a ds)
    | _ => False
  | .ar i b => match env[i]? with
    | some (.reg _ cs) => match cellOf cs b with
      | some (.lst ds) => q ds (atC i b ds)
      | _ => False
    | _ => False
  | _ => False
def dIterT (t : DT) : DTI := fun Ex env Q => t Ex env fun x env1 => match x with
  | .ext (.tup ds) => Q ds (fun _ => True) env1
  | _ => False
def rgD (lo hi : Int) : List D := (List.range (hi - lo).toNat).map fun i => D.int (lo + (i : Nat))
theorem src_range {K : PySem.W.Frag} {F0 : Hp} {lo hi : Int} : Src K (Itr lo (hi - lo).toNat) (rgD lo hi) (fun _ => True) F0 := fun e env T F σ H i hh sm _ => by
  have hl : (rgD lo hi).length = (hi - lo).toNat := by
    unfold rgD
    rw [List.length_map, List.length_range]
  refine ⟨fun h => by rw [hl] at h; exact Nat.le_of_eq h, fun d hd => ?_⟩
  have hi' : i < (hi - lo).toNat := by
    rw [← hl]
    exact (List.getElem?_eq_some_iff.mp hd).1
  unfold rgD at hd
  rw [List.getElem?_map, List.getElem?_range hi'] at hd
  have ed := Option.some.inj hd
  refine ⟨hi', fun x H2 hy => ?_⟩
  obtain ⟨rfl, ex⟩ := hy
  refine ⟨F, Grow.refl hh.fh, ?_⟩
  rw [ex, ← ed]
  exact rfl
def small62 (i : Int) : Prop := -(2 ^ 62) ≤ i ∧ i < 2 ^ 62
def dRange1 (t : DTA) : DTI := fun Ex env Q => t Ex env fun xs env1 => match xs with
  | [.ext (.int j)] => small62 j ∧ Q (rgD 0 j) (fun _ => True) env1
  | _ => False
def dRange2 (t : DTA) : DTI := fun Ex env Q => t Ex env fun xs env1 => match xs with
  | [.ext (.int i), .ext (.int j)] => small62 i ∧ small62 j ∧ Q (rgD i j) (fun _ => True) env1
  | _ => False
theorem di_range1 {tg : Expr} {t : DTA} {p : Pos} (h : DAs G N sc k [a] t) (hm : G.mg "range" = none) (hg : GlS sc "range" := by rfl) (hs : ∀ env, starEach [a] env = [(false, eval a env)] := by intro _; rfl) : DI G N sc k tg (.Call (.Name "range" p) [a] [] pos) (dRange1 t) := ⟨fun W => by
  obtain ⟨te, p1, i1⟩ := h.ex W
  refine ⟨iRng1 te, fun X S => pi_range1 (S.gl hg) (by rw [S.mg]; exact hm) (p1 X S) (hs _), fun e Ex hl env T F σ H Q R hh ht hR => ?_⟩
  refine i1 e Ex hl env T F σ H _ _ hh ht fun vs H1 F1 env1 xs le hh1 q1 => ?_
  split at q1
  · rename_i j
    match vs, le, hh1 with
    | [v], _, hh1 =>
      have ev : v = .int j := hh1.temps (v, .ext (.int j)) List.mem_cons_self
      have z := src_range (K := G.K) (F0 := F1) (lo := 0) (hi := j)
      rw [Int.sub_zero] at z
      exact ⟨j, by rw [ev], q1.1.1, q1.1.2, hR _ H1 F1 env1 _ _ hh1.pop z q1.2⟩
  · exact q1.elim⟩
abbrev Ent.at (e : Ent) (F1 : Hp) : Ent := ⟨F1, e.H0, e.A0⟩
section
variable {K : PySem.W.Frag} {e : Ent} {env env1 : Env'} {T T1 : Tmp} {F F1 : Hp} {σ σ1 : St} {H H1 : Hp}
theorem Holds.on (h1 : Holds K e env1 T1 F1 σ1 H1) (h : Holds K e env T F σ H) (sm : Same F1 F) : Holds K (e.at F1) env T F σ H :=
  ⟨h.fh, h.len, h.slots, h.temps, h.nd, sm, fun a o q n => ⟨(h.s2 a o q n).1, fun z => (h.s2 a o q n).2 (h1.s1.free z)⟩, h.s3⟩
theorem Holds.off (h1 : Holds K e env1 T1 F1 σ1 H1) (h : Holds K (e.at F1) env T F σ H) : Holds K e env T F σ H :=
  ⟨h.fh, h.len, h.slots, h.temps, h.nd, h1.s1.trans h.s1, fun a o q n => ⟨(h.s2 a o q n).1, fun z => (h.s2 a o q n).2 ((h1.s2 a o q n).2 z)⟩, h.s3⟩
theorem Link.on {W : WX} {Ex : DX} (h1 : Holds K e env1 T1 F1 σ1 H1) (hl : Link K e W Ex) : Link K (e.at F1) W Ex := fun c env F σ H h q => hl c env F σ H (h1.off h) q
theorem EndsOk.on {E : DEnds} {Dn : Ends} (h1 : Holds K e env1 T1 F1 σ1 H1) (ok : EndsOk K e E Dn) : EndsOk K (e.at F1) E Dn :=
  ⟨fun env F σ H h q => ok.nx env F σ H (h1.off h) q, fun env F σ H v r h q => ok.rt env F σ H v r (h1.off h) q, fun env F σ H h q => ok.bk env F σ H (h1.off h) q, fun env F σ H h q => ok.ct env F σ H (h1.off h) q⟩
end
def forD (g : DTG) (body : DTS) (keep : Env' → Prop) (Ex : DX) (E : DEnds) : List D → Env' → Prop
  | [], env => keep env ∧ E.nx env
  | d :: ds, env => keep env ∧ g d env fun env1 => body Ex { E with nx := forD g body keep Ex E ds, ct := forD g body keep Ex E ds, bk := E.nx } env1
def sFor (ti : DTI) (g : DTG) (body : DTS) : DTS := fun Ex E env => ti Ex env fun items keep env1 => forD g body keep Ex E items env1
theorem forD_keep {g : DTG} {body : DTS} {keep : Env' → Prop} {Ex : DX} {E : DEnds} : ∀ {ds : List D} {env : Env'}, forD g body keep Ex E ds env → keep env
  | [], _, h => h.1
  | _ :: _, _, h => h.1
theorem ds_for {tg iter : Expr} {body : List Stmt} {ti : DTI} {vs : List Nat} {g : DTG} {tb : DTS} (hi : DI G N sc k tg iter ti) (hg : DG G N sc tg vs g) (hb : DSs G N sc k body tb) (hs : ∀ env x, foldedSetIterable iter env x = pure x := by intro _ _; rfl) : DS G N sc k (.For tg iter body [] pos) (sFor ti g tb) := ⟨fun W => by
  obtain ⟨wi, p1, i1⟩ := hi.ex W
  obtain ⟨gg, p2, i2⟩ := hg.ex
  obtain ⟨ts, p3, i3⟩ := hb.ex W
  refine ⟨tFor wi gg ts, fun X S => ps_for S.own S.calm (p1 X S) (p2 W k X S) (p3 X S) (hs _), fun e Ex hl env F σ H E Dn hh ht ok => ?_⟩
  refine i1 e Ex hl env [] F σ H _ _ hh ht fun J H1 F1 env1 items keep hh1 src q1 => ?_
  have ok' := ok.on hh1
  refine ⟨fun i m σ' H' => ∃ env' F', Holds G.K (e.at F1) env' [] F' σ' H' ∧ i + m = items.length ∧ forD g tb keep Ex E (items.drop i) env', ⟨items.length, env1, F1, hh1.on hh1 (Same.refl _), by omega, q1⟩, ?_⟩
  rintro i m σ2 H2 ⟨env2, F2, hh2, em, q2⟩
  obtain ⟨s1, s2⟩ := src (e.at F1) env2 [] F2 σ2 H2 i hh2 hh2.s1 (forD_keep q2)
  cases hd : items[i]? with
  | none =>
    have hi : items.length ≤ i := List.getElem?_eq_none_iff.mp hd
    rw [List.drop_eq_nil_of_le hi] at q2
    exact .inl ⟨s1 (by omega), ok'.nx env2 F2 σ2 H2 hh2 q2.2⟩
  | some d =>
    obtain ⟨hi, ed⟩ := List.getElem?_eq_some_iff.mp hd
    rw [List.drop_eq_getElem_cons hi, ed] at q2
    obtain ⟨_, q2⟩ := q2
    obtain ⟨go, yl⟩ := s2 d hd
    refine .inr ⟨go, fun σ' H' => ∃ env' F', Holds G.K (e.at F1) env' [] F' σ' H' ∧ forD g tb keep Ex E (items.drop (i + 1)) env', fun σ' H' ⟨env', F', a1, a3⟩ => ⟨m - 1, by omega, env', F', a1, by omega, a3⟩, fun x H3 hy => ?_⟩
    obtain ⟨F3, gr, rd⟩ := yl x H3 hy
    refine i2 (e.at F1) env2 [] F3 σ2 H3 x d _ _ (hh2.grow gr) rd q2 fun env4 σ4 hh4 _ q4 => ?_
    exact i3 (e.at F1) Ex (hl.on hh1) env4 F3 σ4 H3 _ _ hh4 q4 ⟨fun env5 F5 σ5 H5 hh5 q5 => ⟨env5, F5, hh5, q5⟩, ok'.rt, fun env5 F5 σ5 H5 hh5 q5 => ok'.nx env5 F5 σ5 H5 hh5 q5, fun env5 F5 σ5 H5 hh5 q5 => ⟨env5, F5, hh5, q5⟩⟩⟩
def sWhile (c : DTT) (body : DTS) : DTS := fun Ex E env => ∃ I : Nat → Env' → Prop, (∃ m, I m env) ∧ ∀ m env, I m env → c Ex env fun b env1 =>
  if b = true then body Ex { E with nx := fun env' => ∃ m', m' < m ∧ I m' env', ct := fun env' => ∃ m', m' < m ∧ I m' env', bk := E.nx } env1 else E.nx env1
theorem ds_while {c : Expr} {body : List Stmt} {tc : DTT} {tb : DTS} (hc : DTe G N sc k c tc) (hb : DSs G N sc k body tb) : DS G N sc k (.While c body [] pos) (sWhile tc tb) := ⟨fun W => by
  obtain ⟨tt, p1, i1⟩ := hc.ex W
  obtain ⟨ts, p2, i2⟩ := hb.ex W
  refine ⟨tWhile tt ts, fun X S => ps_while S.own (p1 X S) (p2 X S), fun e Ex hl env F σ H E Dn hh ht ok => ?_⟩
  obtain ⟨I, ⟨m0, h0⟩, turn⟩ := ht
  refine ⟨fun m σ' H' => ∃ env' F', Holds G.K e env' [] F' σ' H' ∧ I m env', ⟨m0, env, F, hh, h0⟩, ?_⟩
  rintro m σ1 H1 ⟨env1, F1, hh1, q1⟩
  refine i1 e Ex hl env1 [] F1 σ1 H1 _ _ hh1 (turn m env1 q1) fun b H2 F2 env2 hh2 q2 => ?_
  cases b with
  | true =>
    rw [if_pos rfl] at q2 ⊢
    refine ⟨fun σ' H' => ∃ m', m' < m ∧ ∃ env' F', Holds G.K e env' [] F' σ' H' ∧ I m' env', fun σ' H' z => z, ?_⟩
    exact i2 e Ex hl env2 F2 σ1 H2 _ _ hh2 q2 ⟨fun env5 F5 σ5 H5 hh5 ⟨m', hm, q5⟩ => ⟨m', hm, env5, F5, hh5, q5⟩, ok.rt, fun env5 F5 σ5 H5 hh5 q5 => ok.nx env5 F5 σ5 H5 hh5 q5, fun env5 F5 σ5 H5 hh5 ⟨m', hm, q5⟩ => ⟨m', hm, env5, F5, hh5, q5⟩⟩
  | false =>
    rw [if_neg Bool.false_ne_true] at q2 ⊢
    exact ok.nx env2 F2 σ1 H2 hh2 q2⟩
end
end HD
namespace HD
open PySem L2
def wipeE (env : Env') : List Nat → Env'
  | [] => env
  | v :: vs => (wipeE env vs).set v .un
section
variable {K : PySem.W.Frag} {e : Ent} {env : Env'} {T : Tmp} {F : Hp} {σ : St} {H : Hp}
theorem Holds.wipe1 (h : Holds K e env T F σ H) (i : Nat) : Holds K e (env.set i .un) T F (σ.set i none) H := by
  have h1 := h.unset i
  refine ⟨h1.fh, by rw [List.length_set, List.length_set]; exact h.len, fun j sl q => ?_, h1.temps, h1.nd, h1.s1, h1.s2, h1.s3⟩
  by_cases ij : i = j
  · subst ij
    rw [List.getElem?_set] at q
    rw [if_pos rfl] at q
    split at q
    · cases q
      exact .inl rfl
    · cases q
  · rcases h1.slots j sl q with z | ⟨v, hv, ok⟩
    · exact .inl z
    · exact .inr ⟨v, by rw [List.getElem?_set_ne ij]; exact hv, ok⟩
theorem Holds.wipe (h : Holds K e env T F σ H) : ∀ vs : List Nat, Holds K e (wipeE env vs) T F (wipe σ vs) H
  | [] => h
  | v :: vs => (Holds.wipe h vs).wipe1 v
theorem Holds.unwipe {vs : List Nat} (h : Holds K e env T F (L2.wipe σ vs) H) : Holds K e env T F σ H :=
  ⟨h.fh, by rw [h.len, wipe_length], fun j sl q => by
    rcases h.slots j sl q with z | ⟨v, hv, ok⟩
    · exact .inl z
    · exact .inr ⟨v, (wipe_some hv).1, ok⟩, h.temps, h.nd, h.s1, h.s2, h.s3⟩
end
theorem wipe_in {σ : St} {i : Nat} : ∀ {vs : List Nat}, i ∈ vs → i < σ.length → (wipe σ vs)[i]? = some none
  | [], h, _ => nomatch h
  | v :: vs, h, hl => by
    unfold wipe
    rw [List.getElem?_set]
    by_cases e : v = i
    · rw [if_pos e, if_pos (by rw [wipe_length, e]; exact hl)]
    · rw [if_neg e]
      rcases List.mem_cons.mp h with z | z
      · exact absurd z.symm e
      · exact wipe_in z hl
theorem wipe_only {σ σ2 : St} {vs : List Nat} (h : Only vs (wipe σ vs) σ2) : wipe σ2 vs = wipe σ vs := by
  have hl : σ2.length = σ.length := by rw [h.2, wipe_length]
  refine List.ext_getElem? fun i => ?_
  by_cases m : i ∈ vs
  · by_cases il : i < σ.length
    · rw [wipe_in m il, wipe_in m (by rw [hl]; exact il)]
    · rw [List.getElem?_eq_none (by rw [wipe_length, hl]; omega), List.getElem?_eq_none (by rw [wipe_length]; omega)]
  · rw [wipe_out m, h.1 i m]
section
variable {G : GG} {N : List Str} {sc : SC} {k : Nat}
theorem Sit.blk {W : WX} {X : Cx} (S : Sit G N sc W k X) (s : Shared) (H : Hp) (scope : Scope) (C : Addr) (cl : List (Str × Addr)) (fp : List Addr) : Sit G N (lcS scope sc) (fun _ _ _ _ => False) k (X.blk s H scope (compEnvC scope cl C X.env) fp) where
  prog := S.prog
  w := S.w
  K := S.K
  mg := S.mg
  base := S.base
  nms := S.nms
  nd := S.nd
  scp := by
    show relabel scope X.env = relab scope sc.sc
    unfold relabel relab
    rw [← S.scp]
    rfl
  calm := S.calm
  room := S.room
  tk := L2.takes0
  fn := fun x h => h
  own := PassesOwn.never
  stk := fun z => by cases z
  gd := S.gd
def dYes : DTT := fun _ env Q => Q true env
structure DTl (G : GG) (N : List Str) (sc : SC) (k : Nat) (ifs : List Expr) (t : DTT) : Prop where
  ex : ∀ W : WX, ∃ te, (∀ X, Sit G N sc W k X → PTs X ifs te) ∧ ImT G.K W te t
theorem dtl_nil : DTl G N sc k [] dYes := ⟨fun W => ⟨tYes, fun X S => pts_nil, fun e Ex hl env T F σ H Q R hh ht hR => hR true H F env hh ht⟩⟩
theorem dtl_one {c : Expr} {t : DTT} (h : DTe G N sc k c t) : DTl G N sc k [c] t := ⟨fun W => by
  obtain ⟨te, p1, i1⟩ := h.ex W
  exact ⟨te, fun X S => pts_one (p1 X S), i1⟩⟩
abbrev noX : DX := fun _ _ => False
def lcD (g : DTG) (tt : DTT) (te : DT) (vs : List Nat) (keep : Env' → Prop) (Q : Sl → Env' → Prop) : List D → List D → Env' → Prop
  | [], acc, env => keep env ∧ ∀ a, Q (.lst a acc) env
  | d :: ds, acc, env => keep env ∧ acc.length < sizeLine ∧ g d env fun env1 => tt noX env1 fun b env2 =>
      if b = true then te noX env2 fun x env3 => frzD env3 x fun d' env4 => lcD g tt te vs keep Q ds (acc ++ [d']) (wipeE env4 vs) else lcD g tt te vs keep Q ds acc (wipeE env2 vs)
def dLc (ti : DTI) (g : DTG) (tt : DTT) (te : DT) (vs : List Nat) : DT := fun Ex env Q => ti Ex env fun items keep env1 => lcD g tt te vs keep Q items [] (wipeE env1 vs)
theorem lcD_keep {g : DTG} {tt : DTT} {te : DT} {vs : List Nat} {keep : Env' → Prop} {Q : Sl → Env' → Prop} : ∀ {ds acc : List D} {env : Env'}, lcD g tt te vs keep Q ds acc env → keep env
  | [], _, _, h => h.1
  | _ :: _, _, _, h => h.1
theorem im_lc {K : PySem.W.Frag} {W : WX} {wi : TI} {gg : TG} {tt' : TT} {te' : TE} {ti : DTI} {g : DTG} {tt : DTT} {te : DT} {vs : List Nat} (i1 : ImI K W wi ti) (i2 : ImG K vs gg g) (i3 : ImT K (fun _ _ _ _ => False) tt' tt) (i4 : Im K (fun _ _ _ _ => False) te' te) : Im K W (tLc wi gg tt' te' vs) (dLc ti g tt te vs) := fun e Ex hl env T F σ H Q R hh ht hR => by
  refine i1 e Ex hl env T F σ H _ _ hh ht fun J H1 F1 env1 items keep hh1 src q1 => fun D hD => ?_
  have nl : Link K (e.at F1) (fun _ _ _ _ => False) noX := fun _ _ _ _ _ _ z => z
  have h0 : Holds K e env1 ((V.ref D, Sl.lst D []) :: T) F1 σ (upd H1 D (.lst [])) := hh1.push (Grow.loose hh1.fh hD) ⟨rfl, hh1.fh.free hD, [], upd_same, rfl⟩ fun a ha => by
    rw [List.mem_singleton.mp ha]
    exact hD
  refine ⟨fun i m H' => ∃ env' F' acc, Holds K (e.at F1) env' ((V.ref D, Sl.lst D acc) :: T) F' (wipe σ vs) H' ∧ i + m = items.length ∧ lcD g tt te vs keep Q (items.drop i) acc env',
    ⟨items.length, wipeE env1 vs, F1, [], (hh1.on h0 (Same.refl _)).wipe vs, by omega, q1⟩, ?_⟩
  rintro i m H2 ⟨env2, F2, acc, hh2, em, q2⟩
  obtain ⟨s1, s2⟩ := src (e.at F1) env2 _ F2 _ H2 i hh2 hh2.s1 (lcD_keep q2)
  cases hd : items[i]? with
  | none =>
    have hi : items.length ≤ i := List.getElem?_eq_none_iff.mp hd
    rw [List.drop_eq_nil_of_le hi] at q2
    exact .inl ⟨s1 (by omega), hR _ H2 F2 env2 _ (hh1.off hh2.unwipe) (q2.2 D)⟩
  | some d =>
    obtain ⟨hi, ed⟩ := List.getElem?_eq_some_iff.mp hd
    rw [List.drop_eq_getElem_cons hi, ed] at q2
    obtain ⟨_, hz, q2⟩ := q2
    obtain ⟨go, yl⟩ := s2 d hd
    refine .inr ⟨go, fun H' => ∃ env' F' acc, Holds K (e.at F1) env' ((V.ref D, Sl.lst D acc) :: T) F' (wipe σ vs) H' ∧ lcD g tt te vs keep Q (items.drop (i + 1)) acc env', fun H' ⟨env', F', acc', a1, a3⟩ => ⟨m - 1, by omega, env', F', acc', a1, by omega, a3⟩, fun x H3 hy => ?_⟩
    obtain ⟨F3, gr, rd⟩ := yl x H3 hy
    refine i2 (e.at F1) env2 _ F3 _ H3 x d _ _ (hh2.grow gr) rd q2 fun env4 σ4 hh4 on4 q4 => ⟨wipe_only on4, ?_⟩
    refine i3 (e.at F1) noX nl env4 _ F3 σ4 H3 _ _ hh4 q4 fun b H5 F5 env5 hh5 q5 => ?_
    cases b with
    | false =>
      rw [if_neg Bool.false_ne_true] at q5 ⊢
      have z := hh5.wipe vs
      rw [wipe_only on4] at z
      exact ⟨_, F5, acc, z, q5⟩
    | true =>
      rw [if_pos rfl] at q5 ⊢
      refine i4 (e.at F1) noX nl env5 _ F5 σ4 H5 _ _ hh5 q5 fun y H6 F6 env6 sl hh6 q6 => ?_
      obtain ⟨d', F7, env7, _, hh7, rd', q7⟩ := hh6.frz1 q6
      obtain ⟨_, _, us, hu, hr⟩ := hh7.temps (V.ref D, Sl.lst D acc) List.mem_cons_self
      refine ⟨us, hu, by rw [← hr.length]; exact hz, ?_⟩
      have z := (hh7.writeT (hr.append (.one rd'))).wipe vs
      rw [wipe_only on4] at z
      exact ⟨_, F7, _, z, q7⟩
variable {elt tg iter : Expr} {ifs : List Expr} {scope : Scope} {own : List (Str × Nat)} {pos : Pos} {ti : DTI} {g : DTG} {tt : DTT} {te : DT}
theorem de_lc (own : List (Str × Nat)) (hi : DI G N sc k tg iter ti) (ok : blkC N sc.sc scope own = true) (hg : DG G N (lcS scope sc) tg (own.map (·.2)) g) (ht : DTl G N (lcS scope sc) k ifs tt) (he : DE G N (lcS scope sc) k elt te) (hs : ∀ env x, foldedSetIterable iter env x = pure x := by intro _ _; rfl) :
    DE G N sc k (.ListComp elt [⟨tg, iter, ifs, 0⟩] scope pos) (dLc ti g tt te (own.map (·.2))) := ⟨fun W => by
  obtain ⟨wi, p1, i1⟩ := hi.ex W
  obtain ⟨gg, p2, i2⟩ := hg.ex
  obtain ⟨tt', p3, i3⟩ := ht.ex fun _ _ _ _ => False
  obtain ⟨te', p4, i4⟩ := he.ex fun _ _ _ _ => False
  refine ⟨tLc wi gg tt' te' (own.map (·.2)), fun X S => ?_, im_lc i1 i2 i3 i4⟩
  exact pe_lc S.calm (by rw [S.nms]; exact S.nd) (p1 X S) (by rw [S.nms, S.scp]; exact blkOk_by ok) (fun s H C cl fp => p2 _ _ _ (S.blk s H scope C cl fp)) (fun s H C cl fp => p3 _ (S.blk s H scope C cl fp)) (fun s H C cl fp => p4 _ (S.blk s H scope C cl fp)) (hs _)⟩
theorem ds_setLc (own : List (Str × Nat)) {y : Str} {py spos : Pos} (i : Nat) (hi : DI G N sc k tg iter ti) (ok : blkC N sc.sc scope own = true) (hg : DG G N (lcS scope sc) tg (own.map (·.2)) g) (ht : DTl G N (lcS scope sc) k ifs tt) (he : DE G N (lcS scope sc) k elt te) (hy : N[i]? = some y := by rfl) (hyl : sc.sc.names.lookup y = some .local := by rfl)
    (hk : sc.sc.kind = .function := by rfl) (hl : (py.line == pos.line) = true := by rfl) (ha : (scope.names.any fun (n, k) => n == y && (k == .local || k == .cell)) = false := by decide +kernel) (hs : ∀ env x, foldedSetIterable iter env x = pure x := by intro _ _; rfl) :
    DS G N sc k (.Assign [.Name y py] (.ListComp elt [⟨tg, iter, ifs, 0⟩] scope pos) spos) (sSet i (dLc ti g tt te (own.map (·.2)))) := ⟨fun W => by
  obtain ⟨wi, p1, i1⟩ := hi.ex W
  obtain ⟨gg, p2, i2⟩ := hg.ex
  obtain ⟨tt', p3, i3⟩ := ht.ex fun _ _ _ _ => False
  obtain ⟨te', p4, i4⟩ := he.ex fun _ _ _ _ => False
  refine ⟨tAsg (tLc wi gg tt' te' (own.map (·.2))) (gName i), fun X S => ?_, imS_set i (im_lc i1 i2 i3 i4)⟩
  have hyX : X.env.scope.names.lookup y = some .local := by
    rw [S.scp]
    exact hyl
  exact ps_setLc S.calm (by rw [S.nms]; exact S.nd) (by rw [S.nms]; exact hy) hyX (sw_true (by rw [S.scp]; exact hk) hyX hl ha) (p1 X S) (by rw [S.nms, S.scp]; exact blkOk_by ok) (fun s H C cl fp => p2 _ _ _ (S.blk s H scope C cl fp)) (fun s H C cl fp => p3 _ (S.blk s H scope C cl fp)) (fun s H C cl fp => p4 _ (S.blk s H scope C cl fp)) (hs _)⟩
theorem ds_setLcE (own : List (Str × Nat)) {y : Str} {py spos : Pos} (i : Nat) (hi : DI G N sc k tg iter ti) (ok : blkC N sc.sc scope own = true) (hg : DG G N (lcS scope sc) tg (own.map (·.2)) g) (ht : DTl G N (lcS scope sc) k ifs tt) (he : DE G N (lcS scope sc) k elt te) (hy : N[i]? = some y := by rfl) (hyl : sc.sc.names.lookup y = some .local := by rfl)
    (hk : sc.sc.kind = .function := by rfl) (hl : (py.line == pos.line) = true := by rfl) (ha : (scope.names.any fun (n, k) => n == y && (k == .local || k == .cell)) = false := by decide +kernel) (hs : ∀ env x, foldedSetIterable iter env x = pure x := by intro _ _; rfl) :
    DS G N sc k (.Assign [.Name y py] (.ListComp elt [⟨tg, iter, ifs, 0⟩] scope pos) spos) (sSetE i (dLc ti g tt te (own.map (·.2)))) := ⟨fun W => by
  obtain ⟨wi, p1, i1⟩ := hi.ex W
  obtain ⟨gg, p2, i2⟩ := hg.ex
  obtain ⟨tt', p3, i3⟩ := ht.ex fun _ _ _ _ => False
  obtain ⟨te', p4, i4⟩ := he.ex fun _ _ _ _ => False
  refine ⟨tAsg (tLc wi gg tt' te' (own.map (·.2))) (gName i), fun X S => ?_, imS_setE i (im_lc i1 i2 i3 i4)⟩
  have hyX : X.env.scope.names.lookup y = some .local := by
    rw [S.scp]
    exact hyl
  exact ps_setLc S.calm (by rw [S.nms]; exact S.nd) (by rw [S.nms]; exact hy) hyX (sw_true (by rw [S.scp]; exact hk) hyX hl ha) (p1 X S) (by rw [S.nms, S.scp]; exact blkOk_by ok) (fun s H C cl fp => p2 _ _ _ (S.blk s H scope C cl fp)) (fun s H C cl fp => p3 _ (S.blk s H scope C cl fp)) (fun s H C cl fp => p4 _ (S.blk s H scope C cl fp)) (hs _)⟩
theorem start_holds {K : PySem.W.Frag} {e : Ent} {args : Env'} {F H : Hp} {vs : List V} (N : List Str) (h : Holds K e args [] F (vs.map some) H) : Holds K e (args ++ List.replicate (N.length - vs.length) .un) [] F (L2.start N vs) H := by
  have own : ownedE (args ++ List.replicate (N.length - vs.length) Sl.un) = ownedE args := by
    unfold ownedE
    rw [List.flatMap_append]
    have z : (List.replicate (N.length - vs.length) Sl.un).flatMap Sl.owned = [] := by
      rw [List.flatMap_eq_nil_iff]
      intro x hx
      rw [List.eq_of_mem_replicate hx]
      rfl
    rw [z, List.append_nil]
  have hl : args.length = vs.length := by
    have z := h.len
    rw [List.length_map] at z
    exact z
  refine ⟨h.fh, ?_, fun i sl q => ?_, h.temps, by rw [own]; exact h.nd, h.s1, h.s2, by rw [own]; exact h.s3⟩
  · unfold L2.start
    rw [List.length_append, List.length_append, List.length_replicate, List.length_replicate, h.len]
  · by_cases hi : i < args.length
    · rw [List.getElem?_append_left hi] at q
      rcases h.slots i sl q with z | ⟨v, hv, ok⟩
      · exact .inl z
      · refine .inr ⟨v, ?_, ok⟩
        unfold L2.start
        rw [List.getElem?_append_left (by rw [List.length_map, ← hl]; exact hi)]
        exact hv
    · rw [List.getElem?_append_right (by omega)] at q
      rw [List.getElem?_replicate] at q
      split at q
      · cases q
        exact .inl rfl
      · cases q
abbrev endsOf (args : Env') (Qd : Sl → List Sl → Prop) : DEnds := { nx := fun env => Qd (.ext .non) (finals args env), rt := fun r env => Qd r (finals args env) }
abbrev exOf (args : Env') (Xd : Str → List Sl → Prop) : DX := fun c env => Xd c (finals args env)
theorem fn_ok {st : Stmt} {x qual : Str} {f : Addr} {fd : FuncData} {ps : List Str} {tb : DTS} {spec : DSpec} (F : Fun G.K x qual st f fd) (S : FnScope N ps (defScope st)) (hb : DSs G N (fnS (defScope st)) k (defBody st) tb)
    (h : ∀ args Qd Xd, spec args Qd Xd → args.length = ps.length → tb (exOf args Xd) (endsOf args Qd) (args ++ List.replicate (N.length - args.length) .un)) : FnG G.P G.w G.K G.mg G.base (L2.CX G.P G.w) (k + 1) f fd ps (toSp G.K ps.length spec) := by
  refine fnG_of F S (fun vs H Q E h => ?_) (fun cdv A outer s H vs Q E gd hr hsp => ?_)
  · obtain ⟨_, _, _, _, hl, _⟩ := h
    exact hl
  · obtain ⟨F0, args, Qd, Xd, hl, hA, hs, hQ, hX⟩ := hsp
    obtain ⟨ts, p1, i1⟩ := hb.ex fun cls d _ H => E cls d H
    have al : args.length = vs.length := by
      have z := hA.len
      rw [List.length_map] at z
      exact z
    refine ⟨ts, p1 _ ?_, ?_⟩
    · exact ⟨rfl, rfl, rfl, rfl, rfl, rfl, S.nd, rfl, rfl, hr, takes_of rfl rfl rfl rfl, fun _ _ => rfl, passes_of rfl, fun _ => ⟨rfl, rfl⟩, gd⟩
    · have hh := start_holds N hA
      rw [← al] at hh
      refine i1 (entOf F0 H args) (exOf args Xd) (fun c env F' σ' H' hh' q => hX c H' F' _ (hA.finals hh') q) _ F0 _ H (endsOf args Qd) _ hh (h args Qd Xd hs (al.trans hl)) ⟨fun env F' σ' H' hh' q => ?_, fun env F' σ' H' v r hh' q => hQ v H' F' r _ (hA.finals hh') q, fun _ _ _ _ _ z => z, fun _ _ _ _ _ z => z⟩
      exact hQ .non H' F' (.ext .non) _ (hA.finals (hh'.pushE rfl)) q
end
end HD
namespace HD
open PySem L2
def SqX (b : Bool) (K : PySem.W.Frag) (H : Hp) (a : Addr) (xs : List V) : Prop := if b = true then SqT K H a xs else SqL K H a xs
def seqD (env : Env') (x : Sl) (q : List D → (Env' → Prop) → Prop) : Prop := match x with
  | .ext (.tup ds) => q ds fun _ => True
  | x => iterD env x q
def dZip (ta tb : DT) : DTI := fun Ex env Q => ta Ex env fun x env1 => tb Ex env1 fun y env2 => seqD env2 x fun xs k1 => seqD env2 y fun ys k2 => Q ((xs.zip ys).map fun p => D.tk [p.1, p.2]) (fun env' => k1 env' ∧ k2 env') env2
def Stands (K : PySem.W.Frag) (b : Bool) (a : Addr) (ds : List D) (k : Env' → Prop) (F0 : Hp) : Prop :=
  ∀ (e : Ent) (env : Env') (T : Tmp) (F : Hp) (σ : L2.St) (H : Hp), Holds K e env T F σ H → Same F0 F → k env → ∃ vs, SqX b K H a vs ∧ Reps K F ds vs
theorem Holds.seqD {K : PySem.W.Frag} {e : Ent} {env : Env'} {T : Tmp} {F : Hp} {σ : L2.St} {H : Hp} {v : V} {x : Sl} {q : List D → (Env' → Prop) → Prop} (h : Holds K e env ((v, x) :: T) F σ H) (w : HD.seqD env x q) :
    ∃ b a ds k F1, v = .ref a ∧ q ds k ∧ Same F F1 ∧ Holds K e env T F1 σ H ∧ Stands K b a ds k F1 ∧ k env := by
  have fz : ∀ (ds : List D) (F1 : Hp), Same F F1 → Holds K e env ((v, .ext (.lst ds)) :: T) F1 σ H → q ds (fun _ => True) → ∃ b a ds k F1, v = .ref a ∧ q ds k ∧ Same F F1 ∧ Holds K e env T F1 σ H ∧ Stands K b a ds k F1 ∧ k env := fun ds F1 sm h1 w => by
    obtain ⟨a, vs, rfl, hb, hr⟩ := h1.temps (v, .ext (.lst ds)) List.mem_cons_self
    exact ⟨false, a, ds, _, F1, rfl, w, sm, h1.pop, fun e' env' T' F' σ' H' hh s _ => ⟨vs, SqL.of (hh.fh _ _ (s _ _ hb)), hr.same s⟩, trivial⟩
  cases x with
  | un => exact w.elim
  | reg _ _ => exact w.elim
  | ar i b =>
    have ev : v = .ref b := h.temps (v, .ar i b) List.mem_cons_self
    have w' : (match env[i]? with | some (.reg _ cs) => (match cellOf cs b with | some (.lst ds) => q ds (atC i b ds) | _ => False) | _ => False) := w
    split at w'
    · rename_i d cs hc
      split at w'
      · rename_i ds hd
        refine ⟨false, b, ds, _, F, ev, w', Same.refl _, h.pop, fun e' env' T' F' σ' H' hh s kk => ?_, ⟨d, cs, hc, hd⟩⟩
        obtain ⟨d0, cs0, k1, k2⟩ := kk
        obtain ⟨_, o, hv, vs, rfl, hr⟩ := hh.cell k1 k2
        exact ⟨vs, SqL.of hv, hr⟩
      · exact w'.elim
    · exact w'.elim
  | ext d =>
    cases d with
    | tup ds =>
      obtain ⟨a, vs, rfl, hb, hr⟩ := h.temps (v, .ext (.tup ds)) List.mem_cons_self
      exact ⟨true, a, ds, _, F, rfl, w, Same.refl _, h.pop, fun e' env' T' F' σ' H' hh s _ => ⟨vs, SqT.same hh.fh (SqT.same s hb.sq), hr.same s⟩, trivial⟩
    | lst ds => exact fz ds F (Same.refl _) h w
    | _ => exact w.elim
  | lst b ds =>
    obtain ⟨F1, sm, h1⟩ := h.freezeT
    exact fz ds F1 sm h1 w
  | al i b =>
    have ev : v = .ref b := h.temps (v, .al i b) List.mem_cons_self
    have w' : (match env[i]? with | some (.lst c ds) => c = b ∧ q ds (fun env' => env'[i]? = some (.lst b ds)) | _ => False) := w
    split at w'
    · rename_i c ds hc
      obtain ⟨rfl, w'⟩ := w'
      refine ⟨false, c, ds, _, F, ev, w', Same.refl _, h.pop, fun e' env' T' F' σ' H' hh s kk => ?_, hc⟩
      rcases hh.slots i _ kk with z | ⟨u, hu, e1, e2, vs, hv, hr⟩
      · cases z
      · exact ⟨vs, SqL.of hv, hr⟩
    · exact w'.elim
end HD
namespace HD
open PySem L2
def dCB (f : List D → (Sl → Prop) → Prop) (t : DTA) : DT := fun Ex env Q => t Ex env fun xs env1 => wds env1 xs fun ds => f ds fun sl => Q sl env1
theorem im_cb {K : PySem.W.Frag} {W : WX} {r : List V → Hp → VK → Prop} {f : List D → (Sl → Prop) → Prop} {ta : TA} {t : DTA} (hr : Pr K r f) (h : ImA K W ta t) : Im K W (tCB r ta) (dCB f t) := fun e Ex hl env T F σ H Q R hh ht hR => by
  refine h e Ex hl env T F σ H _ _ hh ht fun vs H1 F1 env1 xs le hh1 q1 => ?_
  obtain ⟨ds, rr, q2⟩ := hh1.wds le (fun p hp => List.mem_append_left _ hp) q1
  exact hr F1 H1 vs ds _ R hh1.fh rr q2 ((hh1.sub (List.sublist_append_right _ _)).done hR)
abbrev RR := Program → World → PySem.W.Frag → List V → Hp → VK → Prop
def BR (id : String) (f : List D → (Sl → Prop) → Prop) : Prop := ∃ r : RR, (∀ P w K, Pr K (r P w K) f) ∧ ∀ X : Cx, X.calm = true → X.A.units + 64 < cLine → CallR X (.builtin id) (r X.prog X.w X.K)
def TR (T : String) (f : List D → (Sl → Prop) → Prop) : Prop := ∃ r : RR, (∀ P w K, Pr K (r P w K) f) ∧ ∀ X : Cx, X.calm = true → X.A.units + 64 < cLine → CallR X (.type T) (r X.prog X.w X.K)
section
variable {G : GG} {N : List Str} {sc : SC} {k : Nat} {e : Expr} {es : List Expr} {x : Str} {id T : String} {f : List D → (Sl → Prop) → Prop} {t : DTA} {p pos : Pos}
theorem de_cb (hr : BR id f) (hm : G.mg x = none) (ha : DAs G N sc k (e :: es) t) (hv : bootBuiltins x = some (.builtin id) := by decide +kernel) (hg : GlS sc x := by rfl) (hn : x ≠ "__name__" := by decide) (hdb : (x == ("__debug__" : Str)) = false := by decide)
    (he : NoStar e es := by intro _; rfl) (hpl : ∀ env, (backTo pos (starEach es env)).any (·.1) = false := by intro _; rfl) : DE G N sc k (.Call (.Name x p) (e :: es) [] pos) (dCB f t) := ⟨fun W => by
  obtain ⟨r, h1, h2⟩ := hr
  obtain ⟨ta, p1, i1⟩ := ha.ex W
  refine ⟨tCB (r G.P G.w G.K) ta, fun X S => ?_, im_cb (h1 _ _ _) i1⟩
  have c := h2 X S.calm S.units
  rw [S.prog, S.w, S.K] at c
  exact pe_callB c (S.gl hg) (by rw [S.mg]; exact hm) hv (p1 X S) hn hdb (he _) (hpl _)⟩
theorem de_ct (hr : TR T f) (hm : G.mg x = none) (ha : DAs G N sc k (e :: es) t) (hv : bootBuiltins x = some (.type T) := by decide +kernel) (hg : GlS sc x := by rfl) (hn : x ≠ "__name__" := by decide) (hdb : (x == ("__debug__" : Str)) = false := by decide)
    (he : NoStar e es := by intro _; rfl) (hpl : ∀ env, (backTo pos (starEach es env)).any (·.1) = false := by intro _; rfl) : DE G N sc k (.Call (.Name x p) (e :: es) [] pos) (dCB f t) := ⟨fun W => by
  obtain ⟨r, h1, h2⟩ := hr
  obtain ⟨ta, p1, i1⟩ := ha.ex W
  refine ⟨tCB (r G.P G.w G.K) ta, fun X S => ?_, im_cb (h1 _ _ _) i1⟩
  have c := h2 X S.calm S.units
  rw [S.prog, S.w, S.K] at c
  exact pe_callTy c (S.gl hg) (by rw [S.mg]; exact hm) hv (p1 X S) hn hdb (he _) (hpl _)⟩
end
def fLen : List D → (Sl → Prop) → Prop
  | [.lst ds], Q => Q (.ext (.int ds.length))
  | [.tup ds], Q => Q (.ext (.int ds.length))
  | [.fz ds], Q => Q (.ext (.int ds.length))
  | [.tk ds], Q => Q (.ext (.int ds.length))
  | [.str z], Q => z.length ≤ sizeLine ∧ Q (.ext (.int z.length))
  | _, _ => False
theorem b_len : BR "len" fLen := ⟨fun _ _ K xs H Q => (∃ p ys, xs = [.ref p] ∧ (SqL K H p ys ∨ SqT K H p ys) ∧ Q (.int ys.length) H) ∨ (∃ z, xs = [.str z] ∧ z.length ≤ sizeLine ∧ Q (.int z.length) H), fun _ _ K F H vs ds Q R fh hr hf ha => by
    unfold fLen at hf
    split at hf
    · obtain ⟨v, rfl, r⟩ := hr.one
      obtain ⟨a, vs, rfl, e1, r1⟩ := r.lst fh
      refine .inl ⟨a, vs, rfl, .inl (SqL.of e1), ?_⟩
      rw [← r1.length]
      exact ha.int fh hf
    · obtain ⟨v, rfl, r⟩ := hr.one
      obtain ⟨a, vs, rfl, e1, _, r1⟩ := r.tup fh
      refine .inl ⟨a, vs, rfl, .inr e1, ?_⟩
      rw [← r1.length]
      exact ha.int fh hf
    · obtain ⟨v, rfl, r⟩ := hr.one
      obtain ⟨a, vs, rfl, e1, r1⟩ := r.fz fh
      refine .inl ⟨a, vs, rfl, .inl e1, ?_⟩
      rw [← r1.length]
      exact ha.int fh hf
    · obtain ⟨v, rfl, r⟩ := hr.one
      obtain ⟨a, vs, rfl, e1, _, r1⟩ := r.tk fh
      refine .inl ⟨a, vs, rfl, .inr e1, ?_⟩
      rw [← r1.length]
      exact ha.int fh hf
    · obtain ⟨v, rfl, r⟩ := hr.one
      exact .inr ⟨_, by rw [r.str], hf.1, ha.int fh hf.2⟩
    · exact hf.elim, fun X _ _ => call_len_seq.or call_len_str⟩
def fMin : List D → (Sl → Prop) → Prop
  | [.int i, .int j], Q => Q (.ext (.int (if j < i then j else i)))
  | [.lst ds], Q => ∃ ns : List Int, ds = ns.map D.int ∧ ns ≠ [] ∧ ∀ m, m ∈ ns → (∀ y, y ∈ ns → m ≤ y) → Q (.ext (.int m))
  | _, _ => False
def fMax : List D → (Sl → Prop) → Prop
  | [.int i, .int j], Q => Q (.ext (.int (if j > i then j else i)))
  | [.lst ds], Q => ∃ ns : List Int, ds = ns.map D.int ∧ ns ≠ [] ∧ ∀ m, m ∈ ns → (∀ y, y ∈ ns → y ≤ m) → Q (.ext (.int m))
  | _, _ => False
theorem b_min : BR "min" fMin := ⟨fun _ _ K xs H Q => (∃ i j, xs = [.int i, .int j] ∧ Q (.int (if j < i then j else i)) H) ∨ rMin K xs H Q, fun _ _ K F H vs ds Q R fh hr hf ha => by
    unfold fMin at hf
    split at hf
    · obtain ⟨v, u, rfl, r1, r2⟩ := hr.two
      exact .inl ⟨_, _, by rw [r1.int, r2.int], ha.int fh hf⟩
    · obtain ⟨v, rfl, r⟩ := hr.one
      obtain ⟨ns, rfl, ne, q⟩ := hf
      obtain ⟨a, vs, rfl, e1, r1⟩ := r.lst fh
      have z := r1.ints
      subst z
      exact .inr ⟨a, ns, rfl, SqL.of e1, List.length_pos_iff.mpr ne, fun m h1 h2 => ha.int fh (q m h1 h2)⟩
    · exact hf.elim, fun X hc _ => (call_min2 hc).or (cr_min hc)⟩
theorem b_max : BR "max" fMax := ⟨fun _ _ K xs H Q => (∃ i j, xs = [.int i, .int j] ∧ Q (.int (if j > i then j else i)) H) ∨ rMax K xs H Q, fun _ _ K F H vs ds Q R fh hr hf ha => by
    unfold fMax at hf
    split at hf
    · obtain ⟨v, u, rfl, r1, r2⟩ := hr.two
      exact .inl ⟨_, _, by rw [r1.int, r2.int], ha.int fh hf⟩
    · obtain ⟨v, rfl, r⟩ := hr.one
      obtain ⟨ns, rfl, ne, q⟩ := hf
      obtain ⟨a, vs, rfl, e1, r1⟩ := r.lst fh
      have z := r1.ints
      subst z
      exact .inr ⟨a, ns, rfl, SqL.of e1, List.length_pos_iff.mpr ne, fun m h1 h2 => ha.int fh (q m h1 h2)⟩
    · exact hf.elim, fun X hc _ => (call_max2 hc).or (cr_max hc)⟩
def fSum : List D → (Sl → Prop) → Prop
  | [.lst ds], Q => ∃ ns : List Int, ds = ns.map D.int ∧ Q (.ext (.int ns.sum))
  | _, _ => False
theorem b_sum : BR "sum" fSum := ⟨fun _ _ K => rSum K, fun _ _ K F H vs ds Q R fh hr hf ha => by
    unfold fSum at hf
    split at hf
    · obtain ⟨v, rfl, r⟩ := hr.one
      obtain ⟨ns, rfl, q⟩ := hf
      obtain ⟨a, vs, rfl, e1, r1⟩ := r.lst fh
      have z := r1.ints
      subst z
      exact ⟨a, ns, rfl, SqL.of e1, ha.int fh q⟩
    · exact hf.elim, fun X hc _ => cr_sum hc⟩
def fAll : List D → (Sl → Prop) → Prop
  | [.lst ds], Q => ∃ bs : List Bool, ds = bs.map D.bl ∧ Q (.ext (.bl (bs.all id)))
  | _, _ => False
def fAny : List D → (Sl → Prop) → Prop
  | [.lst ds], Q => ∃ bs : List Bool, ds = bs.map D.bl ∧ Q (.ext (.bl (bs.any id)))
  | _, _ => False
theorem b_all : BR "all" fAll := ⟨fun _ _ K => rAll K, fun _ _ K F H vs ds Q R fh hr hf ha => by
    unfold fAll at hf
    split at hf
    · obtain ⟨v, rfl, r⟩ := hr.one
      obtain ⟨ns, rfl, q⟩ := hf
      obtain ⟨a, vs, rfl, e1, r1⟩ := r.lst fh
      have z := r1.bls
      subst z
      exact ⟨a, ns, rfl, SqL.of e1, ha.bl fh q⟩
    · exact hf.elim, fun X hc _ => cr_all hc⟩
def fSorted : List D → (Sl → Prop) → Prop
  | [.lst ds], Q => ∃ ns : List Int, ds = ns.map D.int ∧ ∀ (ns' : List Int) (a : Addr), ns'.Perm ns → ns'.Pairwise (· ≤ ·) → Q (.lst a (ns'.map D.int))
  | _, _ => False
theorem b_sorted : BR "sorted" fSorted := ⟨fun _ _ K => rSortedI K, fun _ _ K F H vs ds Q R fh hr hf ha => by
    unfold fSorted at hf
    split at hf
    · obtain ⟨v, rfl, r⟩ := hr.one
      obtain ⟨ns, rfl, q⟩ := hf
      obtain ⟨a, vs, rfl, e1, r1⟩ := r.lst fh
      have z := r1.ints
      subst z
      exact ⟨a, ns, rfl, SqL.of e1, fun ns' p h1 h2 n => ha.lst fh n (Reps.of_ints ns') (q ns' p h1 h2)⟩
    · exact hf.elim, fun X _ _ => cr_sortedI⟩
def fTuple : List D → (Sl → Prop) → Prop
  | [.lst ds], Q => Q (.ext (.tup ds))
  | [.tup ds], Q => Q (.ext (.tup ds))
  | _, _ => False
theorem t_tuple : TR "tuple" fTuple := ⟨fun _ _ K xs H Q => ∃ p ys, xs = [.ref p] ∧ ((SqL K H p ys ∧ newT H ys Q) ∨ (SqT K H p ys ∧ Q (.ref p) H)), fun _ _ K F H vs ds Q R fh hr hf ha => by
    unfold fTuple at hf
    split at hf
    · obtain ⟨v, rfl, r⟩ := hr.one
      obtain ⟨a, vs, rfl, e1, r1⟩ := r.lst fh
      exact ⟨a, vs, rfl, .inl ⟨SqL.of e1, ha.tup fh r1 hf⟩⟩
    · obtain ⟨v, rfl, r⟩ := hr.one
      obtain ⟨a, vs, rfl, e1, e2, r1⟩ := r.tup fh
      exact ⟨a, vs, rfl, .inr ⟨e1, ha.ext (d := .tup _) fh ⟨a, vs, rfl, e2, r1⟩ hf⟩⟩
    · exact hf.elim, fun X _ _ => call_tupleF⟩
def fList : List D → (Sl → Prop) → Prop
  | [.lst ds], Q => ∀ a, Q (.lst a ds)
  | [.tup ds], Q => ∀ a, Q (.lst a ds)
  | [.fz ds], Q => ∀ a, Q (.lst a ds)
  | _, _ => False
theorem t_list : TR "list" fList := ⟨fun _ _ K xs H Q => ∃ p ys, xs = [.ref p] ∧ (SqL K H p ys ∨ SqT K H p ys) ∧ ∀ l, H l = none → Q (.ref l) (upd H l (.lst ys)), fun _ _ K F H vs ds Q R fh hr hf ha => by
    unfold fList at hf
    split at hf
    · obtain ⟨v, rfl, r⟩ := hr.one
      obtain ⟨a, vs, rfl, e1, r1⟩ := r.lst fh
      exact ⟨a, vs, rfl, .inl (SqL.of e1), fun l n => ha.lst fh n r1 (hf l)⟩
    · obtain ⟨v, rfl, r⟩ := hr.one
      obtain ⟨a, vs, rfl, e1, e2, r1⟩ := r.tup fh
      exact ⟨a, vs, rfl, .inr e1, fun l n => ha.lst fh n r1 (hf l)⟩
    · obtain ⟨v, rfl, r⟩ := hr.one
      obtain ⟨a, vs, rfl, e1, r1⟩ := r.fz fh
      exact ⟨a, vs, rfl, .inl e1, fun l n => ha.lst fh n r1 (hf l)⟩
    · exact hf.elim, fun X _ _ => call_list_of⟩
def D.ty : D → String
  | .non => "NoneType"
  | .bl _ => "bool"
  | .int _ => "int"
  | .str _ => "str"
  | .lst _ => "list"
  | .fz _ => "list"
  | .tup _ => "tuple"
  | .tk _ => "tuple"
  | .val _ => "?"
  | .exc _ => "?"
  | .glo _ => "?"
  | .dk _ _ => "?"
  | .dt _ _ => "?"
theorem tyX_of {K : PySem.W.Frag} {H : Hp} {d : D} {v : V} (n : d.noVal = true) (h : Rep K H d v) : TyX K H v (.type d.ty) ∨ ∃ ds, d = .fz ds := by
  cases d with
  | non =>
    have e : v = .non := h
    rw [e]
    exact .inl (.base .non)
  | bl b =>
    have e : v = .bl b := h
    rw [e]
    exact .inl (.base (.bl b))
  | int b =>
    have e : v = .int b := h
    rw [e]
    exact .inl (.base (.int b))
  | str b =>
    have e : v = .str b := h
    rw [e]
    exact .inl (.base (.str b))
  | val u => cases n
  | exc c => cases n
  | glo c => cases n
  | dk _ _ => cases n
  | dt _ _ => cases n
  | fz ds => exact .inr ⟨ds, rfl⟩
  | lst ds =>
    obtain ⟨a, xs, rfl, hs, _⟩ := h
    exact .inl (.base (.lst hs))
  | tup ds =>
    obtain ⟨a, xs, rfl, hs, _⟩ := h
    left
    rcases hs.sq with (hs | ⟨o, hs⟩) | ⟨o, its, m, hs, hc, _⟩
    · exact .base (.tup hs)
    · exact .fTuple hs
    · exact .kTuple hs hc
  | tk ds =>
    obtain ⟨a, xs, rfl, hs, _⟩ := h
    left
    rcases hs with (hs | ⟨o, hs⟩) | ⟨o, its, m, hs, hc, _⟩
    · exact .base (.tup hs)
    · exact .fTuple hs
    · exact .kTuple hs hc
theorem tyX_T {K : PySem.W.Frag} {F H : Hp} {d : D} {v : V} (fh : Same F H) (n : d.noVal = true) (h : RepT K F H d v) (nf : ∀ ds, d ≠ .fz ds) : TyX K H v (.type d.ty) := by
  rcases tyX_of n (h.rep fh) with z | ⟨ds, z⟩
  · exact z
  · exact absurd z (nf ds)
def rIsiS (K : PySem.W.Frag) : List V → Hp → VK → Prop := fun xs H Q => ∃ (x : V) (tp : Addr) (cs : List V) (t : Value) (us : List Value) (b : Bool), xs = [x, .ref tp] ∧ SqT K H tp cs ∧ Paired ClsV cs us ∧ TyX K H x t ∧ PySem.W.kitAny K t us = some b ∧ Q (.bl b) H
theorem call_isiS {X : Cx} : CallR X (.builtin "isinstance") (rIsiS X.K) := by
  intro pins s σ H xs us Q I r h
  obtain ⟨x, tp, cs, t, ws, b, rfl, hT, k, ty, e, q⟩ := h
  obtain ⟨u1, u2, rfl, r1, r2⟩ := vals2 r
  cases (show u2 = Value.ref tp from r2)
  obtain ⟨P, Z, p, hx⟩ := kit_of I r1 ty
  obtain ⟨its, rv, ⟨o, h1, h2, n, h3⟩, _⟩ := I.tuple hT
  have e3 := ClsV.all k rv
  subst e3
  obtain ⟨oc, od, dt, sl⟩ := o
  simp only at h2 h3
  subst h2 h3
  exact PySem.W.kia_tup Z I.kIn p h1 e hx fun tk => ⟨.bl b, H, I.tok tk, rfl, q⟩
def D.isFz : D → Bool
  | .fz _ => true
  | _ => false
def fIsi : List D → (Sl → Prop) → Prop
  | [d, .val (.ty T)], Q => d.noVal = true ∧ d.isFz = false ∧ ∃ b, kitB d.ty T = some b ∧ Q (.ext (.bl b))
  | [d, .tup [.val (.ty T), .val (.ty U)]], Q => d.noVal = true ∧ d.isFz = false ∧ ∃ b c, kitB d.ty T = some b ∧ kitB d.ty U = some c ∧ Q (.ext (.bl (b || c)))
  | _, _ => False
theorem b_isi : BR "isinstance" fIsi := ⟨fun _ _ K xs H Q => rIsi K xs H Q ∨ rIsiS K xs H Q, fun _ _ K F H vs ds Q R fh hr hf ha => by
    unfold fIsi at hf
    split at hf
    · rename_i d T
      obtain ⟨v, u, rfl, r1, r2⟩ := hr.two
      obtain ⟨n, nf, b, hb, q⟩ := hf
      rw [r2.val]
      exact .inl ⟨v, _, _, _, b, rfl, .ty T, tyX_T fh n r1 (fun ds z => by subst z; cases nf), kit_ty hb, ha.bl fh q⟩
    · rename_i d T U
      obtain ⟨v, u, rfl, r1, r2⟩ := hr.two
      obtain ⟨n, nf, b, c, hb, hc, q⟩ := hf
      obtain ⟨a, vs, rfl, e1, _, rr⟩ := r2.tup fh
      obtain ⟨v1, w1, rfl, h1, h2⟩ := rr
      obtain ⟨v2, w2, rfl, h3, h4⟩ := h2
      have z1 : v1 = .ty T := h1
      have z2 : v2 = .ty U := h3
      have z3 : w2 = [] := h4
      subst z1 z2 z3
      refine .inr ⟨v, a, _, _, [.type T, .type U], (b || c), rfl, e1, .cons (.ty T) (.cons (.ty U) .nil), tyX_T fh n r1 (fun ds z => by subst z; cases nf), ?_, ha.bl fh q⟩
      cases b with
      | true => exact kitAny_cons (kit_ty hb) (fun z => nomatch z) (fun _ => rfl)
      | false => exact kitAny_cons (kit_ty hb) (fun _ => kitAny_cons (kit_ty hc) (fun z => by subst z; exact kitAny_nil) (fun z => by subst z; rfl)) (fun z => nomatch z)
    · exact hf.elim, fun X _ _ => call_isi.or call_isiS⟩
section
variable {G : GG} {N : List Str} {sc : SC} {k : Nat} {a b : Expr} {ta tb : DT} {p p2 pos pos2 : Pos}
structure DRg (G : GG) (N : List Str) (sc : SC) (k : Nat) (e : Expr) (t : DX → Env' → (Int → Int → Env' → Prop) → Prop) : Prop where
  ex : ∀ W : WX, ∃ te, (∀ X, Sit G N sc W k X → PRg X e te) ∧ ∀ (e : Ent) (Ex : DX), Link G.K e W Ex → ∀ (env : Env') (T : Tmp) (F : Hp) (σ : L2.St) (H : Hp) (Q : Int → Int → Env' → Prop) (R : Int → Int → Hp → Prop),
    Holds G.K e env T F σ H → t Ex env Q → (∀ i j H' F' env', Holds G.K e env' T F' σ H' → Q i j env' → R i j H') → te σ H R
def dRg1 (t : DT) : DX → Env' → (Int → Int → Env' → Prop) → Prop := fun Ex env Q => t Ex env fun x env1 => match x with
  | .ext (.int n) => Q 0 n env1
  | _ => False
def dRg2 (t u : DT) : DX → Env' → (Int → Int → Env' → Prop) → Prop := fun Ex env Q => t Ex env fun x env1 => u Ex env1 fun y env2 => match x, y with
  | .ext (.int n), .ext (.int m) => Q n m env2
  | _, _ => False
theorem drg_1 (h : DE G N sc k a ta) (hm : G.mg "range" = none) (hg : GlS sc "range" := by rfl) (na : NoStar a [] := by intro _; rfl) : DRg G N sc k (.Call (.Name "range" p) [a] [] pos) (dRg1 ta) := ⟨fun W => by
  obtain ⟨te, p1, i1⟩ := h.ex W
  refine ⟨tRg1 te, fun X S => prg_1 (S.gl hg) (by rw [S.mg]; exact hm) (p1 X S) (na _), fun e Ex hl env T F σ H Q R hh ht hR => ?_⟩
  refine i1 e Ex hl env T F σ H _ _ hh ht fun v H1 F1 env1 x hh1 q1 => ?_
  cases x with
  | ext d =>
    cases d with
    | int n => exact ⟨n, hh1.temps (v, .ext (.int n)) List.mem_cons_self, hR 0 n H1 F1 env1 hh1.pop q1⟩
    | _ => exact q1.elim
  | _ => exact q1.elim⟩
theorem Reps.rg {K : PySem.W.Frag} {F : Hp} (lo hi : Int) : Reps K F (rgD lo hi) (rgV lo hi) := by
  unfold rgD rgV
  refine Reps.of_get (by rw [List.length_map, List.length_map]) fun i d v h1 h2 => ?_
  rw [List.getElem?_map] at h1 h2
  cases e : (List.range (hi - lo).toNat)[i]? with
  | none =>
    rw [e] at h1
    cases h1
  | some j =>
    rw [e] at h1 h2
    cases h1
    cases h2
    exact rfl
def dLstRg (t : DX → Env' → (Int → Int → Env' → Prop) → Prop) : DT := fun Ex env Q => t Ex env fun lo hi env1 => RgOk lo hi ∧ ∀ a, Q (.lst a (rgD lo hi)) env1
def dTupRg (t : DX → Env' → (Int → Int → Env' → Prop) → Prop) : DT := fun Ex env Q => t Ex env fun lo hi env1 => RgOk lo hi ∧ Q (.ext (.tup (rgD lo hi))) env1
theorem de_listRg {e : Expr} {t : DX → Env' → (Int → Int → Env' → Prop) → Prop} (h : DRg G N sc k e t) (hm : G.mg "list" = none) (hg : GlS sc "list" := by rfl) (na : NoStar e [] := by intro _; rfl) : DE G N sc k (.Call (.Name "list" p) [e] [] pos) (dLstRg t) := ⟨fun W => by
  obtain ⟨te, p1, i1⟩ := h.ex W
  refine ⟨tLstRg te, fun X S => pe_listRg S.calm (S.gl hg) (by rw [S.mg]; exact hm) (p1 X S) (na _), fun e Ex hl env T F σ H Q R hh ht hR => ?_⟩
  refine i1 e Ex hl env T F σ H _ _ hh ht fun lo hi H1 F1 env1 hh1 q1 => ⟨q1.1, fun q n => ?_⟩
  exact (hh1.done hR).lst hh1.fh n (Reps.rg lo hi) (q1.2 q)⟩
theorem de_tupRg {e : Expr} {t : DX → Env' → (Int → Int → Env' → Prop) → Prop} (h : DRg G N sc k e t) (hm : G.mg "tuple" = none) (hg : GlS sc "tuple" := by rfl) (na : NoStar e [] := by intro _; rfl) : DE G N sc k (.Call (.Name "tuple" p) [e] [] pos) (dTupRg t) := ⟨fun W => by
  obtain ⟨te, p1, i1⟩ := h.ex W
  refine ⟨tTupRgF te, fun X S => pe_tupRgF S.calm (S.gl hg) (by rw [S.mg]; exact hm) (p1 X S) (na _), fun e Ex hl env T F σ H Q R hh ht hR => ?_⟩
  refine i1 e Ex hl env T F σ H _ _ hh ht fun lo hi H1 F1 env1 hh1 q1 => ⟨q1.1, ?_⟩
  exact (hh1.done hR).tup hh1.fh (Reps.rg lo hi) q1.2⟩
end
end HD
namespace HD
open PySem PyProof.Rows L2
section
variable {X : Cx} {o e : Expr} {es : List Expr} {to : TE} {t : TA} {name : Str} {apos cpos : Pos}
abbrev FewArgs (o : Expr) (name : Str) (e : Expr) (es : List Expr) (cpos : Pos) : Prop := ∀ env, attributeBase o name env (eval o env) = eval o env ∧
  ((backTo cpos (starEach (e :: es) env)).all (fun x => !x.1) && (backToKw cpos (keywordEach [] env)).all (fun x => x.1.isSome) && decide ((e :: es).length + ([] : List Keyword).length + (if ([] : List Keyword).isEmpty then 0 else 1) < 30)) = true ∧
  starEach (e :: es) env = (false, eval e env) :: starEach es env ∧ (backTo cpos (starEach es env)).any (·.1) = false
end
def D.at? (d : D) (ds : List D) : Option Nat := ds.findIdx? fun z => eqV z.toV d.toV
def D.isSq : D → Bool
  | .tup _ => true
  | .lst _ => true
  | _ => false
def fIdx (d d' : D) (q : Sl → Prop) : Prop := match d with
  | .tup ds => d'.flat = true ∧ ds.all D.flat = true ∧ ∃ j, d'.at? ds = some j ∧ q (.ext (.int (j : Nat)))
  | .lst ds => d'.flat = true ∧ ds.all D.flat = true ∧ ∃ j, d'.at? ds = some j ∧ q (.ext (.int (j : Nat)))
  | _ => False
def dIndex (to ta : DT) : DT := fun Ex env Q => to Ex env fun x env1 => wd env1 x (fun d => d.isSq = true) ∧ ta Ex env1 fun y env2 => wd env2 x fun d => wd env2 y fun d' => fIdx d d' fun sl => Q sl env2
end HD
namespace HD
open PySem PyProof.Rows L2
abbrev DMut := List D → (D → List D → Prop) → Prop
def mutD (env : Env') (i : Nat) (a : Addr) (f : DMut) (Q : Sl → Env' → Prop) : Prop := match env[i]? with
  | some (.lst b ds) => b = a ∧ f ds fun d ds' => Q (.ext d) (env.set i (.lst a ds'))
  | _ => False
def PrM (K : PySem.W.Frag) (r : V → List V → Hp → VK → Prop) (vs : List V) (a : Addr) (F H : Hp) (ds : List D) (f : DMut) : Prop :=
  ∀ (q : D → List D → Prop) (R : VK), f ds q → (∀ v d us ds', Rep K F d v → Reps K F ds' us → q d ds' → R v (upd H a (.lst us))) → r (.ref a) vs H R
theorem Holds.mut {K : PySem.W.Frag} {e : Ent} {env : Env'} {T : Tmp} {F : Hp} {σ : L2.St} {H : Hp} {i : Nat} {a : Addr} {f : DMut} {Q : Sl → Env' → Prop} {R : VK} {r : V → List V → Hp → VK → Prop} {vs : List V} (h : Holds K e env T F σ H) (w : mutD env i a f Q)
    (hr : ∀ ds us, H a = some (.lst us) → Reps K F ds us → PrM K r vs a F H ds f) (hR : ∀ v H' F' env' sl, Holds K e env' ((v, sl) :: T) F' σ H' → Q sl env' → R v H') : r (.ref a) vs H R := by
  unfold mutD at w
  split at w
  · rename_i b ds hb
    obtain ⟨rfl, w⟩ := w
    rcases h.slots i _ hb with z | ⟨u, hu, e1, e2, us, hv, rr⟩
    · cases z
    · refine hr ds us hv rr _ R w fun v d us' ds' rd rs q => ?_
      exact hR v _ F _ (.ext d) ((h.write hb rs).pushE rd) q
  · exact w.elim
section
variable {G : GG} {N : List Str} {sc : SC} {k : Nat} {a b : Expr} {ta tb : DT} {apos cpos p p2 pos pos2 py : Pos} {x : Str}
abbrev VisV (N : List Str) (sc : SC) (i : Nat) (x : Str) : Prop := N[i]? = some x ∧ Vis sc.sc x ∧ (x == ("__debug__" : Str)) = false ∧ (x == ("__classdict__" : Str)) = false
def dAppend (i : Nat) (t : DT) : DT := fun Ex env Q => match env[i]? with
  | some (.lst a _) => t Ex env fun x env1 => frzD env1 x fun d env2 => mutD env2 i a (fun ds q => ds.length < sizeLine ∧ q .non (ds ++ [d])) Q
  | _ => False
theorem de_append (i : Nat) (hb : DE G N sc k b tb) (hw : FewArgs (.Name x py) "append" b [] cpos := by intro _; exact ⟨rfl, rfl, rfl, rfl⟩) (hv : VisV N sc i x := by exact ⟨rfl, by first | exact Or.inl rfl | exact Or.inr (Or.inl rfl) | exact Or.inr (Or.inr rfl), by decide, by decide⟩) (hline : (apos.endLine == cpos.line) = true := by rfl) :
    DE G N sc k (.Call (.Attribute (.Name x py) "append" apos) [b] [] cpos) (dAppend i tb) := ⟨fun W => by
  obtain ⟨tf, p2, i2⟩ := hb.ex W
  refine ⟨tBM G.K "list" rAppend (tVar i) (tCons tf tNil), fun X S => ?_, fun e Ex hl env T F σ H Q R hh ht hR => ?_⟩
  · obtain ⟨hbase, hfew, hs, hplain⟩ := hw X.env
    rw [← S.K]
    exact pe_bm PySem.F.plainAttrs_list PySem.F.slot_list_append PySem.F.type_list_append mt_append (pe_var (by rw [S.nms]; exact hv.1) (S.vis hv.2.1) hv.2.2.1 hv.2.2.2) (pa_cons (p2 X S) pa_nil hs) hbase hfew hline hs hplain
  · unfold dAppend at ht
    split at ht
    · rename_i c ds0 hc
      rcases hh.slots i _ hc with z | ⟨v0, hv0, e0, _, us0, hu0, _⟩
      · cases z
      · subst e0
        refine ⟨_, hv0, .inl ⟨rfl, us0, SqL.of hu0⟩, ?_⟩
        refine i2 e Ex hl env T F σ H _ _ hh ht fun u H2 F2 env2 y hh2 q2 => ?_
        obtain ⟨d, F3, env3, _, hh3, rd, q3⟩ := hh2.frz1 q2
        show rAppend (.ref c) [u] H2 R
        refine hh3.mut q3 (fun ds us hu rr q R' hf hk => ?_) hR
        obtain ⟨hz, hf⟩ := hf
        exact ⟨c, us, u, rfl, rfl, hu, by rw [← rr.length]; exact hz, hk .non .non _ _ rfl (rr.append (.one rd)) hf⟩
    · exact ht.elim⟩
def dExtend (i : Nat) (t : DT) : DT := fun Ex env Q => match env[i]? with
  | some (.lst a _) => t Ex env fun x env1 => wd env1 x fun d => match d with
    | .lst es => mutD env1 i a (fun ds q => ds.length + es.length ≤ sizeLine ∧ q .non (ds ++ es)) Q
    | _ => False
  | _ => False
def dPopAt (i : Nat) (t : DT) : DT := fun Ex env Q => match env[i]? with
  | some (.lst a _) => t Ex env fun x env1 => match x with
    | .ext (.int n) => mutD env1 i a (fun ds q => 0 ≤ n ∧ n < 2 ^ 63 ∧ ∃ d, ds[n.toNat]? = some d ∧ q d (ds.eraseIdx n.toNat)) Q
    | _ => False
  | _ => False
theorem de_popAt (i : Nat) (hb : DE G N sc k b tb) (hw : FewArgs (.Name x py) "pop" b [] cpos := by intro _; exact ⟨rfl, rfl, rfl, rfl⟩) (hv : VisV N sc i x := by exact ⟨rfl, by first | exact Or.inl rfl | exact Or.inr (Or.inl rfl) | exact Or.inr (Or.inr rfl), by decide, by decide⟩) (hline : (apos.endLine == cpos.line) = true := by rfl) :
    DE G N sc k (.Call (.Attribute (.Name x py) "pop" apos) [b] [] cpos) (dPopAt i tb) := ⟨fun W => by
  obtain ⟨tf, p2, i2⟩ := hb.ex W
  refine ⟨tBM G.K "list" rPopAt (tVar i) (tCons tf tNil), fun X S => ?_, fun e Ex hl env T F σ H Q R hh ht hR => ?_⟩
  · obtain ⟨hbase, hfew, hs, hplain⟩ := hw X.env
    rw [← S.K]
    exact pe_bm PySem.F.plainAttrs_list PySem.F.slot_list_pop PySem.F.type_list_pop mt_popAt (pe_var (by rw [S.nms]; exact hv.1) (S.vis hv.2.1) hv.2.2.1 hv.2.2.2) (pa_cons (p2 X S) pa_nil hs) hbase hfew hline hs hplain
  · unfold dPopAt at ht
    split at ht
    · rename_i c ds0 hc
      rcases hh.slots i _ hc with z | ⟨v0, hv0, e0, _, us0, hu0, _⟩
      · cases z
      · subst e0
        refine ⟨_, hv0, .inl ⟨rfl, us0, SqL.of hu0⟩, ?_⟩
        refine i2 e Ex hl env T F σ H _ _ hh ht fun u H2 F2 env2 y hh2 q2 => ?_
        cases y with
        | ext d =>
          cases d with
          | int n =>
            have eu : u = .int n := hh2.temps (u, .ext (.int n)) List.mem_cons_self
            show rPopAt (.ref c) [u] H2 R
            refine hh2.pop.mut q2 (fun ds us hu rr q R' hf hk => ?_) hR
            obtain ⟨h0, h1, d, hd, hf⟩ := hf
            obtain ⟨v, hv', rd⟩ := rr.get hd
            have hlt : n.toNat < us.length := (List.getElem?_eq_some_iff.mp hv').1
            refine ⟨c, us, n, n.toNat, v, rfl, by rw [eu], hu, Int.le_trans (by decide) h0, h1, ?_, hv', hk v d _ _ rd (rr.eraseIdx _) hf⟩
            obtain ⟨m, rfl⟩ := Int.eq_ofNat_of_zero_le h0
            exact (ixN_seq (n := us.length) (i := (m : Int)) (j := m) (by
              unfold ixN
              rw [if_pos h0, if_pos (by rw [Int.toNat_natCast] at hlt; omega)]
              rfl)).1
          | _ => exact q2.elim
        | _ => exact q2.elim
    · exact ht.elim⟩
def dPop (i : Nat) : DT := fun Ex env Q => match env[i]? with
  | some (.lst a _) => mutD env i a (fun ds q => ∃ d, ds[ds.length - 1]? = some d ∧ q d ds.dropLast) Q
  | _ => False
theorem de_pop (i : Nat) (hbase : ∀ env, attributeBase (.Name x py) "pop" env (eval (.Name x py) env) = eval (.Name x py) env := by intro _; rfl) (hv : VisV N sc i x := by exact ⟨rfl, by first | exact Or.inl rfl | exact Or.inr (Or.inl rfl) | exact Or.inr (Or.inr rfl), by decide, by decide⟩) (hline : (apos.endLine == cpos.line) = true := by rfl) :
    DE G N sc k (.Call (.Attribute (.Name x py) "pop" apos) [] [] cpos) (dPop i) := ⟨fun W => by
  refine ⟨tBM0 G.K "list" rPop (tVar i), fun X S => ?_, fun e Ex hl env T F σ H Q R hh ht hR => ?_⟩
  · rw [← S.K]
    exact pe_bm0 PySem.F.plainAttrs_list PySem.F.slot_list_pop PySem.F.type_list_pop mt_pop (pe_var (by rw [S.nms]; exact hv.1) (S.vis hv.2.1) hv.2.2.1 hv.2.2.2) (hbase _) hline
  · unfold dPop at ht
    split at ht
    · rename_i c ds0 hc
      rcases hh.slots i _ hc with z | ⟨v0, hv0, e0, _, us0, hu0, _⟩
      · cases z
      · subst e0
        refine ⟨_, hv0, .inl ⟨rfl, us0, SqL.of hu0⟩, ?_⟩
        refine hh.mut ht (fun ds us hu rr q R' hf hk => ?_) hR
        obtain ⟨d, hd, hf⟩ := hf
        obtain ⟨v, hv', rd⟩ := rr.get hd
        exact ⟨c, us, v, rfl, rfl, hu, by rw [← rr.length]; exact hv', hk v d _ _ rd rr.dropLast hf⟩
    · exact ht.elim⟩
def sSetItem (i : Nat) (tI te : DT) : DTS := fun Ex E env => te Ex env fun y env0 => frzD env0 y fun d env1 => match env1[i]? with
  | some (.lst a _) => tI Ex env1 fun z env2 => match z with
    | .ext (.int n) => match env2[i]? with
      | some (.lst b ds) => b = a ∧ ∃ j, ixN ds.length n = some j ∧ E.nx (env2.set i (.lst a (ds.set j d)))
      | _ => False
    | _ => False
  | _ => False
theorem ds_setitem {spos : Pos} (i : Nat) (hb : DE G N sc k b tb) (ha : DE G N sc k a ta) (hv : VisV N sc i x := by exact ⟨rfl, by first | exact Or.inl rfl | exact Or.inr (Or.inl rfl) | exact Or.inr (Or.inr rfl), by decide, by decide⟩)
    (hs : ∀ env, swapsWithSole [.Subscript (.Name x py) b spos] a pos.line env = pure false := by intro _; rfl) (hw : ∀ env, swappedStores [.Subscript (.Name x py) b spos] a env = pure none := by intro _; rfl)
    (h1 : ∀ env, (assignEach [.Subscript (.Name x py) b spos] env).map (·.2) = [assign (.Subscript (.Name x py) b spos) env] := by intro _; rfl)
    (h2 : ∀ env v, assign (.Subscript (.Name x py) b spos) env v = (do
      let ov ← holding [v] (eval (.Name x py) env)
      let iv ← holding [v, ov] (eval b env)
      standAt spos
      holding [v, ov, iv] (setItem ov iv v)
      release [v, ov, iv] []) := by intro _ _; rfl) :
    DS G N sc k (.Assign [.Subscript (.Name x py) b spos] a pos) (sSetItem i tb ta) := ⟨fun W => by
  obtain ⟨te, p1, i1⟩ := ha.ex W
  obtain ⟨tf, p2, i2⟩ := hb.ex W
  refine ⟨tAsg te (gSub (tVar i) tf rSetL), fun X S => ?_, fun e Ex hl env F σ H E Dn hh ht ok => ?_⟩
  · exact ps_asg (p1 X S) (pg_sub (pe_var (by rw [S.nms]; exact hv.1) (S.vis hv.2.1) hv.2.2.1 hv.2.2.2) (p2 X S) set_list (h2 _)) (hs _) (hw _) (h1 _)
  · refine i1 e Ex hl env [] F σ H _ _ hh ht fun v H1 F1 env0 y hh1 q1 => ?_
    obtain ⟨d, F2, env1, _, hh2, rd, q2⟩ := hh1.frz1 q1
    split at q2
    · rename_i c ds0 hc
      rcases hh2.slots i _ hc with z | ⟨v0, hv0, e0, _⟩
      · cases z
      · subst e0
        refine ⟨_, hv0, ?_⟩
        refine i2 e Ex hl env1 [(v, .ext d)] F2 σ H1 _ _ (hh2.pushE rd) q2 fun u H3 F3 env3 z hh3 q3 => ?_
        have rd3 : Rep G.K F3 d v := hh3.temps (v, .ext d) (List.mem_cons_of_mem _ List.mem_cons_self)
        cases z with
        | ext dz =>
          cases dz with
          | int n =>
            have eu : u = .int n := hh3.temps (u, .ext (.int n)) List.mem_cons_self
            have q3' : (match env3[i]? with | some (.lst b ds) => b = c ∧ ∃ j, ixN ds.length n = some j ∧ E.nx (env3.set i (.lst c (ds.set j d))) | _ => False) := q3
            split at q3'
            · rename_i c' ds hc'
              obtain ⟨rfl, j, hj, q4⟩ := q3'
              rcases hh3.slots i _ hc' with z | ⟨_, _, _, _, us, hu, rr⟩
              · cases z
              · exact ⟨c', us, n, j, rfl, eu, hu, by rw [← rr.length]; exact hj, ok.nx _ F3 σ _ (hh3.bare.write hc' (rr.set j rd3)) q4⟩
            · exact q3'.elim
          | _ => exact q3.elim
        | _ => exact q3.elim
    · exact q2.elim⟩
end
def rSetT (K : PySem.W.Frag) (w : World) : List V → Hp → VK → Prop := fun xs H Q => ∃ (a : Addr) (ns : List Int), xs = [.ref a] ∧ SqT K H a (ns.map V.int) ∧ ns.length + 1 < scanBound ∧ ∀ (p : Addr) (c : Nat), H p = none → c ≤ ns.length → Q (.ref p) (upd H p (SetO w p (fun j => decide (j ∈ ns)) c))
theorem cr_setT {X : Cx} (hc : X.calm = true) : CallR X (.type "set") (rSetT X.K X.w) := by
  intro pins s σ H xs us Q I r h
  obtain ⟨a, ns, rfl, hq, hb, q⟩ := h
  rw [Vals.ref1 r]
  obtain ⟨its, r', pl, _⟩ := I.tuple hq
  refine call_set_tupI ns (I.ok.hd hc) (show s.heap.IsTuple a its.toArray from pl) (by rw [List.toList_toArray]; exact intsAre_of r') hb fun h' tk c R hc' hk => ?_
  have hn : H s.heap.objs.size = none := I.hok.fresh (Nat.le_refl _)
  exact ⟨.ref s.heap.objs.size, _, I.laid (t' := tk) hk (Nat.le_refl _) (setO_new R), rfl, q _ c hn hc'⟩
section
variable {G : GG} {N : List Str} {sc : SC} {k : Nat} {a : Expr} {ta : DT} {p p2 pos pos2 : Pos}
def dSortSet (t : DT) : DT := fun Ex env Q => t Ex env fun x env1 => wd env1 x fun d => match d with
  | .tup ds => ∃ ns : List Int, ds = ns.map D.int ∧ ns.length < 64 ∧ ∀ (ns' : List Int) (b : Addr), ns'.Pairwise (· < ·) → (∀ n : Int, n ∈ ns' ↔ n ∈ ns) → Q (.lst b (ns'.map D.int)) env1
  | _ => False
end
end HD
namespace HD
open PySem PyProof.Rows L2
abbrev Tab := List (Str × Int)
theorem merge_fresh : ∀ (more acc : List (Key × V)), (∀ q ∈ more, ∀ p ∈ acc, p.1 ≠ q.1) → (more.map (·.1)).Nodup → mergeK acc more = acc ++ more
  | [], acc, _, _ => by
    show acc = acc ++ []
    rw [List.append_nil]
  | q :: more, acc, h, nd => by
    have e : putK acc q.1 q.2 = acc ++ [q] := by
      unfold putK
      rw [if_neg]
      intro z
      obtain ⟨p, hp, hq⟩ := List.any_eq_true.mp z
      exact h q List.mem_cons_self p hp (of_decide_eq_true hq)
    show mergeK (putK acc q.1 q.2) more = acc ++ q :: more
    rw [List.map_cons, List.nodup_cons] at nd
    rw [e, merge_fresh more (acc ++ [q]) (fun r hr p hp => ?_) nd.2, List.append_assoc]
    · rfl
    · rcases List.mem_append.mp hp with hp | hp
      · exact h r (List.mem_cons_of_mem _ hr) p hp
      · rw [List.mem_singleton.mp hp]
        intro z
        exact nd.1 (by rw [z]; exact List.mem_map_of_mem hr)
def dTable (tab : Tab) (i : Nat) : DT := fun _ env Q => match env[i]? with
  | some (.ext (.str w)) => ∃ n, tab.lookup w = some n ∧ Q (.ext (.int n)) env
  | _ => False
structure Blt (G : GG) : Prop where
  len : G.mg "len" = none
  range : G.mg "range" = none
  sorted : G.mg "sorted" = none
  set : G.mg "set" = none
  tuple : G.mg "tuple" = none
  list : G.mg "list" = none
  dict : G.mg "dict" = none
  zip : G.mg "zip" = none
  enumerate : G.mg "enumerate" = none
  all : G.mg "all" = none
  any : G.mg "any" = none
  sum : G.mg "sum" = none
  min : G.mg "min" = none
  max : G.mg "max" = none
  isinstance : G.mg "isinstance" = none
  str : G.mg "str" = none
  int : G.mg "int" = none
  repr : G.mg "repr" = none
  bool : G.mg "bool" = none
def lawSpec (n : Nat) : DSpec := fun args Q _ => ∃ ns : List Int, args = [.ext (.fz (ns.map D.int))] ∧ ns.length ≤ n ∧ ∀ fin, Q (.ext (.bl true)) fin
theorem law_sp {K : PySem.W.Frag} {n : Nat} {H : Hp} {a : Addr} {ns : List Int} (hl : ns.length ≤ n) (hS : SqL K H a (ns.map V.int)) : toSp K 1 (lawSpec n) [.ref a] H (fun v _ => v = .bl true) fun _ _ _ => False := by
  have r : Reps K H [.fz (ns.map D.int)] [.ref a] := ⟨_, _, rfl, ⟨a, _, rfl, hS, Reps.of_ints ns⟩, rfl⟩
  refine ⟨H, [.ext (.fz (ns.map D.int))], fun r _ => r = .ext (.bl true), fun _ _ => False, rfl, argsE (Same.refl _) r, ⟨ns, rfl, hl, fun _ => rfl⟩, fun v H' F' r fin hf hq => ?_, fun _ _ _ _ _ z => z⟩
  subst hq
  exact hf.temps (v, .ext (.bl true)) List.mem_cons_self
theorem cx_no {P : Program} {w : World} (H : Hp) (s : Shared) (e : Value) (s' : Shared) (h : L2.CX P w [] H s (fun _ _ _ => False) e s') : False := by
  obtain ⟨_, _, _, _, _, _, _, _, _, _, _, _, z⟩ := h
  exact z
end HD
namespace HD
open PySem PyProof.Rows L2
def iSeq (K : PySem.W.Frag) (tl : TE) : TI := fun σ H R => tl σ H fun x H1 => ∃ a, x = .ref a ∧ (((∃ xs, SqL K H1 a xs) ∧ R (Itl K a) H1) ∨ ((∃ xs, SqT K H1 a xs) ∧ R (Itt K a) H1))
theorem pi_seq {X : Cx} {tg l : Expr} {tl : TE} (hl : PE X l tl) : PI X tg l (iSeq X.K tl) := by
  refine ⟨fun pins s σ H R I h => ?_⟩
  refine thn (hl.run pins s σ H _ I h) fun v s1 ⟨x, H1, I1, r1, q1⟩ => ?_
  obtain ⟨a, ex, q1⟩ := q1
  subst ex
  cases r1
  have fp : ∀ b ∈ [s1.heap.objs.size], FpOk X pins H1 b := fun b hb => by
    have eb : b = s1.heap.objs.size := by simpa using hb
    subst eb
    exact I1.fpOk (Nat.le_refl _) (I1.hok.fresh (Nat.le_refl _))
  rcases q1 with ⟨⟨xs, hq⟩, q⟩ | ⟨⟨xs, hq⟩, q⟩
  · obtain ⟨its, rv, p, hz⟩ := I1.list hq
    refine wpAny_pyIter_list p.isList ?_
    exact ⟨s1.heap.objs.size, [s1.heap.objs.size], _, _, H1, rfl, I1.kept (t' := s1.toks) fun b o e => Heap.get?_push_of_some _ e, turn_list a _, ⟨_, Heap.get?_push_size _ rfl, rfl, rfl⟩, fp, q⟩
  · obtain ⟨its, rv, p, hz⟩ := I1.tuple hq
    refine wpAny_pyIter_tuple (show s1.heap.IsTuple a its.toArray from p) ?_
    exact ⟨s1.heap.objs.size, [s1.heap.objs.size], _, _, H1, rfl, I1.kept (t' := s1.toks) fun b o e => Heap.get?_push_of_some _ e, turn_tuple a _, ⟨_, Heap.get?_push_size _ rfl, rfl, rfl⟩, fp, q⟩
def dSeq (t : DT) : DTI := fun Ex env Q => t Ex env fun x env1 => seqD env1 x fun ds keep => Q ds keep env1
theorem src_stands {K : PySem.W.Frag} {b : Bool} {a : Addr} {ds : List D} {k : Env' → Prop} {F0 : Hp} (h : Stands K b a ds k F0) : Src K (if b = true then Itt K a else Itl K a) ds k F0 := fun e env T F σ H i hh sm kk => by
  obtain ⟨vs, s1, r⟩ := h e env T F σ H hh sm kk
  cases b with
  | true =>
    refine ⟨fun hi => ⟨vs, s1, by rw [← r.length]; exact Nat.le_of_eq hi⟩, fun d hd => ?_⟩
    obtain ⟨v, hv, rd⟩ := r.get hd
    refine ⟨⟨vs, v, s1, hv⟩, fun x H2 hy => ?_⟩
    obtain ⟨rfl, hx⟩ := hy
    have e1 := hx _ s1
    rw [hv] at e1
    cases e1
    exact ⟨F, Grow.refl hh.fh, rd⟩
  | false =>
    refine ⟨fun hi => ⟨vs, s1, by rw [← r.length]; exact Nat.le_of_eq hi⟩, fun d hd => ?_⟩
    obtain ⟨v, hv, rd⟩ := r.get hd
    refine ⟨⟨vs, v, s1, hv⟩, fun x H2 hy => ?_⟩
    obtain ⟨rfl, hx⟩ := hy
    have e1 := hx _ s1
    rw [hv] at e1
    cases e1
    exact ⟨F, Grow.refl hh.fh, rd⟩
section
variable {G : GG} {N : List Str} {sc : SC} {k : Nat} {a : Expr} {ta : DT}
theorem di_seq {tg : Expr} (h : DE G N sc k a ta) : DI G N sc k tg a (dSeq ta) := ⟨fun W => by
  obtain ⟨te, p1, i1⟩ := h.ex W
  refine ⟨iSeq G.K te, fun X S => by rw [← S.K]; exact pi_seq (p1 X S), fun e Ex hl env T F σ H Q R hh ht hR => ?_⟩
  refine i1 e Ex hl env T F σ H _ _ hh ht fun v H1 F1 env1 x hh1 q1 => ?_
  obtain ⟨b, c, ds, kp, F2, rfl, q2, _, hh2, st, kk⟩ := hh1.seqD q1
  have src := src_stands st
  obtain ⟨vs, s1, _⟩ := st e env1 T F2 σ H1 hh2 (Same.refl _) kk
  cases b with
  | true => exact ⟨c, rfl, .inr ⟨⟨vs, s1⟩, hR _ H1 F2 env1 ds kp hh2 src q2⟩⟩
  | false => exact ⟨c, rfl, .inl ⟨⟨vs, s1⟩, hR _ H1 F2 env1 ds kp hh2 src q2⟩⟩⟩
end
end HD
namespace HD
open PySem L2
theorem eqv_refl {d : D} (h : d.cmp) : d.eqv d = true := PySem.SeqAt.eqv_refl d.py (PySem.SeqAt.canLay_of_shaped h.2)
def Meets (t : DTS) (n m : Nat) (sp : DSpec) : Prop := ∀ args Qd Xd, sp args Qd Xd → t (exOf args Xd) (endsOf args Qd) (args ++ List.replicate m .un)
theorem finals1 (x : Sl) (env : Env') : finals [x] env = [fin1 x env[0]?] := rfl
theorem finals2 (x y : Sl) (env : Env') : finals [x, y] env = [fin1 x env[0]?, fin1 y env[1]?] := rfl
theorem finals3 (x y z : Sl) (env : Env') : finals [x, y, z] env = [fin1 x env[0]?, fin1 y env[1]?, fin1 z env[2]?] := rfl
theorem finals4 (x y z u : Sl) (env : Env') : finals [x, y, z, u] env = [fin1 x env[0]?, fin1 y env[1]?, fin1 z env[2]?, fin1 u env[3]?] := rfl
theorem finals5 (x y z u v : Sl) (env : Env') : finals [x, y, z, u, v] env = [fin1 x env[0]?, fin1 y env[1]?, fin1 z env[2]?, fin1 u env[3]?, fin1 v env[4]?] := rfl
theorem finals6 (x y z u v w : Sl) (env : Env') : finals [x, y, z, u, v, w] env = [fin1 x env[0]?, fin1 y env[1]?, fin1 z env[2]?, fin1 u env[3]?, fin1 v env[4]?, fin1 w env[5]?] := rfl
theorem fin1_ext (d : D) (o : Option Sl) : fin1 (.ext d) o = .ext d := rfl
theorem fin1_lst (a : Addr) (ds es : List D) : fin1 (.lst a ds) (some (.lst a es)) = .lst a es := if_pos rfl
theorem fEq_ii (i j : Int) (Q : Sl → Prop) : fEq (.int i) (.int j) Q = Q (.ext (.bl (i == j))) := rfl
theorem fEq_ss (i j : Str) (Q : Sl → Prop) : fEq (.str i) (.str j) Q = Q (.ext (.bl (i == j))) := rfl
theorem fEq_bb (i j : Bool) (Q : Sl → Prop) : fEq (.bl i) (.bl j) Q = Q (.ext (.bl (i == j))) := rfl
theorem fEq_tt (i j : List D) (Q : Sl → Prop) : fEq (.tup i) (.tup j) Q = (D.cmp (.tup i) ∧ D.cmp (.tup j) ∧ Q (.ext (.bl (D.eqv (.tup i) (.tup j))))) := rfl
theorem fEq_ll (i j : List D) (Q : Sl → Prop) : fEq (.lst i) (.lst j) Q = (D.cmp (.lst i) ∧ D.cmp (.lst j) ∧ Q (.ext (.bl (D.eqv (.lst i) (.lst j))))) := rfl
theorem fNe_ii (i j : Int) (Q : Sl → Prop) : fNe (.int i) (.int j) Q = Q (.ext (.bl (!(i == j)))) := rfl
theorem fNe_ss (i j : Str) (Q : Sl → Prop) : fNe (.str i) (.str j) Q = Q (.ext (.bl (!(i == j)))) := rfl
theorem fNe_bb (i j : Bool) (Q : Sl → Prop) : fNe (.bl i) (.bl j) Q = Q (.ext (.bl (!(i == j)))) := rfl
theorem fNe_tt (i j : List D) (Q : Sl → Prop) : fNe (.tup i) (.tup j) Q = (D.cmp (.tup i) ∧ D.cmp (.tup j) ∧ Q (.ext (.bl (!D.eqv (.tup i) (.tup j))))) := rfl
theorem fNe_ll (i j : List D) (Q : Sl → Prop) : fNe (.lst i) (.lst j) Q = (D.cmp (.lst i) ∧ D.cmp (.lst j) ∧ Q (.ext (.bl (!D.eqv (.lst i) (.lst j))))) := rfl
inductive Tok {α : Type _} (Q : α) : Type where
  | mk
def CallS (spec : DSpec) (args : List Sl) (Q : Sl → List Sl → Prop) (X : Str → List Sl → Prop) (_ : Tok Q) (_ : Tok X) : Prop := spec args Q X
def GetS (o : Option D) (k : D → Prop) (_ : Tok k) : Prop := ∃ d, o = some d ∧ k d
def AtS (o : Option Sl) (k1 : D → Prop) (k2 : Addr → List D → Prop) (_ : Tok k1) (_ : Tok k2) : Prop := match o with
  | some (.ext d) => k1 d
  | some (.lst a ds) => k2 a ds
  | _ => False
theorem GetS_some (d : D) (k : D → Prop) (t : Tok k) : GetS (some d) k t = k d := propext ⟨fun ⟨_, e, h⟩ => by cases e; exact h, fun h => ⟨d, rfl, h⟩⟩
theorem AtS_ext (d : D) (k1 : D → Prop) (k2 : Addr → List D → Prop) (t : Tok k1) (u : Tok k2) : AtS (some (.ext d)) k1 k2 t u = k1 d := rfl
theorem AtS_lst (a : Addr) (ds : List D) (k1 : D → Prop) (k2 : Addr → List D → Prop) (t : Tok k1) (u : Tok k2) : AtS (some (.lst a ds)) k1 k2 t u = k2 a ds := rfl
abbrev AtL (o : Option Sl) (k2 : Addr → List D → Prop) : Prop := AtS o (fun _ => False) k2 .mk .mk
theorem AtL_eq (o : Option Sl) (k2 : Addr → List D → Prop) : (match o with | some (.lst a ds) => k2 a ds | _ => False) = AtS o (fun _ => False) k2 .mk .mk := by
  unfold AtS
  rcases o with _ | (_ | _ | _ | _ | _) <;> rfl
theorem dCall_w (spec : DSpec) (ta : DTA) (Ex : DX) (env : Env') (Q : Sl → Env' → Prop) : dCall spec ta Ex env Q = ta Ex env fun xs env1 => wds env1 xs fun ds =>
  CallS spec (ds.map .ext) (fun r _ => (anyAl xs = false ∨ r.imm = true) ∧ r.plain ∧ Q r env1) (fun c _ => Ex c env1) .mk .mk := rfl
theorem dCallJ_w (spec : DSpec) (i : Nat) (ta : DTA) (Ex : DX) (env : Env') (Q : Sl → Env' → Prop) : dCallJ spec i ta Ex env Q = AtL env[i]? fun a _ => ta Ex env fun xs env1 => AtL env1[i]? fun b ds => b = a ∧ frozs env1 xs fun es => CallS spec (.lst a ds :: es.map .ext)
        (fun r fin => match fin with | s' :: _ => s'.plain ∧ r.plain ∧ Q r (env1.set i s') | [] => False) (fun c fin => match fin with | s' :: _ => s'.plain ∧ Ex c (env1.set i s') | [] => False) .mk .mk := by
  simp only [AtL, ← AtL_eq] <;> rfl
theorem dVar_w (i : Nat) (Ex : DX) (env : Env') (Q : Sl → Env' → Prop) : dVar i Ex env Q = AtS env[i]? (fun d => Q (.ext d) env) (fun a _ => Q (.al i a) env) .mk .mk := by
  unfold dVar AtS
  rcases env[i]? with _ | (_ | _ | _ | _ | _) <;> rfl
theorem wd_ext (env : Env') (d : D) (k : D → Prop) : wd env (.ext d) k = k d := rfl
theorem wd_lst (env : Env') (a : Addr) (ds : List D) (k : D → Prop) : wd env (.lst a ds) k = k (.lst ds) := rfl
theorem wd_al (env : Env') (i : Nat) (a : Addr) (k : D → Prop) : wd env (.al i a) k = AtL env[i]? fun b ds => b = a ∧ k (.lst ds) := by
  simp only [AtL, ← AtL_eq] <;> rfl
theorem frzD_ext (env : Env') (d : D) (q : D → Env' → Prop) : frzD env (.ext d) q = q d env := rfl
theorem frzD_lst (env : Env') (a : Addr) (ds : List D) (q : D → Env' → Prop) : frzD env (.lst a ds) q = q (.lst ds) env := rfl
theorem frzD_al (env : Env') (i : Nat) (a : Addr) (q : D → Env' → Prop) : frzD env (.al i a) q = AtL env[i]? fun b ds => b = a ∧ q (.lst ds) (env.set i (.ext (.lst ds))) := by
  simp only [AtL, ← AtL_eq, frzD]
  rcases env[i]? with _ | (_ | d | _ | _ | _) <;> try rfl
  cases d <;> rfl
theorem retD_ext (env : Env') (d : D) (q : Sl → Env' → Prop) : retD env (.ext d) q = q (.ext d) env := rfl
theorem retD_lst (env : Env') (a : Addr) (ds : List D) (q : Sl → Env' → Prop) : retD env (.lst a ds) q = q (.lst a ds) env := rfl
theorem retD_al (env : Env') (i : Nat) (a : Addr) (q : Sl → Env' → Prop) : retD env (.al i a) q = AtL env[i]? fun b ds => b = a ∧ q (.lst a ds) (env.set i .un) := by
  simp only [AtL, ← AtL_eq] <;> rfl
theorem seqD_tup (env : Env') (ds : List D) (q : List D → (Env' → Prop) → Prop) : seqD env (.ext (.tup ds)) q = q ds fun _ => True := rfl
theorem seqD_elst (env : Env') (ds : List D) (q : List D → (Env' → Prop) → Prop) : seqD env (.ext (.lst ds)) q = q ds fun _ => True := rfl
theorem seqD_lst (env : Env') (a : Addr) (ds : List D) (q : List D → (Env' → Prop) → Prop) : seqD env (.lst a ds) q = q ds fun _ => True := rfl
theorem seqD_al (env : Env') (i : Nat) (a : Addr) (q : List D → (Env' → Prop) → Prop) : seqD env (.al i a) q = AtL env[i]? fun b ds => b = a ∧ q ds fun env' => env'[i]? = some (.lst a ds) := by
  simp only [AtL, ← AtL_eq] <;> rfl
theorem mutD_w (env : Env') (i : Nat) (a : Addr) (f : DMut) (Q : Sl → Env' → Prop) : mutD env i a f Q = AtL env[i]? fun b ds => b = a ∧ f ds fun d ds' => Q (.ext d) (env.set i (.lst a ds')) := by
  simp only [AtL, ← AtL_eq] <;> rfl
theorem dAppend_w (i : Nat) (t : DT) (Ex : DX) (env : Env') (Q : Sl → Env' → Prop) : dAppend i t Ex env Q = AtL env[i]? fun a _ => t Ex env fun x env1 => frzD env1 x fun d env2 => mutD env2 i a (fun ds q => ds.length < sizeLine ∧ q .non (ds ++ [d])) Q := by
  simp only [AtL, ← AtL_eq] <;> rfl
def extD (env : Env') (i : Nat) (a : Addr) (d : D) (Q : Sl → Env' → Prop) : Prop := match d with
    | .lst es => mutD env i a (fun ds q => ds.length + es.length ≤ sizeLine ∧ q .non (ds ++ es)) Q
    | _ => False
theorem extD_lst (env : Env') (i : Nat) (a : Addr) (es : List D) (Q : Sl → Env' → Prop) : extD env i a (.lst es) Q = mutD env i a (fun ds q => ds.length + es.length ≤ sizeLine ∧ q .non (ds ++ es)) Q := rfl
theorem dExtend_w (i : Nat) (t : DT) (Ex : DX) (env : Env') (Q : Sl → Env' → Prop) : dExtend i t Ex env Q = AtL env[i]? fun a _ => t Ex env fun x env1 => wd env1 x fun d => extD env1 i a d Q := by
  simp only [AtL, ← AtL_eq] <;> rfl
def popD (env : Env') (i : Nat) (a : Addr) (x : Sl) (Q : Sl → Env' → Prop) : Prop := match x with
    | .ext (.int n) => mutD env i a (fun ds q => 0 ≤ n ∧ n < 2 ^ 63 ∧ ∃ d, ds[n.toNat]? = some d ∧ q d (ds.eraseIdx n.toNat)) Q
    | _ => False
theorem popD_int (env : Env') (i : Nat) (a : Addr) (n : Int) (Q : Sl → Env' → Prop) : popD env i a (.ext (.int n)) Q = mutD env i a (fun ds q => 0 ≤ n ∧ n < 2 ^ 63 ∧ GetS ds[n.toNat]? (fun d => q d (ds.eraseIdx n.toNat)) .mk) Q := rfl
theorem dPopAt_w (i : Nat) (t : DT) (Ex : DX) (env : Env') (Q : Sl → Env' → Prop) : dPopAt i t Ex env Q = AtL env[i]? fun a _ => t Ex env fun x env1 => popD env1 i a x Q := by
  simp only [AtL, ← AtL_eq] <;> rfl
theorem dPop_w (i : Nat) (Ex : DX) (env : Env') (Q : Sl → Env' → Prop) : dPop i Ex env Q = AtL env[i]? fun a _ => mutD env i a (fun ds q => GetS ds[ds.length - 1]? (fun d => q d ds.dropLast) .mk) Q := by
  simp only [AtL, ← AtL_eq] <;> rfl
def setD (env2 : Env') (i : Nat) (a : Addr) (d : D) (z : Sl) (q : Env' → Prop) : Prop := match z with
    | .ext (.int n) => AtL env2[i]? fun b ds => b = a ∧ ∃ j, ixN ds.length n = some j ∧ q (env2.set i (.lst a (ds.set j d)))
    | _ => False
def NatS (o : Option Nat) (k : Nat → Prop) (_ : Tok k) : Prop := ∃ j, o = some j ∧ k j
theorem NatS_some (j : Nat) (k : Nat → Prop) (t : Tok k) : NatS (some j) k t = k j := propext ⟨fun ⟨_, e, h⟩ => by cases e; exact h, fun h => ⟨j, rfl, h⟩⟩
theorem setD_int (env2 : Env') (i : Nat) (a : Addr) (d : D) (n : Int) (q : Env' → Prop) : setD env2 i a d (.ext (.int n)) q = AtL env2[i]? fun b ds => b = a ∧ NatS (ixN ds.length n) (fun j => q (env2.set i (.lst a (ds.set j d)))) .mk := rfl
theorem sSetItem_w (i : Nat) (tI te : DT) (Ex : DX) (E : DEnds) (env : Env') : sSetItem i tI te Ex E env = te Ex env fun y env0 => frzD env0 y fun d env1 => AtL env1[i]? fun a _ => tI Ex env1 fun z env2 => setD env2 i a d z E.nx := by
  simp only [AtL, ← AtL_eq, setD, sSetItem] <;> rfl
theorem dTable_w (tab : Tab) (i : Nat) (Ex : DX) (env : Env') (Q : Sl → Env' → Prop) : dTable tab i Ex env Q = AtS env[i]? (fun d => match d with | .str w => ∃ n, tab.lookup w = some n ∧ Q (.ext (.int n)) env | _ => False) (fun _ _ => False) .mk .mk := by
  unfold dTable AtS
  rcases env[i]? with _ | (_ | d | _ | _ | _) <;> try rfl
  cases d <;> rfl
theorem fIx_l (ds : List D) (i : Int) (Q : Sl → Prop) : fIx (.lst ds) (.int i) Q = GetS (atI ds i) (fun d => Q (.ext d)) .mk := rfl
theorem fIx_t (ds : List D) (i : Int) (Q : Sl → Prop) : fIx (.tup ds) (.int i) Q = GetS (atI ds i) (fun d => Q (.ext d)) .mk := rfl
theorem fIx_k (ds : List D) (i : Int) (Q : Sl → Prop) : fIx (.tk ds) (.int i) Q = GetS (atI ds i) (fun d => Q (.ext d)) .mk := rfl
theorem fIx_f (ds : List D) (i : Int) (Q : Sl → Prop) : fIx (.fz ds) (.int i) Q = GetS (atI ds i) (fun d => Q (.ext d)) .mk := rfl
def BoolS (o : Option Bool) (k : Bool → Prop) (_ : Tok k) : Prop := ∃ b, o = some b ∧ k b
theorem BoolS_some (b : Bool) (k : Bool → Prop) (t : Tok k) : BoolS (some b) k t = k b := propext ⟨fun ⟨_, e, h⟩ => by cases e; exact h, fun h => ⟨b, rfl, h⟩⟩
theorem fIsi1 (d : D) (T : String) (Q : Sl → Prop) : fIsi [d, .val (.ty T)] Q = (d.noVal = true ∧ d.isFz = false ∧ BoolS (kitB d.ty T) (fun b => Q (.ext (.bl b))) .mk) := rfl
theorem fIsi2 (d : D) (T U : String) (Q : Sl → Prop) : fIsi [d, .tup [.val (.ty T), .val (.ty U)]] Q = (d.noVal = true ∧ d.isFz = false ∧ BoolS (kitB d.ty T) (fun b => BoolS (kitB d.ty U) (fun c => Q (.ext (.bl (b || c)))) .mk) .mk) := by
  simp only [fIsi, BoolS]
  refine propext ⟨fun ⟨h1, h2, b, c, h3, h4, q⟩ => ⟨h1, h2, b, h3, c, h4, q⟩, fun ⟨h1, h2, b, h3, c, h4, q⟩ => ⟨h1, h2, b, c, h3, h4, q⟩⟩
theorem kb_non_tuple : kitB (D.ty .non) "tuple" = some false := by decide +kernel
theorem kb_non_list : kitB (D.ty .non) "list" = some false := by decide +kernel
theorem kb_non_bool : kitB (D.ty .non) "bool" = some false := by decide +kernel
theorem kb_non_int : kitB (D.ty .non) "int" = some false := by decide +kernel
theorem kb_non_str : kitB (D.ty .non) "str" = some false := by decide +kernel
theorem kb_bl_tuple (b : Bool) : kitB (D.ty (.bl b)) "tuple" = some false := show kitB "bool" "tuple" = some false by decide +kernel
theorem kb_bl_list (b : Bool) : kitB (D.ty (.bl b)) "list" = some false := show kitB "bool" "list" = some false by decide +kernel
theorem kb_bl_bool (b : Bool) : kitB (D.ty (.bl b)) "bool" = some true := show kitB "bool" "bool" = some true by decide +kernel
theorem kb_bl_int (b : Bool) : kitB (D.ty (.bl b)) "int" = some true := show kitB "bool" "int" = some true by decide +kernel
theorem kb_bl_str (b : Bool) : kitB (D.ty (.bl b)) "str" = some false := show kitB "bool" "str" = some false by decide +kernel
theorem kb_int_tuple (i : Int) : kitB (D.ty (.int i)) "tuple" = some false := show kitB "int" "tuple" = some false by decide +kernel
theorem kb_int_list (i : Int) : kitB (D.ty (.int i)) "list" = some false := show kitB "int" "list" = some false by decide +kernel
theorem kb_int_bool (i : Int) : kitB (D.ty (.int i)) "bool" = some false := show kitB "int" "bool" = some false by decide +kernel
theorem kb_int_int (i : Int) : kitB (D.ty (.int i)) "int" = some true := show kitB "int" "int" = some true by decide +kernel
theorem kb_int_str (i : Int) : kitB (D.ty (.int i)) "str" = some false := show kitB "int" "str" = some false by decide +kernel
theorem kb_str_tuple (x : Str) : kitB (D.ty (.str x)) "tuple" = some false := show kitB "str" "tuple" = some false by decide +kernel
theorem kb_str_list (x : Str) : kitB (D.ty (.str x)) "list" = some false := show kitB "str" "list" = some false by decide +kernel
theorem kb_str_bool (x : Str) : kitB (D.ty (.str x)) "bool" = some false := show kitB "str" "bool" = some false by decide +kernel
theorem kb_str_int (x : Str) : kitB (D.ty (.str x)) "int" = some false := show kitB "str" "int" = some false by decide +kernel
theorem kb_str_str (x : Str) : kitB (D.ty (.str x)) "str" = some true := show kitB "str" "str" = some true by decide +kernel
theorem kb_lst_tuple (ds : List D) : kitB (D.ty (.lst ds)) "tuple" = some false := show kitB "list" "tuple" = some false by decide +kernel
theorem kb_lst_list (ds : List D) : kitB (D.ty (.lst ds)) "list" = some true := show kitB "list" "list" = some true by decide +kernel
theorem kb_lst_bool (ds : List D) : kitB (D.ty (.lst ds)) "bool" = some false := show kitB "list" "bool" = some false by decide +kernel
theorem kb_lst_int (ds : List D) : kitB (D.ty (.lst ds)) "int" = some false := show kitB "list" "int" = some false by decide +kernel
theorem kb_lst_str (ds : List D) : kitB (D.ty (.lst ds)) "str" = some false := show kitB "list" "str" = some false by decide +kernel
theorem kb_tup_tuple (ds : List D) : kitB (D.ty (.tup ds)) "tuple" = some true := show kitB "tuple" "tuple" = some true by decide +kernel
theorem kb_tup_list (ds : List D) : kitB (D.ty (.tup ds)) "list" = some false := show kitB "tuple" "list" = some false by decide +kernel
theorem kb_tup_bool (ds : List D) : kitB (D.ty (.tup ds)) "bool" = some false := show kitB "tuple" "bool" = some false by decide +kernel
theorem kb_tup_int (ds : List D) : kitB (D.ty (.tup ds)) "int" = some false := show kitB "tuple" "int" = some false by decide +kernel
theorem kb_tup_str (ds : List D) : kitB (D.ty (.tup ds)) "str" = some false := show kitB "tuple" "str" = some false by decide +kernel
def BlS (z : Sl) (k : Bool → Prop) (_ : Tok k) : Prop := match z with
  | .ext (.bl b) => k b
  | _ => False
theorem BlS_bl (b : Bool) (k : Bool → Prop) (t : Tok k) : BlS (.ext (.bl b)) k t = k b := rfl
theorem bl_match (z : Sl) (p q : Prop) : (match z with
  | .ext (.bl true) => p
  | .ext (.bl false) => q
  | _ => False) = BlS z (fun b => if b = true then p else q) .mk := by
  unfold BlS
  rcases z with _ | (_ | b | _ | _ | _ | _ | _ | _ | _ | _ | _) | _ | _ <;> try rfl
  cases b <;> simp
theorem dChain_w (f f' : D → D → (Sl → Prop) → Prop) (ta tb tc : DT) (Ex : DX) (env : Env') (Q : Sl → Env' → Prop) : dChain f f' ta tb tc Ex env Q = ta Ex env fun x env1 => tb Ex env1 fun y env2 => wd env2 x fun d => wd env2 y fun d' => f d d' fun z =>
  BlS z (fun b => if b = true then (tc Ex env2 fun w env3 => wd env3 y fun d1 => wd env3 w fun d2 => f' d1 d2 fun sl => Q sl env3) else Q (.ext (.bl false)) env2) .mk := by
  simp only [← bl_match] <;> rfl
theorem dAndV_w (ta tb : DT) (Ex : DX) (env : Env') (Q : Sl → Env' → Prop) : dAndV ta tb Ex env Q = ta Ex env fun x env1 => BlS x (fun b => if b = true then tb Ex env1 Q else Q (.ext (.bl false)) env1) .mk := by
  simp only [← bl_match] <;> rfl
theorem dOrV_w (ta tb : DT) (Ex : DX) (env : Env') (Q : Sl → Env' → Prop) : dOrV ta tb Ex env Q = ta Ex env fun x env1 => BlS x (fun b => if b = true then Q (.ext (.bl true)) env1 else tb Ex env1 Q) .mk := by
  have e : ∀ (z : Sl) (p q : Prop), (match z with
    | .ext (.bl false) => q
    | .ext (.bl true) => p
    | _ => False) = BlS z (fun b => if b = true then p else q) .mk := by
    intro z p q
    unfold BlS
    rcases z with _ | (_ | b | _ | _ | _ | _ | _ | _ | _ | _ | _) | _ | _ <;> try rfl
    cases b <;> simp
  simp only [← e] <;> rfl
abbrev iD (l : List Int) : List D := l.map D.int
abbrev nD (l : List Nat) : List D := l.map fun n : Nat => D.int (n : Int)
theorem nD_cons (x : Nat) (l : List Nat) : nD (x :: l) = D.int (x : Int) :: nD l := rfl
theorem nD_app (a b : List Nat) : nD (a ++ b) = nD a ++ nD b := List.map_append
theorem nD_len (a : List Nat) : (nD a).length = a.length := List.length_map _
theorem iD_len (a : List Int) : (iD a).length = a.length := List.length_map _
theorem cmulN {i j : Int} {a b : Nat} (hi : i.natAbs < 2 ^ a) (hj : j.natAbs < 2 ^ b) (h : a + b < 1000000) : CMulW i j := by
  unfold CMulW
  have h1 : i.natAbs.log2 ≤ a := by
    rcases Nat.eq_zero_or_pos i.natAbs with z | z
    · rw [z]; exact Nat.zero_le _
    · exact Nat.le_of_lt ((Nat.log2_lt (by omega)).2 hi)
  have h2 : j.natAbs.log2 ≤ b := by
    rcases Nat.eq_zero_or_pos j.natAbs with z | z
    · rw [z]; exact Nat.zero_le _
    · exact Nat.le_of_lt ((Nat.log2_lt (by omega)).2 hj)
  omega
theorem cmul64 {i j : Int} (h1 : -18446744073709551616 < i) (h2 : i < 18446744073709551616) (h3 : -18446744073709551616 < j) (h4 : j < 18446744073709551616) : CMulW i j :=
  cmulN (a := 64) (b := 64) (by omega) (by omega) (by decide)
theorem atN {α : Type} {xs : List α} {n : Nat} {x : α} (h : xs[n]? = some x) : atI xs (n : Int) = some x := by
  have hl : n < xs.length := (List.getElem?_eq_some_iff.1 h).1
  have e : ixN xs.length (n : Int) = some n := by
    unfold ixN
    rw [if_pos (by omega), if_pos (by omega)]
    simp
  unfold atI
  rw [e]
  exact h
theorem ixN_nat {n i : Nat} (h : i < n) : ixN n (i : Int) = some i := by
  unfold ixN
  rw [if_pos (by omega), if_pos (by omega)]
  simp
theorem atI_int {α : Type} {xs : List α} {i : Int} {x : α} (h0 : 0 ≤ i) (h : xs[i.toNat]? = some x) : atI xs i = some x := by
  have := atN h
  rwa [Int.toNat_of_nonneg h0] at this
theorem atI_0 {α : Type} (x : α) (xs : List α) : atI (x :: xs) 0 = some x := atN (n := 0) rfl
theorem atI_1 {α : Type} (x y : α) (xs : List α) : atI (x :: y :: xs) 1 = some y := atN (n := 1) rfl
theorem atI_2 {α : Type} (x y z : α) (xs : List α) : atI (x :: y :: z :: xs) 2 = some z := atN (n := 2) rfl
theorem atI_3 {α : Type} (x y z u : α) (xs : List α) : atI (x :: y :: z :: u :: xs) 3 = some u := atN (n := 3) rfl
theorem ixN_0 (n : Nat) : ixN (n + 1) 0 = some 0 := ixN_nat (i := 0) (by omega)
theorem ixN_1 (n : Nat) : ixN (n + 1 + 1) 1 = some 1 := ixN_nat (i := 1) (by omega)
theorem ixN_2 (n : Nat) : ixN (n + 1 + 1 + 1) 2 = some 2 := ixN_nat (i := 2) (by omega)
end HD
namespace HD
open PySem L2
def sRaise (x : Str) : DTS := fun Ex _ env => Ex x env
section
variable {G : GG} {N : List Str} {sc : SC} {k : Nat}
def sTryKeep (cs : List Str) (i j : Nat) (t : DTS) : DTS := fun _ E env => t (fun c env1 => c ∈ cs ∧ i < env1.length ∧ E.nx ((env1.set j (.ext (.exc c))).set i .un)) E env
end
end HD
namespace HD
open PySem L2
abbrev FTab := Str → Option (Nat × DSpec)
def dCallV (FT : FTab) (i : Nat) (ta : DTA) : DT := fun Ex env Q => match env[i]? with
  | some (.ext (.glo nm)) => ∃ n spec, FT nm = some (n, spec) ∧ dCall spec ta Ex env Q
  | _ => False
end HD
namespace HD
open PySem PyProof.Rows L2
def dMeth (T : D → Bool) (f : D → D → (Sl → Prop) → Prop) (to ta : DT) : DT := fun Ex env Q => to Ex env fun x env1 => wd env1 x (fun d => T d = true) ∧ ta Ex env1 fun y env2 => wd env2 x fun d => wd env2 y fun d' => f d d' fun sl => Q sl env2
def fCount (d d' : D) (Q : Sl → Prop) : Prop := match d with
  | .lst ds => d'.flat = true ∧ ds.all D.flat = true ∧ Q (.ext (.int ((ds.countP fun z => eqV z.toV d'.toV : Nat) : Int)))
  | _ => False
def fSplit (d d' : D) (Q : Sl → Prop) : Prop := match d, d' with
  | .str a, .str b => (b.length == 0) = false ∧ a.length + 2 ≤ sizeLine ∧ ∀ p, Q (.lst p ((Txt.split a b).map D.str))
  | _, _ => False
def hookE (n : Nat) (fa : List He.Fa) (fn : List He.DefD) (ex : PySem.W.Frag → Bool) : PySem.W.Hook where
  α := He.AlD × Bool
  obs := fun s => (He.obsDG n fa fn s.heap.get?, ex (He.frG s.heap.get? (He.asD s.heap.get? n)))
  val := fun _ => (He.valD fn, true)
  says := fun _ h => ∃ K : PySem.W.Frag, K.In h ∧ He.SaysD fa fn K ∧ ex K = true
  of := fun _ _ e => ⟨_, He.frG_in, congrArg (fun z : He.AlD × Bool => z.1) e, congrArg (fun z : He.AlD × Bool => z.2) e⟩
  keeps := fun _ _ _ ⟨K, hK, c⟩ k => ⟨K, PySem.W.Frag.In.keeps hK k, c⟩
def obsE (n : Nat) (fa : List He.Fa) (fn : List He.DefD) (ex : PySem.W.Frag → Bool) (g : Addr → Option Obj) : He.AlD × Bool := (He.obsDG n fa fn g, ex (He.frG g (He.asD g n)))
theorem obsE_eq {n : Nat} {fa : List He.Fa} {fn : List He.DefD} {ex : PySem.W.Frag → Bool} {g : Addr → Option Obj} {s : Shared} (h : ∀ a, g a = s.heap.get? a) : obsE n fa fn ex g = (hookE n fa fn ex).obs s := by
  have e : g = s.heap.get? := funext h
  rw [e] <;> rfl
end HD
namespace LS.K46.E
open PySem L2 HD
def topS (i : Nat) : Stmt := PySem.Challenge.pw_sumorder_k46_orders_and_rings_looked_at.main.body.getD i (.Pass ⟨0, 0, 0, 0⟩)
abbrev s_is_whole : Stmt := topS 1
abbrev s_ties_of : Stmt := topS 5
abbrev s_bag_by : Stmt := topS 6
abbrev s_all_tied : Stmt := topS 8
abbrev s_road : Stmt := topS 9
abbrev s_law_jar : Stmt := topS 16
abbrev s_law_prime : Stmt := topS 17
abbrev s_law_times : Stmt := topS 20
abbrev s_law_tied : Stmt := topS 28
abbrev s_law_bag : Stmt := topS 29
abbrev s_law_whole_number : Stmt := topS 32
abbrev s_is_order : Stmt := topS 3
abbrev s_ring_at : Stmt := topS 10
abbrev s_law_dip : Stmt := topS 18
abbrev s_law_unlike_names : Stmt := topS 34
abbrev s_no_new_ties : Stmt := topS 11
abbrev s_is_ring : Stmt := topS 12
abbrev s_ties_none : Stmt := topS 13
abbrev s_law_some : Stmt := topS 25
abbrev s_law_order : Stmt := topS 31
abbrev s_law_due : Stmt := topS 35
abbrev s_law_bent : Stmt := topS 36
abbrev s_is_no_new : Stmt := topS 14
abbrev s_law_web : Stmt := topS 30
abbrev s_law : Stmt := topS 37
def y_is_whole : He.DefD := ⟨("is_whole", none), "is_whole", "is_whole", defArgs s_is_whole, defBody s_is_whole, defScope s_is_whole, [], []⟩
def y_ties_of : He.DefD := ⟨("ties_of", none), "ties_of", "ties_of", defArgs s_ties_of, defBody s_ties_of, defScope s_ties_of, [], []⟩
def y_bag_by : He.DefD := ⟨("bag_by", none), "bag_by", "bag_by", defArgs s_bag_by, defBody s_bag_by, defScope s_bag_by, [], []⟩
def y_all_tied : He.DefD := ⟨("all_tied", none), "all_tied", "all_tied", defArgs s_all_tied, defBody s_all_tied, defScope s_all_tied, [], []⟩
def y_road : He.DefD := ⟨("road", none), "road", "road", defArgs s_road, defBody s_road, defScope s_road, [], []⟩
def y_law_jar : He.DefD := ⟨("_law_jar", none), "_law_jar", "_law_jar", defArgs s_law_jar, defBody s_law_jar, defScope s_law_jar, [], []⟩
def y_law_prime : He.DefD := ⟨("_law_prime", none), "_law_prime", "_law_prime", defArgs s_law_prime, defBody s_law_prime, defScope s_law_prime, [], []⟩
def y_law_times : He.DefD := ⟨("_law_times", none), "_law_times", "_law_times", defArgs s_law_times, defBody s_law_times, defScope s_law_times, [], []⟩
def y_law_tied : He.DefD := ⟨("_law_tied", none), "_law_tied", "_law_tied", defArgs s_law_tied, defBody s_law_tied, defScope s_law_tied, [], []⟩
def y_law_bag : He.DefD := ⟨("_law_bag", none), "_law_bag", "_law_bag", defArgs s_law_bag, defBody s_law_bag, defScope s_law_bag, [], []⟩
def y_law_whole_number : He.DefD := ⟨("_law_whole_number", none), "_law_whole_number", "_law_whole_number", defArgs s_law_whole_number, defBody s_law_whole_number, defScope s_law_whole_number, [], []⟩
def y_is_order : He.DefD := ⟨("is_order", none), "is_order", "is_order", defArgs s_is_order, defBody s_is_order, defScope s_is_order, [], []⟩
def y_ring_at : He.DefD := ⟨("ring_at", none), "ring_at", "ring_at", defArgs s_ring_at, defBody s_ring_at, defScope s_ring_at, [], []⟩
def y_law_dip : He.DefD := ⟨("_law_dip", none), "_law_dip", "_law_dip", defArgs s_law_dip, defBody s_law_dip, defScope s_law_dip, [], []⟩
def y_law_unlike_names : He.DefD := ⟨("_law_unlike_names", none), "_law_unlike_names", "_law_unlike_names", defArgs s_law_unlike_names, defBody s_law_unlike_names, defScope s_law_unlike_names, [], []⟩
def y_no_new_ties : He.DefD := ⟨("no_new_ties", none), "no_new_ties", "no_new_ties", defArgs s_no_new_ties, defBody s_no_new_ties, defScope s_no_new_ties, [], []⟩
def y_is_ring : He.DefD := ⟨("is_ring", none), "is_ring", "is_ring", defArgs s_is_ring, defBody s_is_ring, defScope s_is_ring, [], []⟩
def y_ties_none : He.DefD := ⟨("ties_none", none), "ties_none", "ties_none", defArgs s_ties_none, defBody s_ties_none, defScope s_ties_none, [], []⟩
def y_law_some : He.DefD := ⟨("_law_some", none), "_law_some", "_law_some", defArgs s_law_some, defBody s_law_some, defScope s_law_some, [], []⟩
def y_law_order : He.DefD := ⟨("_law_order", none), "_law_order", "_law_order", defArgs s_law_order, defBody s_law_order, defScope s_law_order, [], []⟩
def y_law_due : He.DefD := ⟨("_law_due", none), "_law_due", "_law_due", defArgs s_law_due, defBody s_law_due, defScope s_law_due, [], []⟩
def y_law_bent : He.DefD := ⟨("_law_bent", none), "_law_bent", "_law_bent", defArgs s_law_bent, defBody s_law_bent, defScope s_law_bent, [], []⟩
def y_is_no_new : He.DefD := ⟨("is_no_new", none), "is_no_new", "is_no_new", defArgs s_is_no_new, defBody s_is_no_new, defScope s_is_no_new, [], []⟩
def y_law_web : He.DefD := ⟨("_law_web", none), "_law_web", "_law_web", defArgs s_law_web, defBody s_law_web, defScope s_law_web, [], []⟩
def y_law : He.DefD := ⟨("law", none), "law", "law", defArgs s_law, defBody s_law, defScope s_law, [], []⟩
def fn0 : List He.DefD := [y_is_whole, y_ties_of, y_bag_by, y_all_tied, y_road, y_law_jar, y_law_prime, y_law_times, y_law_tied, y_law_bag, y_law_whole_number, y_is_order, y_ring_at, y_law_dip, y_law_unlike_names, y_no_new_ties, y_is_ring, y_ties_none, y_law_some, y_law_order, y_law_due, y_law_bent, y_is_no_new, y_law_web, y_law]
def fn : List He.DefD := fn0
def fa0 : List He.Fa := [.glo "is_whole", .glo "ties_of", .glo "bag_by", .glo "all_tied", .glo "road", .glo "_law_jar", .glo "_law_prime", .glo "_law_times", .glo "_law_tied", .glo "_law_bag", .glo "_law_whole_number", .glo "is_order", .glo "ring_at", .glo "_law_dip", .glo "_law_unlike_names", .glo "no_new_ties", .glo "is_ring", .glo "ties_none", .glo "_law_some", .glo "_law_order", .glo "_law_due", .glo "_law_bent", .glo "is_no_new", .glo "_law_web", .glo "law", .free "len", .free "range", .free "sorted", .free "set", .free "tuple"]
def fa1 : List He.Fa := [.free "list", .free "dict", .free "zip", .free "enumerate", .free "all", .free "any", .free "sum", .free "min", .free "max", .free "isinstance", .free "str", .free "int", .free "repr", .free "bool"]
def fa : List He.Fa := fa0 ++ fa1
def nm0 : List PySem.Str := ["is_whole", "is_order", "ties_of", "bag_by", "all_tied", "road", "ring_at", "no_new_ties", "is_ring", "ties_none", "is_no_new", "_law_jar", "_law_prime", "_law_dip", "_law_fillings", "_law_times", "_law_look", "_law_word", "_law_number", "_law_sizes", "_law_some", "_law_part", "_law_sheet", "_law_tied", "_law_bag", "_law_web", "_law_order", "_law_whole_number", "_law_are_names", "_law_unlike_names"]
def nm1 : List PySem.Str := ["_law_due", "_law_bent"]
def nm : List PySem.Str := nm0 ++ nm1
abbrev R : PySem.W.OpenRow := PySem.W.OpenLaw.row PySem.Challenge.rw_sumorder_k46_orders_and_rings_looked_at
def ex : PySem.W.Frag → Bool := fun _ => true
abbrev hk : PySem.W.Hook := hookE 4 fa fn ex
def ob (s : PySem.W.SharedT) : He.AlD × Bool := obsE 4 fa fn ex (HandSHeadRun.getT s)
theorem obE (s : PySem.W.SharedT) : ob s = hk.obs s.abs := obsE_eq (HandSHeadRun.getT_eq s)
theorem topRun (w : World) : HandSHeadRun.RunEq R (PySem.W.view R.prog [37]) hk ob 8000 nm w := by
  intro os; kernel_rfl
end LS.K46.E
namespace HD
open PySem L2
section
variable {g : DTG} {tt : DTT} {te : DT} {vs : List Nat} {keep : Env' → Prop} {Q : Sl → Env' → Prop} {env : Env'} {α : Type}
theorem fm_if {α β : Type} (f : α → β) (p : α → Bool) (xs : List α) : xs.filterMap (fun x => if p x = true then some (f x) else none) = (xs.filter p).map f := by
  induction xs with
  | nil => rfl
  | cons y xs ih =>
    by_cases hy : p y = true
    · rw [List.filterMap_cons_some (b := f y) (by rw [if_pos hy]), List.filter_cons_of_pos hy, List.map_cons, ih]
    · rw [List.filterMap_cons_none (by rw [if_neg hy]), List.filter_cons_of_neg hy, ih]
theorem lc_fm (i : α → D) (f : α → Option D) (hk : keep env) (xs : List α) : ∀ acc : List D, acc.length + xs.length ≤ sizeLine →
    (∀ x ∈ xs, ∀ R : Option D → Env' → Prop, R (f x) env → g (i x) env fun env1 => tt noX env1 fun b env2 => if b = true then te noX env2 fun y env3 => frzD env3 y fun d' env4 => R (some d') (wipeE env4 vs) else R none (wipeE env2 vs)) →
    (∀ a, Q (.lst a (acc ++ xs.filterMap f)) env) → lcD g tt te vs keep Q (xs.map i) acc env := by
  induction xs with
  | nil => intro acc _ _ hQ; exact ⟨hk, fun a => by simpa using hQ a⟩
  | cons x xs ih =>
    intro acc hl h hQ
    rw [List.length_cons] at hl
    rw [List.map_cons, lcD]
    refine ⟨hk, by omega, h x List.mem_cons_self (fun o env' => match o with
      | some d' => lcD g tt te vs keep Q (xs.map i) (acc ++ [d']) env'
      | none => lcD g tt te vs keep Q (xs.map i) acc env') ?_⟩
    cases e : f x with
    | none =>
      refine ih acc (by omega) (fun y hy => h y (List.mem_cons_of_mem _ hy)) fun a => ?_
      have := hQ a
      rw [List.filterMap_cons_none e] at this
      exact this
    | some d =>
      refine ih (acc ++ [d]) (by rw [List.length_append, List.length_singleton]; omega) (fun y hy => h y (List.mem_cons_of_mem _ hy)) fun a => ?_
      have := hQ a
      rw [List.filterMap_cons_some e] at this
      rw [List.append_assoc]
      exact this
theorem lc_map (i f : α → D) (hk : keep env) (xs : List α) (hl : xs.length ≤ sizeLine)
    (h : ∀ x ∈ xs, ∀ R : D → Env' → Prop, R (f x) env → g (i x) env fun env1 => te noX env1 fun y env3 => frzD env3 y fun d' env4 => R d' (wipeE env4 vs))
    (hQ : ∀ a, Q (.lst a (xs.map f)) env) : lcD g dYes te vs keep Q (xs.map i) [] env := by
  refine lc_fm i (fun x => some (f x)) hk xs [] (by simpa using hl) (fun x hx R hR => ?_) (fun a => by simpa [List.filterMap_eq_map] using hQ a)
  have := h x hx (fun d e => R (some d) e) hR
  simp only [dYes, if_true]
  exact this
theorem lc_filter (i f : α → D) (p : α → Bool) (hk : keep env) (xs : List α) (hl : xs.length ≤ sizeLine)
    (h : ∀ x ∈ xs, ∀ R : Option D → Env' → Prop, R (if p x = true then some (f x) else none) env → g (i x) env fun env1 => tt noX env1 fun b env2 => if b = true then te noX env2 fun y env3 => frzD env3 y fun d' env4 => R (some d') (wipeE env4 vs) else R none (wipeE env2 vs))
    (hQ : ∀ a, Q (.lst a ((xs.filter p).map f)) env) : lcD g tt te vs keep Q (xs.map i) [] env := by
  refine lc_fm i (fun x => if p x = true then some (f x) else none) hk xs [] (by simpa using hl) h (fun a => ?_)
  have e := fm_if f p xs
  rw [List.nil_append, e]
  exact hQ a
theorem lc_ind (i : α → D) (P : List α → List D → Env' → Prop) (hnil : ∀ acc env, P [] acc env → keep env ∧ ∀ a, Q (.lst a acc) env)
    (hcons : ∀ x xs acc env (N : List D → Env' → Prop), P (x :: xs) acc env → (∀ acc' env', P xs acc' env' → N acc' env') → keep env ∧ acc.length < sizeLine ∧ g (i x) env fun env1 => tt noX env1 fun b env2 => if b = true then te noX env2 fun y env3 => frzD env3 y fun d' env4 => N (acc ++ [d']) (wipeE env4 vs) else N acc (wipeE env2 vs)) :
    ∀ (xs : List α) (acc : List D) (env : Env'), P xs acc env → lcD g tt te vs keep Q (xs.map i) acc env := by
  intro xs
  induction xs with
  | nil => intro acc env h; exact hnil acc env h
  | cons x xs ih =>
    intro acc env h
    rw [List.map_cons, lcD]
    exact hcons x xs acc env (fun acc' env' => lcD g tt te vs keep Q (xs.map i) acc' env') h fun acc' env' h' => ih acc' env' h'
end
section
variable {g : DTG} {body : DTS} {keep : Env' → Prop} {Ex : DX} {E : DEnds} {α : Type}
theorem for_ind (i : α → D) (P : List α → Env' → Prop) (hnil : ∀ env, P [] env → keep env ∧ E.nx env)
    (hcons : ∀ x xs env (N : Env' → Prop), P (x :: xs) env → (∀ env', P xs env' → N env') → keep env ∧ g (i x) env fun env1 => body Ex { E with nx := N, ct := N, bk := E.nx } env1) :
    ∀ (xs : List α) (env : Env'), P xs env → forD g body keep Ex E (xs.map i) env := by
  intro xs
  induction xs with
  | nil => intro env h; exact hnil env h
  | cons x xs ih =>
    intro env h
    rw [List.map_cons, forD]
    exact hcons x xs env _ h fun env' h' => ih env' h'
end
theorem dCallV_w (FT : FTab) (i : Nat) (ta : DTA) (Ex : DX) (env : Env') (Q : Sl → Env' → Prop) : dCallV FT i ta Ex env Q = AtS env[i]? (fun d => match d with | .glo nm => ∃ n spec, FT nm = some (n, spec) ∧ dCall spec ta Ex env Q | _ => False) (fun _ _ => False) .mk .mk := by
  unfold dCallV AtS
  rcases env[i]? with _ | (_ | d | _ | _ | _) <;> try rfl
  cases d <;> rfl
end HD
namespace HD
open PySem PySem.Spec PyProof.Rows L2
section
variable {G : GG} {N : List Str} {sc : SC} {k : Nat} {a : Expr} {ta : DT} {p p2 pos pos2 : Pos}
def dSortSetL (t : DT) : DT := fun Ex env Q => t Ex env fun x env1 => wd env1 x fun d => match d with
  | .lst ds => ∃ ns : List Int, ds = ns.map D.int ∧ ns.length < 64 ∧ ∀ (ns' : List Int) (b : Addr), ns'.Pairwise (· < ·) → (∀ n : Int, n ∈ ns' ↔ n ∈ ns) → Q (.lst b (ns'.map D.int)) env1
  | _ => False
end
def FzS (o : Option Sl) (k : List D → Prop) (z : Prop) (_ : Tok k) (_ : Tok z) : Prop := match o with
  | some (.lst _ ds) => k ds
  | _ => z
theorem FzS_lst (a : Addr) (ds : List D) (k : List D → Prop) (z : Prop) (t : Tok k) (u : Tok z) : FzS (some (.lst a ds)) k z t u = k ds := rfl
theorem FzS_ext (d : D) (k : List D → Prop) (z : Prop) (t : Tok k) (u : Tok z) : FzS (some (.ext d)) k z t u = z := rfl
theorem sFz_w (i : Nat) (t : DTS) (Ex : DX) (E : DEnds) (env : Env') : sFz i t Ex E env = FzS env[i]? (fun ds => t Ex E (env.set i (.ext (.lst ds)))) (t Ex E env) .mk .mk := by
  unfold sFz FzS
  rcases env[i]? with _ | (_ | _ | _ | _ | _) <;> rfl
def fAbs : List D → (Sl → Prop) → Prop
  | [.int i], Q => Q (.ext (.int (if i < 0 then -i else i)))
  | _, _ => False
def fInt : List D → (Sl → Prop) → Prop
  | [.int i], Q => Q (.ext (.int i))
  | [.bl b], Q => Q (.ext (.int (if b then 1 else 0)))
  | _, _ => False
end HD
namespace HD
open PySem PyProof.Rows L2
def rRepr (K : PySem.W.Frag) : List V → Hp → VK → Prop := fun xs H Q => ∃ (v : V) (d : PyData), xs = [v] ∧ Dp K H v d ∧ d.showable = true ∧ d.hasDict = false ∧ d.depth ≤ 60 ∧ d.shown.length ≤ sizeLine ∧ Q (.str d.shown) H
theorem call_repr {X : Cx} (gd : X.A.guards = some []) (hu : X.A.units + 64 < cLine) : CallR X (.builtin "repr") (rRepr X.K) := by
  intro pins s σ H xs us Q I r h
  obtain ⟨v, d, rfl, hd, hs, hn, hdp, hz, q⟩ := h
  obtain ⟨u, rfl, ru⟩ := vals1 r
  cases hd with
  | non =>
    cases (show u = Value.none from ru)
    exact PySem.P.repr_of_none ⟨.str _, H, I.tok _, ⟨_, rfl⟩, q⟩
  | bl b =>
    cases (show u = Value.bool b from ru)
    exact PySem.P.repr_of_bool ⟨.str _, H, I.tok _, ⟨_, rfl⟩, q⟩
  | int i =>
    obtain ⟨t, rfl⟩ := ru
    exact PySem.P.repr_of_int (by simpa [PyData.showable] using hs) ⟨.str _, H, I.tok _, ⟨_, rfl⟩, q⟩
  | str x =>
    obtain ⟨t, rfl⟩ := ru
    exact PySem.P.repr_of_str ⟨.str _, H, I.tok _, ⟨_, rfl⟩, q⟩ (by simpa only [PyData.shown] using hz)
  | lst h1 h2 =>
    obtain ⟨as, rd⟩ := Dp.reads I _ _ _ (.lst h1 h2) ru
    cases ru
    exact repr_of_reads' rd hs (PyData.noDict_hsm hn) gd (by omega) (fun b o e => e) (fun g u tk hk => ⟨.str _, H, I.kept (t' := tk) hk, ⟨_, rfl⟩, q⟩) hz
  | tup h1 h2 =>
    obtain ⟨as, rd⟩ := Dp.reads I _ _ _ (.tup h1 h2) ru
    cases ru
    exact repr_of_reads' rd hs (PyData.noDict_hsm hn) gd (by omega) (fun b o e => e) (fun g u tk hk => ⟨.str _, H, I.kept (t' := tk) hk, ⟨_, rfl⟩, q⟩) hz
structure D.sh (d : D) : Prop where
  nv : d.noVal = true
  ok : d.py.showable = true
  nd : d.py.hasDict = false
  dp : d.py.depth ≤ 60
  len : d.py.shown.length ≤ sizeLine
def fRepr : List D → (Sl → Prop) → Prop
  | [d], Q => d.sh ∧ Q (.ext (.str d.py.shown))
  | _, _ => False
theorem pr_repr (K : PySem.W.Frag) : Pr K (rRepr K) fRepr := fun F H vs ds Q R fh h hf ha => by
  rcases ds with _ | ⟨d, _ | ⟨d2, ds⟩⟩ <;> try exact hf.elim
  obtain ⟨v, rfl, r⟩ := h.one
  obtain ⟨hs, q⟩ := hf
  exact ⟨v, d.py, rfl, Rep.dp hs.nv (r.rep fh), hs.ok, hs.nd, hs.dp, hs.len, ha.str fh q⟩
section
variable {G : GG} {N : List Str} {sc : SC} {k : Nat} {e : Expr} {es : List Expr} {t : DTA} {p pos : Pos}
theorem de_repr (hm : G.mg "repr" = none) (ha : DAs G N sc k (e :: es) t) (hg : GlS sc "repr" := by rfl)
    (he : NoStar e es := by intro _; rfl) (hpl : ∀ env, (backTo pos (starEach es env)).any (·.1) = false := by intro _; rfl) : DE G N sc k (.Call (.Name "repr" p) (e :: es) [] pos) (dCB fRepr t) := ⟨fun W => by
  obtain ⟨ta, p1, i1⟩ := ha.ex W
  refine ⟨tCB (rRepr G.K) ta, fun X S => ?_, im_cb (pr_repr G.K) i1⟩
  have c : CallR X (.builtin "repr") (rRepr X.K) := call_repr S.gd S.units
  rw [S.K] at c
  exact pe_callB c (S.gl hg) (by rw [S.mg]; exact hm) (by decide +kernel) (p1 X S) (by decide) (by decide) (he _) (hpl _)⟩
end
def fLtT : D → D → (Sl → Prop) → Prop
  | .tup xs, .tup ys, Q => ∃ ns ms : List Int, xs = ns.map D.int ∧ ys = ms.map D.int ∧ Q (.ext (.bl (HT.lexLt ns ms)))
  | _, _, _ => False
def D.sv : Nat → D → Bool
  | _, .non => true
  | _, .bl _ => true
  | _, .int i => decide (i.natAbs.log2 < 1920)
  | _, .str x => x.cps.toList.all fun c => decide (c < 16 ^ 8)
  | k + 1, .lst ds => ds.all (D.sv k)
  | k + 1, .tup ds => ds.all (D.sv k)
  | _, _ => false
theorem bulks_app (a b : List D) : PyData.bulkAll (D.pys (a ++ b)) = PyData.bulkAll (D.pys a) + PyData.bulkAll (D.pys b) := by
  induction a with
  | nil => simp [D.pys, PyData.bulkAll]
  | cons d a ih => simp only [List.cons_append, D.pys, PyData.bulkAll, ih]; omega
theorem bulks_nD (l : List Nat) : PyData.bulkAll (D.pys (nD l)) = l.length := by
  induction l with
  | nil => rfl
  | cons x l ih => rw [nD_cons, D.pys, PyData.bulkAll, ih, List.length_cons]; simp [D.py, PyData.bulk]; omega
end HD
namespace PM
def sz (S : List Nat) (n : Nat) : Nat := S.getD n 0
def prodN : List Nat → Nat
  | [] => 1
  | x :: xs => x * prodN xs
def psz (S : List Nat) (ns : List Nat) : Nat := prodN (ns.map (sz S))
def pl (S : List Nat) : Nat → List Nat → List Nat → Nat
  | acc, n :: ns, w :: ws => pl S (acc * sz S n + w) ns ws
  | acc, _, _ => acc
structure Part where
  ns : List Nat
  ws : List Int
def Rising (l : List Nat) : Prop := l.Pairwise (· < ·)
theorem Rising.nd {l : List Nat} (h : Rising l) : l.Nodup := List.Pairwise.imp (fun h => Nat.ne_of_lt h) h
theorem rising_ext {a b : List Nat} (ha : Rising a) (hb : Rising b) (h : ∀ n, n ∈ a ↔ n ∈ b) : a = b := by
  induction a generalizing b with
  | nil =>
    cases b with
    | nil => rfl
    | cons y b => exact absurd ((h y).2 List.mem_cons_self) (by simp)
  | cons x a ih =>
    cases b with
    | nil => exact absurd ((h x).1 List.mem_cons_self) (by simp)
    | cons y b =>
      have ha' := List.pairwise_cons.1 ha
      have hb' := List.pairwise_cons.1 hb
      have e : x = y := by
        rcases List.mem_cons.1 ((h x).1 List.mem_cons_self) with e | e
        · exact e
        · rcases List.mem_cons.1 ((h y).2 List.mem_cons_self) with e' | e'
          · exact e'.symm
          · have h1 := hb'.1 x e
            have h2 := ha'.1 y e'
            omega
      subst e
      rw [ih ha'.2 hb'.2 fun n => ?_]
      constructor
      · intro hn
        rcases List.mem_cons.1 ((h n).1 (List.mem_cons_of_mem _ hn)) with e | e
        · have := ha'.1 n hn; omega
        · exact e
      · intro hn
        rcases List.mem_cons.1 ((h n).2 (List.mem_cons_of_mem _ hn)) with e | e
        · have := hb'.1 n hn; omega
        · exact e
structure Part.Ok (S : List Nat) (p : Part) : Prop where
  rise : Rising p.ns
  lt : ∀ n ∈ p.ns, n < S.length
  len : p.ws.length = psz S p.ns
def val (S : List Nat) (p : Part) (g : Nat → Nat) : Int := p.ws.getD (pl S 0 p.ns (p.ns.map g)) 0
end PM
namespace LS
open PySem L2 HD PM
local macro_rules | `(tactic| trivial) => `(tactic| try simp -dsimp only [↓sSeq, ↓sIf, ↓sRet, ↓retD_ext, ↓retD_lst, ↓retD_al, ↓sSet, ↓sSetE, ↓sAsg, ↓sDrop, ↓sNext, ↓sFor, ↓sRetN, ↓sCont, ↓sBreak, ↓dTest, ↓dOp, ↓dVar_w, ↓dC, ↓dCons, ↓dNil, ↓dTup, ↓dLst, ↓frzDs, ↓frzD_ext, ↓frzD_lst, ↓frzD_al, ↓wd_ext, ↓wd_lst, ↓wd_al, ↓wds, ↓AtS_ext, ↓AtS_lst, ↓AtL, ↓fAdd, ↓fSub, ↓fMul, ↓fDiv, ↓fMod, ↓fPow, ↓fCmp, ↓fIn, ↓fEq_ii, ↓fEq_ss, ↓fEq_bb, ↓fEq_tt, ↓fEq_ll, ↓fNe_ii, ↓fNe_ss, ↓fNe_bb, ↓fNe_tt, ↓fNe_ll, ↓fIx_l, ↓fIx_t, ↓fIx_k, ↓fIx_f, ↓GetS_some, ↓NatS_some, ↓fSl, ↓fIsN, ↓fNotN, ↓D.knN, ↓dNot, ↓dAnd, ↓dOr, ↓dAndV_w, ↓dOrV_w, ↓dNotV, ↓dIf, ↓dNeg, ↓dChain_w, ↓BlS_bl, ↓dCall_w, ↓dCallJ_w, ↓anyAl, ↓frozs, ↓froz, ↓gSet, ↓gTupD, ↓gsCons, ↓gsNil, ↓dSeq, ↓seqD_tup, ↓seqD_elst, ↓seqD_lst, ↓seqD_al, ↓dRange1, ↓dRange2, ↓dZip, ↓dCB, ↓dLc, ↓dYes, ↓dNoPart, ↓dPart, ↓dSl, ↓fLen, ↓fMin, ↓fMax, ↓fSum, ↓fAll, ↓fAny, ↓fSorted, ↓fTuple, ↓fList, ↓dRg1, ↓dRg2, ↓dLstRg, ↓dTupRg, ↓dIndex, ↓fIdx, ↓dAppend_w, ↓dExtend_w, ↓extD_lst, ↓dPopAt_w, ↓popD_int, ↓dPop_w, ↓mutD_w, ↓sSetItem_w, ↓setD_int, ↓dSortSet, ↓dTable_w, ↓wipeE, finals1, finals2, finals3, finals4, finals5, finals6, fin1_ext, fin1_lst, List.getElem?_cons_zero, List.getElem?_cons_succ, List.getElem?_nil, List.set_cons_zero, List.set_cons_succ, List.cons_append, List.nil_append, List.append_nil, List.replicate_succ, List.replicate_zero, List.map_cons, List.map_nil, List.length_cons, List.length_nil, true_and, and_true, ite_true, ite_false, if_true, if_false, Bool.false_eq_true, decide_eq_true_eq, Sl.plain, D.isSq, eq_self_iff_true, forall_const, reduceIte, true_or, or_true, atI_0, atI_1, atI_2, atI_3, ixN_0, ixN_1, ixN_2, AtS_ext, AtS_lst, FzS_lst, FzS_ext, GetS_some, NatS_some, ↓fIsi1, ↓fIsi2, BoolS_some, HD.kb_non_tuple, HD.kb_non_list, HD.kb_non_bool, HD.kb_non_int, HD.kb_non_str, HD.kb_bl_tuple, HD.kb_bl_list, HD.kb_bl_bool, HD.kb_bl_int, HD.kb_bl_str, HD.kb_int_tuple, HD.kb_int_list, HD.kb_int_bool, HD.kb_int_int, HD.kb_int_str, HD.kb_str_tuple, HD.kb_str_list, HD.kb_str_bool, HD.kb_str_int, HD.kb_str_str, HD.kb_lst_tuple, HD.kb_lst_list, HD.kb_lst_bool, HD.kb_lst_int, HD.kb_lst_str, HD.kb_tup_tuple, HD.kb_tup_list, HD.kb_tup_bool, HD.kb_tup_int, HD.kb_tup_str, ↓sFz_w, ↓FzS_lst, ↓FzS_ext, ↓dSortSetL, ↓fAbs, ↓fInt, ↓fRepr, ↓fLtT, ↓sRaise, ↓sTryKeep, ↓dCallV_w, ↓dMeth, ↓fCount, ↓fSplit])
inductive Wd where
  | sum | most | least | wide | any
  deriving DecidableEq
def Wd.s : Wd → Str
  | .sum => Str.ofString "sum"
  | .most => Str.ofString "most"
  | .least => Str.ofString "least"
  | .wide => Str.ofString "wide"
  | .any => Str.ofString "any"
def jn : Wd → Int → Int → Int
  | .sum, a, b => a * b
  | .most, a, b => a + b
  | .least, a, b => a + b
  | .wide, a, b => if b < a then b else a
  | .any, a, b => if b < a then b else a
theorem w_sum (w : Wd) : (w.s == Str.ofString "sum") = decide (w = .sum) := by cases w <;> decide +kernel
theorem w_in_ml (w : Wd) : (D.str w.s).isIn [.str (Str.ofString "most"), .str (Str.ofString "least")] = decide (w = .most ∨ w = .least) := by cases w <;> decide +kernel
theorem flat_ml : [D.str (Str.ofString "most"), D.str (Str.ofString "least")].all D.flat = true := rfl
abbrev dW (w : Wd) : Sl := .ext (.str w.s)
abbrev dI (i : Int) : Sl := .ext (.int i)
def sp_join : DSpec := fun args Q _ => ∃ w i j, args = [dW w, dI i, dI j] ∧ CMulW i j ∧ ∀ fin, Q (dI (jn w i j)) fin
def t_join : DTS :=
    (sSeq (sIf (dTest (dOp fEq (dVar 0) (dC (.str (Str.ofString "sum"))))) (sRet (dOp fMul (dVar 1) (dVar 2))) sNext)
    (sSeq (sIf (dTest (dOp (fIn false) (dVar 0) (dTup (dCons (dC (.str (Str.ofString "most"))) (dCons (dC (.str (Str.ofString "least"))) dNil))))) (sRet (dOp fAdd (dVar 1) (dVar 2))) sNext)
    (sRet (dCB fMin (dCons (dVar 1) (dCons (dVar 2) dNil))))))
theorem m_join : Meets t_join 3 0 sp_join := by
  rintro args Qd Xd ⟨w, i, j, rfl, hc, hQ⟩
  show t_join _ _ [_, _, _]
  unfold t_join
  trivial
  simp only [w_sum, w_in_ml, flat_ml, D.flat, decide_eq_true_eq, true_and]
  cases w <;> simp only [reduceCtorEq, if_true, if_false, or_true, true_or, or_false, and_true] <;> first | exact ⟨hc, hQ _⟩ | exact ⟨by decide, hQ _⟩
def JarOk (n : Nat) (ds : List D) : Prop := ∃ (cells : List Int) (at' left : Int), ds = [.lst (iD cells), .int at', .int left] ∧ 0 ≤ at' ∧ at' ≤ n
theorem JarOk.up {n m : Nat} {ds : List D} (h : JarOk n ds) (hm : n ≤ m) : JarOk m ds := by
  obtain ⟨c, a, l, e, h1, h2⟩ := h
  exact ⟨c, a, l, e, h1, by omega⟩
theorem cut_iD (ns : List Int) (lo hi : Option Int) : cutD (iD ns) lo hi = iD ((ns.drop (HT.sIx ns.length 0 lo)).take (HT.sIx ns.length ns.length hi - HT.sIx ns.length 0 lo)) := by
  simp [cutD, List.map_take, List.map_drop]
def sp_law_jar : DSpec := fun args Q _ => ∃ ns : List Int, args = [.ext (.fz (iD ns))] ∧ ns.length ≤ 63 ∧ ∀ a ds fin, JarOk 0 ds → Q (.lst a ds) fin
def t_law_jar : DTS :=
    (sRet (dLst (dCons (dCB fList (dCons (dSl (dVar 0) dNoPart (dPart (dC (.int 63)))) dNil)) (dCons (dC (.int 0)) (dCons (dC (.int 0)) dNil)))))
theorem m_law_jar : Meets t_law_jar 1 0 sp_law_jar := by
  rintro args Qd Xd ⟨ns, rfl, hl, hQ⟩
  show t_law_jar _ _ [_]
  unfold t_law_jar
  trivial
  rw [cut_iD]
  exact ⟨by decide, fun a => hQ _ _ _ ⟨_, 0, 0, rfl, by omega, by omega⟩⟩
def sp_law_prime : DSpec := fun args Q _ => ∃ i : Int, args = [dI i] ∧ 0 ≤ i ∧ ∀ (r : Int) fin, 2147483423 ≤ r → r ≤ 2147483647 → Q (dI r) fin
def t_law_prime : DTS :=
    (sSeq (sSetE 1 (dLst (dCons (dC (.int 2147483647)) (dCons (dC (.int 2147483629)) (dCons (dC (.int 2147483587)) (dCons (dC (.int 2147483579)) (dCons (dC (.int 2147483563)) (dCons (dC (.int 2147483549)) (dCons (dC (.int 2147483543)) (dCons (dC (.int 2147483497)) dNil))))))))))
    (sRet (dOp fIx (dOp fAdd (dVar 1) (dLst (dCons (dC (.int 2147483489)) (dCons (dC (.int 2147483477)) (dCons (dC (.int 2147483423)) dNil))))) (dOp fMod (dVar 0) (dC (.int 11))))))
theorem m_law_prime : Meets t_law_prime 1 1 sp_law_prime := by
  rintro args Qd Xd ⟨i, rfl, hi, hQ⟩
  show t_law_prime _ _ [_, _]
  unfold t_law_prime
  trivial
  refine ⟨by decide, by decide, by decide, by decide, ?_⟩
  have h : i % 11 = 0 ∨ i % 11 = 1 ∨ i % 11 = 2 ∨ i % 11 = 3 ∨ i % 11 = 4 ∨ i % 11 = 5 ∨ i % 11 = 6 ∨ i % 11 = 7 ∨ i % 11 = 8 ∨ i % 11 = 9 ∨ i % 11 = 10 := by omega
  rcases h with h | h | h | h | h | h | h | h | h | h | h <;> rw [h] <;> exact ⟨_, rfl, hQ _ _ (by decide) (by decide)⟩
def sp_law_dip : DSpec := fun args Q _ => ∃ (n : Nat) (a : Addr) (ds : List D) (m : Int), args = [.lst a ds, dI m] ∧ JarOk n ds ∧ n < 4294967296 ∧ 0 < m ∧ m < 18446744073709551616 ∧
  ∀ (r : Int) ds' fin, 0 ≤ r → r < m → JarOk (n + 1) ds' → Q (dI r) (.lst a ds' :: fin)
def i1_law_dip : DTS :=
    (sSeq (sSetE 4 (dOp fMod (dOp fPow (dOp fAdd (dOp fAdd (dOp fMul (dOp fMod (dVar 3) (dC (.int 1000000007))) (dOp fAdd (dVar 2) (dC (.int 1)))) (dOp fMul (dC (.int 104729)) (dVar 2))) (dC (.int 17))) (dC (.int 3))) (dCall sp_law_prime (dCons (dVar 2) dNil))))
    (sSeq (sSetE 5 (dOp fMod (dOp fPow (dOp fAdd (dOp fAdd (dOp fMul (dVar 4) (dOp fAdd (dVar 2) (dC (.int 5)))) (dOp fMod (dVar 3) (dC (.int 65537)))) (dC (.int 1))) (dC (.int 5))) (dCall sp_law_prime (dCons (dOp fAdd (dVar 2) (dC (.int 3))) dNil))))
    (sSeq (sSetE 6 (dOp fMod (dOp fAdd (dOp fMul (dVar 5) (dVar 5)) (dVar 4)) (dCall sp_law_prime (dCons (dOp fAdd (dVar 2) (dC (.int 7))) dNil))))
    (sSetItem 0 (dC (.int 2)) (dOp fAdd (dOp fMul (dOp fAdd (dOp fMul (dVar 6) (dC (.int 2147483647))) (dVar 5)) (dC (.int 2147483629))) (dVar 4))))))
def k2_law_dip : DTS :=
    (sSeq (sSetItem 0 (dC (.int 2)) (dVar 3))
    (sIf (dOr (dTest (dOp (fCmp fun i j => decide (i < j)) (dVar 3) (dOp fPow (dC (.int 10)) (dC (.int 18))))) (dTest (dOp (fCmp fun i j => decide (j ≤ i)) (dVar 2) (dCB fLen (dCons (dOp fIx (dVar 0) (dC (.int 0))) dNil))))) i1_law_dip sNext))
def i3_law_dip : DTS :=
    (sSeq (sSetE 2 (dOp fIx (dVar 0) (dC (.int 1))))
    (sSeq (sSetItem 0 (dC (.int 1)) (dOp fAdd (dVar 2) (dC (.int 1))))
    (sSeq (sSetE 3 (dOp fAdd (dOp fMul (dC (.int 31)) (dVar 2)) (dC (.int 7))))
    (sSeq (sIf (dTest (dOp (fCmp fun i j => decide (j < i)) (dCB fLen (dCons (dOp fIx (dVar 0) (dC (.int 0))) dNil)) (dC (.int 0)))) (sSetE 3 (dOp fIx (dOp fIx (dVar 0) (dC (.int 0))) (dOp fMod (dVar 2) (dCB fLen (dCons (dOp fIx (dVar 0) (dC (.int 0))) dNil))))) sNext)
    k2_law_dip))))
def k4_law_dip : DTS :=
    (sSeq (sSetE 7 (dOp fMod (dOp fIx (dVar 0) (dC (.int 2))) (dVar 1)))
    (sSeq (sSetItem 0 (dC (.int 2)) (dOp fDiv (dOp fIx (dVar 0) (dC (.int 2))) (dVar 1)))
    (sRet (dVar 7))))
def t_law_dip : DTS :=
    (sSeq (sIf (dTest (dOp (fCmp fun i j => decide (i < j)) (dOp fIx (dVar 0) (dC (.int 2))) (dVar 1))) i3_law_dip sNext)
    k4_law_dip)
theorem q4_law_dip {Ex : DX} {E : DEnds} {n : Nat} {a : Addr} {m : Int} {cells : List Int} {at' left : Int} {s2 s3 s4 s5 s6 s7 : Sl} (h0 : 0 ≤ at') (h1 : at' ≤ (n : Int) + 1) (hm0 : 0 < m) (hm1 : m < 18446744073709551616)
    (hE : ∀ r ds' env, 0 ≤ r → r < m → JarOk (n + 1) ds' → E.rt (dI r) (.lst a ds' :: env)) : k4_law_dip Ex E [.lst a [.lst (iD cells), .int at', .int left], dI m, s2, s3, s4, s5, s6, s7] := by
  unfold k4_law_dip
  trivial
  refine ⟨hm0, ⟨hm0, ?_⟩, hE _ _ _ (Int.emod_nonneg _ (by omega)) (Int.emod_lt_of_pos _ hm0) ⟨cells, at', _, rfl, h0, by omega⟩⟩
  have : m.natAbs.log2 < 64 := (Nat.log2_lt (by omega)).2 (by omega)
  omega
theorem q3_law_dip {Ex : DX} {E : DEnds} {a : Addr} {m : Int} {cells : List Int} {at' left c : Int} {s4 s5 s6 s7 : Sl} (h0 : 0 ≤ at') (h1 : at' < 4294967296)
    (hE : ∀ left' u4 u5 u6, E.nx [.lst a [.lst (iD cells), .int (at' + 1), .int left'], dI m, dI at', dI c, u4, u5, u6, s7]) : i1_law_dip Ex E [.lst a [.lst (iD cells), .int (at' + 1), .int left], dI m, dI at', dI c, s4, s5, s6, s7] := by
  unfold i1_law_dip
  trivial
  have b0 := Int.emod_nonneg c (b := 1000000007) (by omega)
  have b1 := Int.emod_lt_of_pos c (b := 1000000007) (by omega)
  have b2 := Int.emod_nonneg c (b := 65537) (by omega)
  have b3 := Int.emod_lt_of_pos c (b := 65537) (by omega)
  generalize c % 1000000007 = c1 at *
  have g0 : 0 ≤ c1 * (at' + 1) := Int.mul_nonneg b0 (by omega)
  have g1 : c1 * (at' + 1) ≤ 1000000007 * 4294967296 := Int.mul_le_mul (by omega) (by omega) (by omega) (by omega)
  refine ⟨by decide, cmul64 (by omega) (by omega) (by omega) (by omega), cmul64 (by omega) (by omega) (by omega) (by omega), ⟨by decide, by decide, by omega⟩, at', rfl, h0, fun p fin p0 p1 => ?_⟩
  trivial
  have o0 := Int.emod_nonneg ((c1 * (at' + 1) + 104729 * at' + 17) ^ Int.toNat 3) (b := p) (by omega)
  have o1 := Int.emod_lt_of_pos ((c1 * (at' + 1) + 104729 * at' + 17) ^ Int.toNat 3) (b := p) (by omega)
  generalize (c1 * (at' + 1) + 104729 * at' + 17) ^ Int.toNat 3 % p = one at *
  generalize c % 65537 = c2 at *
  have g2 : 0 ≤ one * (at' + 5) := Int.mul_nonneg o0 (by omega)
  have g3 : one * (at' + 5) ≤ 2147483647 * 4294967300 := Int.mul_le_mul (by omega) (by omega) (by omega) (by omega)
  refine ⟨by omega, cmul64 (by omega) (by omega) (by omega) (by omega), by decide, ⟨by decide, by decide, by omega⟩, at' + 3, rfl, by omega, fun p' fin' p0' p1' => ?_⟩
  trivial
  have t0 := Int.emod_nonneg ((one * (at' + 5) + c2 + 1) ^ Int.toNat 5) (b := p') (by omega)
  have t1 := Int.emod_lt_of_pos ((one * (at' + 5) + c2 + 1) ^ Int.toNat 5) (b := p') (by omega)
  generalize (one * (at' + 5) + c2 + 1) ^ Int.toNat 5 % p' = two at *
  refine ⟨by omega, cmul64 (by omega) (by omega) (by omega) (by omega), at' + 7, rfl, by omega, fun p2 fin2 p20 p21 => ?_⟩
  trivial
  have u0 := Int.emod_nonneg (two * two + one) (b := p2) (by omega)
  have u1 := Int.emod_lt_of_pos (two * two + one) (b := p2) (by omega)
  generalize (two * two + one) % p2 = three at *
  refine ⟨by omega, cmul64 (by omega) (by omega) (by omega) (by omega), cmul64 (by omega) (by omega) (by omega) (by omega), hE _ _ _ _⟩
theorem q1_law_dip {Ex : DX} {E : DEnds} {a : Addr} {m : Int} {cells : List Int} {at' left c : Int} {s4 s5 s6 s7 : Sl} (h0 : 0 ≤ at') (h1 : at' < 4294967296)
    (hE : ∀ left' u4 u5 u6, E.nx [.lst a [.lst (iD cells), .int (at' + 1), .int left'], dI m, dI at', dI c, u4, u5, u6, s7]) : k2_law_dip Ex E [.lst a [.lst (iD cells), .int (at' + 1), .int left], dI m, dI at', dI c, s4, s5, s6, s7] := by
  unfold k2_law_dip
  trivial
  refine ⟨⟨by decide, by decide, by decide⟩, ?_⟩
  split
  · exact q3_law_dip h0 h1 hE
  · split
    · exact q3_law_dip h0 h1 hE
    · exact hE _ _ _ _
theorem m_law_dip : Meets t_law_dip 2 6 sp_law_dip := by
  rintro args Qd Xd ⟨n, a, ds, m, rfl, ⟨cells, at', left, rfl, h0, h1⟩, hn, hm0, hm1, hQ⟩
  show t_law_dip _ _ [_, _, .un, .un, .un, .un, .un, .un]
  unfold t_law_dip
  trivial
  have k2 : ∀ {at'' left'' : Int} {s2 s3 s4 s5 s6 s7 : Sl}, 0 ≤ at'' → at'' ≤ (n : Int) + 1 → k4_law_dip (exOf [Sl.lst a [D.lst (iD cells), D.int at', D.int left], dI m] Xd) (endsOf [Sl.lst a [D.lst (iD cells), D.int at', D.int left], dI m] Qd) [Sl.lst a [D.lst (iD cells), D.int at'', D.int left''], dI m, s2, s3, s4, s5, s6, s7] := by
    intro at'' left'' s2 s3 s4 s5 s6 s7 z0 z1
    refine q4_law_dip z0 z1 hm0 hm1 fun r ds' env r0 r1 hj => ?_
    trivial
    exact hQ _ _ _ r0 r1 hj
  split
  · unfold i3_law_dip
    trivial
    refine ⟨cmul64 (by omega) (by omega) (by omega) (by omega), ?_⟩
    split
    · rename_i hl
      refine ⟨hl, ?_⟩
      have z0 := Int.emod_nonneg at' (b := ((iD cells).length : Int)) (by omega)
      have z1 := Int.emod_lt_of_pos at' hl
      generalize at' % ((iD cells).length : Int) = j at z0 z1
      rw [List.length_map] at z1
      have hj : j.toNat < cells.length := by omega
      refine ⟨.int (cells[j.toNat]), atI_int z0 (by simp [List.getElem?_map, List.getElem?_eq_getElem hj]), ?_⟩
      exact q1_law_dip h0 (by omega) fun _ _ _ _ => k2 (by omega) (by omega)
    · exact q1_law_dip h0 (by omega) fun _ _ _ _ => k2 (by omega) (by omega)
  · exact k2 h0 (by omega)
end LS
namespace LS
open PySem L2 HD PM
local macro_rules | `(tactic| trivial) => `(tactic| try simp -dsimp only [↓sSeq, ↓sIf, ↓sRet, ↓retD_ext, ↓retD_lst, ↓retD_al, ↓sSet, ↓sSetE, ↓sAsg, ↓sDrop, ↓sNext, ↓sFor, ↓sRetN, ↓sCont, ↓sBreak, ↓dTest, ↓dOp, ↓dVar_w, ↓dC, ↓dCons, ↓dNil, ↓dTup, ↓dLst, ↓frzDs, ↓frzD_ext, ↓frzD_lst, ↓frzD_al, ↓wd_ext, ↓wd_lst, ↓wd_al, ↓wds, ↓AtS_ext, ↓AtS_lst, ↓AtL, ↓fAdd, ↓fSub, ↓fMul, ↓fDiv, ↓fMod, ↓fPow, ↓fCmp, ↓fIn, ↓fEq_ii, ↓fEq_ss, ↓fEq_bb, ↓fEq_tt, ↓fEq_ll, ↓fNe_ii, ↓fNe_ss, ↓fNe_bb, ↓fNe_tt, ↓fNe_ll, ↓fIx_l, ↓fIx_t, ↓fIx_k, ↓fIx_f, ↓GetS_some, ↓NatS_some, ↓fSl, ↓fIsN, ↓fNotN, ↓D.knN, ↓dNot, ↓dAnd, ↓dOr, ↓dAndV_w, ↓dOrV_w, ↓dNotV, ↓dIf, ↓dNeg, ↓dChain_w, ↓BlS_bl, ↓dCall_w, ↓dCallJ_w, ↓anyAl, ↓frozs, ↓froz, ↓gSet, ↓gTupD, ↓gsCons, ↓gsNil, ↓dSeq, ↓seqD_tup, ↓seqD_elst, ↓seqD_lst, ↓seqD_al, ↓dRange1, ↓dRange2, ↓dZip, ↓dCB, ↓dLc, ↓dYes, ↓dNoPart, ↓dPart, ↓dSl, ↓fLen, ↓fMin, ↓fMax, ↓fSum, ↓fAll, ↓fAny, ↓fSorted, ↓fTuple, ↓fList, ↓dRg1, ↓dRg2, ↓dLstRg, ↓dTupRg, ↓dIndex, ↓fIdx, ↓dAppend_w, ↓dExtend_w, ↓extD_lst, ↓dPopAt_w, ↓popD_int, ↓dPop_w, ↓mutD_w, ↓sSetItem_w, ↓setD_int, ↓dSortSet, ↓dTable_w, ↓wipeE, finals1, finals2, finals3, finals4, finals5, finals6, fin1_ext, fin1_lst, List.getElem?_cons_zero, List.getElem?_cons_succ, List.getElem?_nil, List.set_cons_zero, List.set_cons_succ, List.cons_append, List.nil_append, List.append_nil, List.replicate_succ, List.replicate_zero, List.map_cons, List.map_nil, List.length_cons, List.length_nil, true_and, and_true, ite_true, ite_false, if_true, if_false, Bool.false_eq_true, decide_eq_true_eq, Sl.plain, D.isSq, eq_self_iff_true, forall_const, reduceIte, true_or, or_true, atI_0, atI_1, atI_2, atI_3, ixN_0, ixN_1, ixN_2, AtS_ext, AtS_lst, FzS_lst, FzS_ext, GetS_some, NatS_some, ↓fIsi1, ↓fIsi2, BoolS_some, HD.kb_non_tuple, HD.kb_non_list, HD.kb_non_bool, HD.kb_non_int, HD.kb_non_str, HD.kb_bl_tuple, HD.kb_bl_list, HD.kb_bl_bool, HD.kb_bl_int, HD.kb_bl_str, HD.kb_int_tuple, HD.kb_int_list, HD.kb_int_bool, HD.kb_int_int, HD.kb_int_str, HD.kb_str_tuple, HD.kb_str_list, HD.kb_str_bool, HD.kb_str_int, HD.kb_str_str, HD.kb_lst_tuple, HD.kb_lst_list, HD.kb_lst_bool, HD.kb_lst_int, HD.kb_lst_str, HD.kb_tup_tuple, HD.kb_tup_list, HD.kb_tup_bool, HD.kb_tup_int, HD.kb_tup_str, ↓sFz_w, ↓FzS_lst, ↓FzS_ext, ↓dSortSetL, ↓fAbs, ↓fInt, ↓fRepr, ↓fLtT, ↓sRaise, ↓sTryKeep, ↓dCallV_w, ↓dMeth, ↓fCount, ↓fSplit])
def sp_law_times : DSpec := fun args Q _ => ∃ l : List Nat, (args = [.ext (.lst (nD l))] ∨ args = [.ext (.tup (nD l))]) ∧ (∀ x ∈ l, 0 < x) ∧ prodN l < 2 ^ 60 ∧ ∀ fin, Q (dI (prodN l : Nat)) fin
def b1_law_times : DTS :=
    (sSetE 1 (dOp fMul (dVar 1) (dVar 2)))
def k2_law_times : DTS :=
    (sRet (dVar 1))
def t_law_times : DTS :=
    (sSeq (sSetE 1 (dC (.int 1)))
    (sSeq (sFor (dSeq (dVar 0)) (gSet 2) b1_law_times)
    k2_law_times))
theorem prodN_pos {l : List Nat} (h : ∀ x ∈ l, 0 < x) : 0 < prodN l := by
  induction l with
  | nil => exact Nat.one_pos
  | cons x l ih => exact Nat.mul_pos (h x List.mem_cons_self) (ih fun y hy => h y (List.mem_cons_of_mem _ hy))
theorem q1_law_times {Ex : DX} {E : DEnds} {s0 : Sl} (l : List Nat) : ∀ (acc : Nat) (s2 : Sl), 0 < acc → (∀ x ∈ l, 0 < x) → acc * prodN l < 2 ^ 60 → (∀ u, E.nx [s0, dI (acc * prodN l : Nat), u]) →
    forD (gSet 2) b1_law_times (fun _ => True) Ex E (nD l) [s0, dI (acc : Nat), s2] := by
  induction l with
  | nil =>
    intro acc s2 _ _ _ hE
    refine ⟨True.intro, ?_⟩
    have := hE s2
    simpa [prodN] using this
  | cons x l ih =>
    intro acc s2 hz hp hb hE
    have hx := hp x List.mem_cons_self
    have hl := prodN_pos fun y hy => hp y (List.mem_cons_of_mem _ hy)
    have e : acc * prodN (x :: l) = acc * x * prodN l := by rw [prodN, Nat.mul_assoc]
    have hax : acc * x < 2 ^ 60 := Nat.lt_of_le_of_lt (Nat.le_mul_of_pos_right _ hl) (e ▸ hb)
    have ha : acc < 2 ^ 60 := Nat.lt_of_le_of_lt (Nat.le_mul_of_pos_right _ hx) hax
    have hx2 : x < 2 ^ 60 := Nat.lt_of_le_of_lt (Nat.le_mul_of_pos_left _ hz) hax
    rw [nD_cons, forD]
    unfold b1_law_times
    trivial
    refine ⟨cmulN (a := 60) (b := 60) (by simpa using ha) (by simpa using hx2) (by decide), ?_⟩
    have := ih (acc * x) (dI (x : Nat)) (Nat.mul_pos hz hx) (fun y hy => hp y (List.mem_cons_of_mem _ hy)) (e ▸ hb) (fun u => e ▸ hE u)
    rw [Int.natCast_mul] at this
    exact this
theorem m_law_times : Meets t_law_times 1 2 sp_law_times := by
  rintro args Qd Xd ⟨l, h, hp, hb, hQ⟩
  rcases h with rfl | rfl
  all_goals
    show t_law_times _ _ [_, .un, .un]
    unfold t_law_times
    trivial
    refine q1_law_times l 1 .un (by decide) hp (by rw [Nat.one_mul]; exact hb) fun u => ?_
    unfold k2_law_times
    trivial
    rw [Nat.one_mul]
    exact hQ _
structure SzOk (S : List Nat) : Prop where
  pos : ∀ s ∈ S, 0 < s
  few : S.length ≤ 24
  prod : prodN S ≤ 4096
  small : ∀ s ∈ S, s ≤ 4
theorem prodN_append (a b : List Nat) : prodN (a ++ b) = prodN a * prodN b := by
  induction a with
  | nil => simp [prodN]
  | cons x a ih => rw [List.cons_append, prodN, ih, prodN, Nat.mul_assoc]
end LS
namespace LS
open PySem L2 HD PM
local macro_rules | `(tactic| trivial) => `(tactic| try simp -dsimp only [↓sSeq, ↓sIf, ↓sRet, ↓retD_ext, ↓retD_lst, ↓retD_al, ↓sSet, ↓sSetE, ↓sAsg, ↓sDrop, ↓sNext, ↓sFor, ↓sRetN, ↓sCont, ↓sBreak, ↓dTest, ↓dOp, ↓dVar_w, ↓dC, ↓dCons, ↓dNil, ↓dTup, ↓dLst, ↓frzDs, ↓frzD_ext, ↓frzD_lst, ↓frzD_al, ↓wd_ext, ↓wd_lst, ↓wd_al, ↓wds, ↓AtS_ext, ↓AtS_lst, ↓AtL, ↓fAdd, ↓fSub, ↓fMul, ↓fDiv, ↓fMod, ↓fPow, ↓fCmp, ↓fIn, ↓fEq_ii, ↓fEq_ss, ↓fEq_bb, ↓fEq_tt, ↓fEq_ll, ↓fNe_ii, ↓fNe_ss, ↓fNe_bb, ↓fNe_tt, ↓fNe_ll, ↓fIx_l, ↓fIx_t, ↓fIx_k, ↓fIx_f, ↓GetS_some, ↓NatS_some, ↓fSl, ↓fIsN, ↓fNotN, ↓D.knN, ↓dNot, ↓dAnd, ↓dOr, ↓dAndV_w, ↓dOrV_w, ↓dNotV, ↓dIf, ↓dNeg, ↓dChain_w, ↓BlS_bl, ↓dCall_w, ↓dCallJ_w, ↓anyAl, ↓frozs, ↓froz, ↓gSet, ↓gTupD, ↓gsCons, ↓gsNil, ↓dSeq, ↓seqD_tup, ↓seqD_elst, ↓seqD_lst, ↓seqD_al, ↓dRange1, ↓dRange2, ↓dZip, ↓dCB, ↓dLc, ↓dYes, ↓dNoPart, ↓dPart, ↓dSl, ↓fLen, ↓fMin, ↓fMax, ↓fSum, ↓fAll, ↓fAny, ↓fSorted, ↓fTuple, ↓fList, ↓dRg1, ↓dRg2, ↓dLstRg, ↓dTupRg, ↓dIndex, ↓fIdx, ↓dAppend_w, ↓dExtend_w, ↓extD_lst, ↓dPopAt_w, ↓popD_int, ↓dPop_w, ↓mutD_w, ↓sSetItem_w, ↓setD_int, ↓dSortSet, ↓dTable_w, ↓wipeE, finals1, finals2, finals3, finals4, finals5, finals6, fin1_ext, fin1_lst, List.getElem?_cons_zero, List.getElem?_cons_succ, List.getElem?_nil, List.set_cons_zero, List.set_cons_succ, List.cons_append, List.nil_append, List.append_nil, List.replicate_succ, List.replicate_zero, List.map_cons, List.map_nil, List.length_cons, List.length_nil, true_and, and_true, ite_true, ite_false, if_true, if_false, Bool.false_eq_true, decide_eq_true_eq, Sl.plain, D.isSq, eq_self_iff_true, forall_const, reduceIte, true_or, or_true, atI_0, atI_1, atI_2, atI_3, ixN_0, ixN_1, ixN_2, AtS_ext, AtS_lst, FzS_lst, FzS_ext, GetS_some, NatS_some, ↓fIsi1, ↓fIsi2, BoolS_some, HD.kb_non_tuple, HD.kb_non_list, HD.kb_non_bool, HD.kb_non_int, HD.kb_non_str, HD.kb_bl_tuple, HD.kb_bl_list, HD.kb_bl_bool, HD.kb_bl_int, HD.kb_bl_str, HD.kb_int_tuple, HD.kb_int_list, HD.kb_int_bool, HD.kb_int_int, HD.kb_int_str, HD.kb_str_tuple, HD.kb_str_list, HD.kb_str_bool, HD.kb_str_int, HD.kb_str_str, HD.kb_lst_tuple, HD.kb_lst_list, HD.kb_lst_bool, HD.kb_lst_int, HD.kb_lst_str, HD.kb_tup_tuple, HD.kb_tup_list, HD.kb_tup_bool, HD.kb_tup_int, HD.kb_tup_str, ↓sFz_w, ↓FzS_lst, ↓FzS_ext, ↓dSortSetL, ↓fAbs, ↓fInt, ↓fRepr, ↓fLtT, ↓sRaise, ↓sTryKeep, ↓dCallV_w, ↓dMeth, ↓fCount, ↓fSplit])
def sp_law_some : DSpec := fun args Q _ => ∃ (n : Nat) (a : Addr) (ds : List D) (many most : Nat), args = [.lst a ds, dI (many : Nat), dI (most : Nat)] ∧ JarOk n ds ∧ n + 64 < 4294967296 ∧ many ≤ 60 ∧ most ≤ 60 ∧
  ∀ (ns : List Nat) ds' fin, Rising ns → (∀ x ∈ ns, x < many) → ns.length ≤ most → JarOk (n + 64) ds' → Q (.ext (.tup (nD ns))) (.lst a ds' :: fin)
def b1_law_some : DTS :=
    (sIf (dTest (dOp (fCmp fun i j => decide (j < i)) (dCB fLen (dCons (dVar 3) dNil)) (dC (.int 0)))) (sDrop (dAppend 4 (dPopAt 3 (dCallJ sp_law_dip 0 (dCons (dCB fLen (dCons (dVar 3) dNil)) dNil))))) sNext)
def k2_law_some : DTS :=
    (sRet (dCB fTuple (dCons (dCB fSorted (dCons (dVar 4) dNil)) dNil)))
def t_law_some : DTS :=
    (sSeq (sSet 3 (dLstRg (dRg1 (dVar 1))))
    (sSeq (sSet 4 (dLst dNil))
    (sSeq (sFor (dRange1 (dCons (dCallJ sp_law_dip 0 (dCons (dOp fAdd (dVar 2) (dC (.int 1))) dNil)) dNil)) (gSet 5) b1_law_some)
    k2_law_some)))
theorem erase_perm {α : Type} (l : List α) : ∀ {i : Nat} (h : i < l.length), (l[i] :: l.eraseIdx i).Perm l := by
  induction l with
  | nil => intro i h; simp at h
  | cons x l ih =>
    intro i h
    cases i with
    | zero => exact .refl _
    | succ i =>
      have := ih (i := i) (by simpa using h)
      simp only [List.getElem_cons_succ, List.eraseIdx_cons_succ]
      exact (List.Perm.swap _ _ _).trans (List.Perm.cons x this)
theorem map_erase {α β : Type} (f : α → β) (l : List α) : ∀ i, (l.eraseIdx i).map f = (l.map f).eraseIdx i := by
  induction l with
  | nil => intro i; rfl
  | cons x l ih =>
    intro i
    cases i with
    | zero => rfl
    | succ i => simp only [List.eraseIdx_cons_succ, List.map_cons, ih]
theorem q1_law_some {Ex : DX} {E : DEnds} {a a2 a3 : Addr} {s1 s2 : Sl} {many : Nat} (items : List D) : ∀ (n : Nat) (ds : List D) (L Fd : List Nat) (s5 : Sl), JarOk n ds → n + items.length < 4294967296 → (L ++ Fd).Nodup → (∀ x ∈ L ++ Fd, x < many) → (L.length ≤ 60) → Fd.length + items.length ≤ 100 →
    (∀ ds' L' Fd' u5, JarOk (n + items.length) ds' → Fd'.Nodup → (∀ x ∈ Fd', x < many) → Fd'.length ≤ Fd.length + items.length → E.nx [.lst a ds', s1, s2, .lst a2 (nD L'), .lst a3 (nD Fd'), u5]) →
    forD (gSet 5) b1_law_some (fun _ => True) Ex E items [.lst a ds, s1, s2, .lst a2 (nD L), .lst a3 (nD Fd), s5] := by
  induction items with
  | nil =>
    intro n ds L Fd s5 hj hn hd hm hL hl hE
    exact ⟨True.intro, hE _ _ _ _ hj (List.nodup_append.1 hd).2.1 (fun x hx => hm x (List.mem_append_right _ hx)) (Nat.le_refl _)⟩
  | cons x items ih =>
    intro n ds L Fd s5 hj hn hd hm hL hl hE
    rw [List.length_cons] at hn hl
    rw [forD]
    unfold b1_law_some
    trivial
    rw [nD_len]
    split
    · rename_i h0
      have hL0 : 0 < L.length := by omega
      refine ⟨n, a, ds, (L.length : Int), rfl, hj, by omega, by omega, by omega, fun r ds' fin r0 r1 hj' => ?_⟩
      trivial
      have hr : r.toNat < L.length := by omega
      refine ⟨r0, by omega, .int (L[r.toNat] : Nat), by simp [List.getElem?_map, List.getElem?_eq_getElem hr], ?_⟩
      trivial
      refine ⟨by rw [nD_len]; exact Nat.lt_of_le_of_lt (by omega : Fd.length ≤ 100) (by decide), ?_⟩
      have pm : (L.eraseIdx r.toNat ++ (Fd ++ [L[r.toNat]])).Perm (L ++ Fd) := by
        have p1 := erase_perm L hr
        have p2 : (L.eraseIdx r.toNat ++ (Fd ++ [L[r.toNat]])).Perm (L[r.toNat] :: (L.eraseIdx r.toNat ++ Fd)) := by
          rw [← List.append_assoc]
          exact List.perm_append_singleton _ _
        exact p2.trans ((List.Perm.append_right Fd p1))
      have := ih (n + 1) ds' (L.eraseIdx r.toNat) (Fd ++ [L[r.toNat]]) (.ext x) hj' (by omega) (pm.nodup_iff.2 hd) (fun y hy => hm y (pm.mem_iff.1 hy)) (Nat.le_trans (List.length_eraseIdx_le _ _) hL)
        (by rw [List.length_append, List.length_singleton]; omega) fun ds2 L2 Fd2 u5 hj2 h2 h3 h4 => hE _ _ _ _ (by rw [List.length_cons]; exact hj2.up (by omega)) h2 h3 (by rw [List.length_append, List.length_singleton] at h4; rw [List.length_cons]; omega)
      rw [nD_app] at this
      have e : nD (L.eraseIdx r.toNat) = (nD L).eraseIdx r.toNat := map_erase _ _ _
      rw [e] at this
      exact this
    · exact ih n ds L Fd _ hj (by omega) hd hm hL (by omega) fun ds2 L2 Fd2 u5 hj2 h2 h3 h4 => hE _ _ _ _ (by rw [List.length_cons]; exact hj2.up (by omega)) h2 h3 (by rw [List.length_cons]; omega)
theorem rgD_nat (n : Nat) : rgD 0 (n : Int) = nD (List.range n) := by
  unfold rgD
  simp
theorem nat_of_ints {l : List Nat} {ns : List Int} (h : ns.Perm (l.map fun n : Nat => (n : Int))) : ∃ l' : List Nat, ns = l'.map (fun n : Nat => (n : Int)) ∧ l'.Perm l := by
  have h1 : ∀ x ∈ ns, 0 ≤ x := by
    intro x hx
    obtain ⟨y, _, rfl⟩ := List.mem_map.1 (h.mem_iff.1 hx)
    omega
  have e : ns = (ns.map Int.toNat).map fun n : Nat => (n : Int) := by
    rw [List.map_map]
    conv => lhs; rw [← List.map_id ns]
    refine List.map_congr_left fun x hx => ?_
    have := h1 x hx
    simp; omega
  refine ⟨ns.map Int.toNat, e, ?_⟩
  have := h.map Int.toNat
  rw [List.map_map] at this
  have e2 : l.map (Int.toNat ∘ fun n : Nat => (n : Int)) = l := by
    conv => rhs; rw [← List.map_id l]
    exact List.map_congr_left fun x _ => by simp
  rwa [e2] at this
theorem iD_nat (l : List Nat) : iD (l.map fun n : Nat => (n : Int)) = nD l := by simp [iD, nD]
theorem rising_of {l : List Nat} (h : (l.map fun n : Nat => (n : Int)).Pairwise (· ≤ ·)) (hn : l.Nodup) : Rising l := by
  rw [List.pairwise_map] at h
  exact (List.pairwise_and_iff.2 ⟨h, hn⟩).imp fun ⟨h1, h2⟩ => by
    have : _ ≠ _ := h2
    omega
theorem m_law_some : Meets t_law_some 3 3 sp_law_some := by
  rintro args Qd Xd ⟨n, a, ds, many, most, rfl, hj, hn, hm0, hm1, hQ⟩
  show t_law_some _ _ [_, _, _, .un, .un, .un]
  unfold t_law_some
  trivial
  refine ⟨RgOk.of_le (by omega) (by omega) (by omega) (by omega), fun a2 => ⟨by decide, fun a3 => ⟨n, a, ds, (most : Int) + 1, rfl, hj, by omega, by omega, by omega, fun r ds' fin r0 r1 hj' => ?_⟩⟩⟩
  trivial
  refine ⟨⟨by omega, by omega⟩, ?_⟩
  rw [rgD_nat]
  have hlen : (rgD 0 r).length = r.toNat := by simp [rgD]
  refine q1_law_some (many := many) _ (n + 1) ds' (List.range many) [] _ hj' (by omega) (by simpa using List.nodup_range) (by simp) (by simpa using hm0) (by simp; omega) fun ds2 L2 Fd2 u5 hj2 hd2 hm2 hl2 => ?_
  unfold k2_law_some
  trivial
  refine ⟨Fd2.map fun n : Nat => (n : Int), (iD_nat _).symm, fun ns' hp hw => ?_⟩
  obtain ⟨l, rfl, hl⟩ := nat_of_ints hp
  rw [show List.map D.int (List.map (fun n : Nat => (n : Int)) l) = nD l from iD_nat l]
  exact hQ l _ _ (rising_of hw (hl.nodup_iff.2 hd2)) (fun x hx => hm2 x (hl.mem_iff.1 hx)) (by rw [hl.length_eq]; simp at hl2; omega) (hj2.up (by omega))
abbrev dP (p : Part) : D := .tup [.tup (nD p.ns), .tup (iD p.ws)]
theorem psz_le {S ns : List Nat} (hS : ∀ s ∈ S, 0 < s) (h : Rising ns) (hl : ∀ n ∈ ns, n < S.length) : psz S ns ≤ prodN S := by
  have e : ns = (List.range S.length).filter fun n => decide (n ∈ ns) := by
    refine rising_ext h (List.Pairwise.filter _ List.pairwise_lt_range) fun n => ?_
    simp only [List.mem_filter, List.mem_range, decide_eq_true_eq]
    exact ⟨fun hn => ⟨hl n hn, hn⟩, fun hn => hn.2⟩
  have sub : ns.Sublist (List.range S.length) := by rw [e]; exact List.filter_sublist
  have e2 : (List.range S.length).map (sz S) = S := by
    refine List.ext_getElem? fun i => ?_
    rw [List.getElem?_map]
    by_cases hi : i < S.length
    · simp [List.getElem?_range hi, sz, List.getD_eq_getElem?_getD, List.getElem?_eq_getElem hi]
    · rw [List.getElem?_eq_none (by simpa using hi), List.getElem?_eq_none (by omega)]; rfl
  have sub2 : (ns.map (sz S)).Sublist S := by have := sub.map (sz S); rwa [e2] at this
  have gen : ∀ {a b : List Nat}, a.Sublist b → (∀ s ∈ b, 0 < s) → prodN a ≤ prodN b := by
    intro a b hs
    induction hs with
    | slnil => intro _; exact Nat.le_refl _
    | cons x h ih =>
      intro hb
      have h1 := ih fun s hs => hb s (List.mem_cons_of_mem _ hs)
      exact Nat.le_trans h1 (Nat.le_mul_of_pos_left _ (hb x List.mem_cons_self))
    | cons_cons x h ih =>
      intro hb
      exact Nat.mul_le_mul_left _ (ih fun s hs => hb s (List.mem_cons_of_mem _ hs))
  exact gen sub2 hS
theorem sz_mem {S : List Nat} {n : Nat} (h : n < S.length) : sz S n ∈ S := by
  unfold sz
  rw [List.getD_eq_getElem?_getD, List.getElem?_eq_getElem h]
  exact List.getElem_mem h
theorem rising_len {ns : List Nat} {m : Nat} (h : Rising ns) (hl : ∀ n ∈ ns, n < m) : ns.length ≤ m := by
  have e : ns = (List.range m).filter fun n => decide (n ∈ ns) := by
    refine rising_ext h (List.Pairwise.filter _ List.pairwise_lt_range) fun n => ?_
    simp only [List.mem_filter, List.mem_range, decide_eq_true_eq]
    exact ⟨fun hn => ⟨hl n hn, hn⟩, fun hn => hn.2⟩
  rw [e]
  have := List.length_filter_le (fun n => decide (n ∈ ns)) (List.range m)
  simpa using this
end LS
namespace LS
open PySem L2 HD PM
abbrev fD (fs : List (List Nat)) : List D := fs.map fun f => D.tup (nD f)
def SqN (l : List Nat) (Z : D) : Prop := Z = .tup (nD l) ∨ Z = .lst (nD l)
theorem getD_at {g : List Nat} {n : Nat} (h : n < g.length) : (nD g)[n]? = some (.int (g.getD n 0 : Nat)) := by
  simp [List.getElem?_map, List.getD_eq_getElem?_getD, List.getElem?_eq_getElem h]
end LS
namespace LS
open PySem L2 HD PM
theorem isIn_nat (n : Nat) (l : List Nat) : (D.int (n : Nat)).isIn (nD l) = decide (n ∈ l) := by
  unfold D.isIn
  induction l with
  | nil => rfl
  | cons x l ih =>
    have e : inV (D.int (n : Nat)).toV ((nD (x :: l)).map D.toV) = (eqV (V.int (x : Nat)) (V.int (n : Nat)) || inV (D.int (n : Nat)).toV ((nD l).map D.toV)) := rfl
    rw [e, ih]
    have e2 : eqV (V.int (x : Nat)) (V.int (n : Nat)) = decide (n = x) := by
      simp only [eqV]
      by_cases h : n = x
      · subst h; simp
      · simp [h]; omega
    rw [e2]
    simp
theorem flat_nD (l : List Nat) : (nD l).all D.flat = true := by simp [D.flat]
end LS
namespace LS
open PySem L2 HD PM
def D.pl : Nat → D → Bool
  | _, .non => true
  | _, .bl _ => true
  | _, .int _ => true
  | _, .str _ => true
  | k + 1, .lst ds => decide (ds.length ≤ 100000) && ds.all (D.pl k)
  | k + 1, .tup ds => decide (ds.length ≤ 100000) && ds.all (D.pl k)
  | _, _ => false
theorem noVals_of {ds : List D} (h : ∀ d ∈ ds, d.noVal = true) : D.noVals ds = true := by
  induction ds with
  | nil => rfl
  | cons d ds ih => rw [D.noVals, h d List.mem_cons_self, ih fun e he => h e (List.mem_cons_of_mem _ he)]; rfl
theorem pl_noVal : ∀ (k : Nat) (d : D), D.pl k d = true → d.noVal = true := by
  intro k
  induction k with
  | zero => intro d h; cases d <;> first | rfl | simp [D.pl] at h
  | succ k ih =>
    intro d h
    cases d with
    | lst ds => rw [D.pl, Bool.and_eq_true, List.all_eq_true] at h; exact noVals_of fun e he => ih e (h.2 e he)
    | tup ds => rw [D.pl, Bool.and_eq_true, List.all_eq_true] at h; exact noVals_of fun e he => ih e (h.2 e he)
    | non => rfl
    | bl _ => rfl
    | int _ => rfl
    | str _ => rfl
    | val _ => simp [D.pl] at h
    | fz _ => simp [D.pl] at h
    | tk _ => simp [D.pl] at h
    | exc _ => simp [D.pl] at h
    | glo _ => simp [D.pl] at h
    | dk _ _ => simp [D.pl] at h
    | dt _ _ => simp [D.pl] at h
end LS
namespace LS
open PySem L2 HD PM
def D.pi : Nat → D → Bool
  | _, .non => true
  | _, .bl _ => true
  | _, .int _ => true
  | _, .str x => PyData.canLay0 (.str x)
  | k + 1, .lst ds => ds.all (D.pi k)
  | k + 1, .tup ds => ds.all (D.pi k)
  | _, _ => false
theorem pys_of {k : Nat} {ds : List D} (h : ∀ d ∈ ds, d.noVal = true ∧ d.py.canLay0 = true ∧ d.py.depth ≤ k) : D.noVals ds = true ∧ PyData.canLayAll0 (D.pys ds) = true ∧ PyData.depthAll (D.pys ds) ≤ k := by
  induction ds with
  | nil => exact ⟨rfl, rfl, by simp [D.pys, PyData.depthAll]⟩
  | cons d ds ih =>
    obtain ⟨h1, h2, h3⟩ := h d List.mem_cons_self
    obtain ⟨i1, i2, i3⟩ := ih fun e he => h e (List.mem_cons_of_mem _ he)
    refine ⟨by simp [D.noVals, h1, i1], by simp [D.pys, PyData.canLayAll0, h2, i2], ?_⟩
    simp only [D.pys, PyData.depthAll]
    omega
theorem pi_cmp0 : ∀ (k : Nat) (d : D), D.pi k d = true → d.noVal = true ∧ d.py.canLay0 = true ∧ d.py.depth ≤ k := by
  intro k
  induction k with
  | zero => intro d h; cases d <;> first | exact ⟨rfl, rfl, by simp [D.py, PyData.depth]⟩ | exact ⟨rfl, h, by simp [D.py, PyData.depth]⟩ | simp [D.pi] at h
  | succ k ih =>
    intro d h
    cases d with
    | lst ds =>
      rw [D.pi, List.all_eq_true] at h
      obtain ⟨h1, h2, h3⟩ := pys_of fun e he => ih e (h e he)
      exact ⟨h1, by simpa [D.py, PyData.canLay0] using h2, by simp only [D.py, PyData.depth]; omega⟩
    | tup ds =>
      rw [D.pi, List.all_eq_true] at h
      obtain ⟨h1, h2, h3⟩ := pys_of fun e he => ih e (h e he)
      exact ⟨h1, by simpa [D.py, PyData.canLay0] using h2, by simp only [D.py, PyData.depth]; omega⟩
    | non => exact ⟨rfl, rfl, by simp [D.py, PyData.depth]⟩
    | bl _ => exact ⟨rfl, rfl, by simp [D.py, PyData.depth]⟩
    | int _ => exact ⟨rfl, rfl, by simp [D.py, PyData.depth]⟩
    | str _ => exact ⟨rfl, h, by simp [D.py, PyData.depth]⟩
    | val _ => simp [D.pi] at h
    | fz _ => simp [D.pi] at h
    | tk _ => simp [D.pi] at h
    | exc _ => simp [D.pi] at h
    | glo _ => simp [D.pi] at h
    | dk _ _ => simp [D.pi] at h
    | dt _ _ => simp [D.pi] at h
theorem pi_cmp {k : Nat} {d : D} (hk : k ≤ 64) (h : D.pi k d = true) : d.cmp := by
  obtain ⟨h1, h2, h3⟩ := pi_cmp0 k d h
  refine ⟨h1, ?_⟩
  unfold SeqAt.shaped
  rw [h2]
  simp; omega
theorem pi_ints (k : Nat) (l : List Int) : (iD l).all (D.pi k) = true := by
  rw [List.all_eq_true]
  intro d hd
  obtain ⟨i, _, rfl⟩ := List.mem_map.1 hd
  cases k <;> rfl
theorem pi_nats (k : Nat) (l : List Nat) : (nD l).all (D.pi k) = true := by
  rw [List.all_eq_true]
  intro d hd
  obtain ⟨i, _, rfl⟩ := List.mem_map.1 hd
  cases k <;> rfl
def Bd (k : Nat) (p : Part) : Prop := ∀ x ∈ p.ws, x.natAbs < 2 ^ k
end LS
namespace PM
open LS
def put (g : Nat → Nat) (n v : Nat) : Nat → Nat := fun m => if m = n then v else g m
end PM
namespace LS
open PySem L2 HD PM
local macro_rules | `(tactic| trivial) => `(tactic| try simp -dsimp only [↓sSeq, ↓sIf, ↓sRet, ↓retD_ext, ↓retD_lst, ↓retD_al, ↓sSet, ↓sSetE, ↓sAsg, ↓sDrop, ↓sNext, ↓sFor, ↓sRetN, ↓sCont, ↓sBreak, ↓dTest, ↓dOp, ↓dVar_w, ↓dC, ↓dCons, ↓dNil, ↓dTup, ↓dLst, ↓frzDs, ↓frzD_ext, ↓frzD_lst, ↓frzD_al, ↓wd_ext, ↓wd_lst, ↓wd_al, ↓wds, ↓AtS_ext, ↓AtS_lst, ↓AtL, ↓fAdd, ↓fSub, ↓fMul, ↓fDiv, ↓fMod, ↓fPow, ↓fCmp, ↓fIn, ↓fEq_ii, ↓fEq_ss, ↓fEq_bb, ↓fEq_tt, ↓fEq_ll, ↓fNe_ii, ↓fNe_ss, ↓fNe_bb, ↓fNe_tt, ↓fNe_ll, ↓fIx_l, ↓fIx_t, ↓fIx_k, ↓fIx_f, ↓GetS_some, ↓NatS_some, ↓fSl, ↓fIsN, ↓fNotN, ↓D.knN, ↓dNot, ↓dAnd, ↓dOr, ↓dAndV_w, ↓dOrV_w, ↓dNotV, ↓dIf, ↓dNeg, ↓dChain_w, ↓BlS_bl, ↓dCall_w, ↓dCallJ_w, ↓anyAl, ↓frozs, ↓froz, ↓gSet, ↓gTupD, ↓gsCons, ↓gsNil, ↓dSeq, ↓seqD_tup, ↓seqD_elst, ↓seqD_lst, ↓seqD_al, ↓dRange1, ↓dRange2, ↓dZip, ↓dCB, ↓dLc, ↓dYes, ↓dNoPart, ↓dPart, ↓dSl, ↓fLen, ↓fMin, ↓fMax, ↓fSum, ↓fAll, ↓fAny, ↓fSorted, ↓fTuple, ↓fList, ↓dRg1, ↓dRg2, ↓dLstRg, ↓dTupRg, ↓dIndex, ↓fIdx, ↓dAppend_w, ↓dExtend_w, ↓extD_lst, ↓dPopAt_w, ↓popD_int, ↓dPop_w, ↓mutD_w, ↓sSetItem_w, ↓setD_int, ↓dSortSet, ↓dTable_w, ↓wipeE, finals1, finals2, finals3, finals4, finals5, finals6, fin1_ext, fin1_lst, List.getElem?_cons_zero, List.getElem?_cons_succ, List.getElem?_nil, List.set_cons_zero, List.set_cons_succ, List.cons_append, List.nil_append, List.append_nil, List.replicate_succ, List.replicate_zero, List.map_cons, List.map_nil, List.length_cons, List.length_nil, true_and, and_true, ite_true, ite_false, if_true, if_false, Bool.false_eq_true, decide_eq_true_eq, Sl.plain, D.isSq, eq_self_iff_true, forall_const, reduceIte, true_or, or_true, atI_0, atI_1, atI_2, atI_3, ixN_0, ixN_1, ixN_2, AtS_ext, AtS_lst, FzS_lst, FzS_ext, GetS_some, NatS_some, ↓fIsi1, ↓fIsi2, BoolS_some, HD.kb_non_tuple, HD.kb_non_list, HD.kb_non_bool, HD.kb_non_int, HD.kb_non_str, HD.kb_bl_tuple, HD.kb_bl_list, HD.kb_bl_bool, HD.kb_bl_int, HD.kb_bl_str, HD.kb_int_tuple, HD.kb_int_list, HD.kb_int_bool, HD.kb_int_int, HD.kb_int_str, HD.kb_str_tuple, HD.kb_str_list, HD.kb_str_bool, HD.kb_str_int, HD.kb_str_str, HD.kb_lst_tuple, HD.kb_lst_list, HD.kb_lst_bool, HD.kb_lst_int, HD.kb_lst_str, HD.kb_tup_tuple, HD.kb_tup_list, HD.kb_tup_bool, HD.kb_tup_int, HD.kb_tup_str, ↓sFz_w, ↓FzS_lst, ↓FzS_ext, ↓dSortSetL, ↓fAbs, ↓fInt, ↓fRepr, ↓fLtT, ↓sRaise, ↓sTryKeep, ↓dCallV_w, ↓dMeth, ↓fCount, ↓fSplit])
def D.isInt : D → Bool
  | .int _ => true
  | _ => false
def sp_is_whole : DSpec := fun args Q _ => ∃ (d : D) (k : Nat), args = [.ext d] ∧ D.pl k d = true ∧ ∀ fin, Q (.ext (.bl (D.isInt d))) fin
def t_is_whole : DTS :=
    (sRet (dAndV (dCB fIsi (dCons (dVar 0) (dCons (dC (.val (.ty "int"))) dNil))) (dNotV (dCB fIsi (dCons (dVar 0) (dCons (dC (.val (.ty "bool"))) dNil))))))
theorem m_is_whole : Meets t_is_whole 1 0 sp_is_whole := by
  rintro args Qd Xd ⟨d, k, rfl, hp, hQ⟩
  have nv := pl_noVal k d hp
  show t_is_whole _ _ [_]
  unfold t_is_whole
  cases d with
  | val _ => cases k <;> simp [D.pl] at hp
  | fz _ => cases k <;> simp [D.pl] at hp
  | tk _ => cases k <;> simp [D.pl] at hp
  | exc _ => cases k <;> simp [D.pl] at hp
  | glo _ => cases k <;> simp [D.pl] at hp
  | dk _ _ => cases k <;> simp [D.pl] at hp
  | dt _ _ => cases k <;> simp [D.pl] at hp
  | _ =>
    trivial
    simp only [nv, D.isFz, true_and, Bool.not_true, Bool.not_false]
    exact hQ _
def inR (many : Int) : D → Bool
  | .int i => decide (0 ≤ i) && decide (i < many)
  | _ => false
theorem all_inR {many : Int} {ds : List D} (h : ds.all (inR many) = true) : ∃ ns : List Nat, ds = nD ns ∧ ∀ n ∈ ns, (n : Int) < many := by
  induction ds with
  | nil => exact ⟨[], rfl, by simp⟩
  | cons d ds ih =>
    rw [List.all_cons, Bool.and_eq_true] at h
    obtain ⟨ns, rfl, h2⟩ := ih h.2
    cases d with
    | int i =>
      have h1 : decide (0 ≤ i) && decide (i < many) := h.1
      rw [Bool.and_eq_true, decide_eq_true_eq, decide_eq_true_eq] at h1
      refine ⟨i.toNat :: ns, ?_, fun n hn => ?_⟩
      · rw [nD_cons, Int.toNat_of_nonneg h1.1]
      · rcases List.mem_cons.1 hn with rfl | hn
        · omega
        · exact h2 n hn
    | _ => exact absurd h.1 (by simp [inR])
theorem inR_all {many : Int} {ns : List Nat} (h : ∀ n ∈ ns, (n : Int) < many) : (nD ns).all (inR many) = true := by
  rw [List.all_eq_true]
  intro d hd
  obtain ⟨n, hn, rfl⟩ := List.mem_map.1 hd
  have := h n hn
  simp [inR]; omega
theorem nD_inj {a b : List Nat} (h : nD a = nD b) : a = b := by
  induction a generalizing b with
  | nil => cases b with
    | nil => rfl
    | cons y b => simp at h
  | cons x a ih => cases b with
    | nil => simp at h
    | cons y b =>
      rw [nD_cons, nD_cons] at h
      have h1 := (List.cons.inj h).1
      have h2 := ih (List.cons.inj h).2
      have h3 := D.int.inj h1
      rw [h2, show x = y by omega]
end LS
namespace LS
open PySem L2 HD PM
theorem R_if {R : Option HD.D → HD.Env' → Prop} {b b' : Bool} {x : HD.D} {env : HD.Env'} (e : b = b') (h : R (if b' = true then some x else none) env) : if b = true then R (some x) env else R none env := by
  subst e
  cases b <;> exact h
theorem R_ifP {R : Option HD.D → HD.Env' → Prop} {p : Prop} [Decidable p] {b : Bool} {x : HD.D} {env : HD.Env'} (e : decide p = b) (h : R (if b = true then some x else none) env) : if p then R (some x) env else R none env := by
  subst e
  by_cases hp : p
  · rw [if_pos hp]; simpa [hp] using h
  · rw [if_neg hp]; simpa [hp] using h
end LS
namespace LS
open PySem L2 HD PM
abbrev dPs (ps : List Part) : D := .tup (ps.map dP)
abbrev dSh (S : List Nat) (ps : List Part) : D := .tup [.tup (nD S), dPs ps]
structure ShOk (S : List Nat) (ps : List Part) : Prop where
  sz : SzOk S
  one : 0 < S.length
  ok : ∀ p ∈ ps, p.Ok S
  bd : ∃ b, 0 < b ∧ b * ps.length ≤ 40 * max ps.length 20 ∧ ∀ p ∈ ps, Bd b p
  few : ps.length ≤ 60
structure ShO4 (S : List Nat) (ps : List Part) : Prop extends ShOk S ps where
  b4 : ∀ p ∈ ps, Bd 40 p
instance {S : List Nat} {ps : List Part} : Coe (ShO4 S ps) (ShOk S ps) := ⟨fun h => h.toShOk⟩
end LS
namespace LS
open PySem L2 HD PM
theorem at_last {α : Type} (xs : List α) (x : α) : atI (xs ++ [x]) (-1) = some x := by
  unfold atI ixN
  simp
  rw [if_pos (by omega), show (-1 + ((xs.length : Int) + 1)).toNat = xs.length by omega]
  simp
end LS
namespace LS
open PySem L2 HD PM
abbrev cI (l : List Nat) : List Int := l.map fun n : Nat => (n : Int)
end LS
namespace HD
open PySem PyProof.Rows L2
section
variable {prog : Program} {w : World} {A : Around} {E : Value → Shared → Prop} {s : Shared}
theorem rev_adjust (n : Nat) : Builtin.Slice.sliceAdjust none none (-1) (n : Int) = ((n : Int) - 1, -1) := by
  simp [Builtin.Slice.sliceAdjust]
theorem rev_places (n : Nat) : Builtin.Slice.slicePlaces ((n : Int) - 1) (-1) (-1) = n := by
  unfold Builtin.Slice.slicePlaces
  rw [if_neg (by decide)]
  by_cases h : n = 0
  · subst h; rfl
  · rw [if_pos (by omega), show (-(-1) : Int) = 1 by decide, Int.ediv_one]
    omega
theorem sliceApplied_rev {sl : Addr} {vs : Value} {n : Nat} {Q : Int × Int × Nat → Shared → Prop} (hs : s.heap.IsSliceOf sl .none .none vs) (pk : IsPart vs (some (-1)))
    (h : Q ((n : Int) - 1, -1, n) s) : wpAny (model prog w) A (Builtin.Slice.sliceApplied (.ref sl) (pure (n : Int))) Q E s := by
  obtain ⟨os, hos, hcs, hds⟩ := id hs
  unfold Builtin.Slice.sliceApplied Builtin.Slice.sliceFields
  refine wpAny_bind (wpAny_bind (wpAny_field hos hds (x := .none) rfl (wpAny_bind (wpAny_field hos hds (x := .none) rfl (wpAny_bind (wpAny_field hos hds (x := vs) rfl (wpAny_pure ?_)))))))
  refine wpAny_bind (HT.slicePart_ pk ?_)
  show wpAny _ _ (if ((-1 : Int) == 0) = true then _ else _) _ _ s
  rw [if_neg (by decide)]
  refine wpAny_bind (HT.slicePart_ .none (wpAny_bind (HT.slicePart_ .none (wpAny_bind (wpAny_pure ?_)))))
  show wpAny _ _ (match Builtin.Slice.sliceAdjust none none (-1) (n : Int) with | (lo, hi) => pure (lo, (-1 : Int), Builtin.Slice.slicePlaces lo hi (-1))) _ _ s
  rw [rev_adjust]
  show wpAny _ _ (pure ((n : Int) - 1, (-1 : Int), Builtin.Slice.slicePlaces ((n : Int) - 1) (-1) (-1))) _ _ s
  rw [rev_places]
  exact wpAny_pure h
theorem pick_rev (xs : Array Value) : ((List.range xs.size).filterMap fun (m : Nat) => xs[((xs.size : Int) - 1 + (m : Int) * (-1)).toNat]?).toArray = xs.toList.reverse.toArray := by
  have e : (fun (m : Nat) => xs[((xs.size : Int) - 1 + (m : Int) * (-1)).toNat]?) = (fun m => xs[m]?) ∘ fun m => xs.size - 1 - m := by
    funext m
    have : ((xs.size : Int) - 1 + (m : Int) * (-1)).toNat = xs.size - 1 - m := by omega
    simp only [this, Function.comp]
  rw [e, ← List.filterMap_map, PySem.W.krv_range, List.filterMap_reverse, PySem.W.krv_all]
theorem getItem_tuple_rev {t sl : Addr} {items : Array Value} {vs : Value} {Q : Value → Shared → Prop} (ht : IsTup s.heap t items) (hs : s.heap.IsSliceOf sl .none .none vs) (pk : IsPart vs (some (-1)))
    (h : Q (.ref s.heap.objs.size) { s with heap := s.heap.push { cls := .type "tuple", data := .seq items.toList.reverse.toArray } })
    (hsz : items.size ≤ sizeLine) : wpAny (model prog w) A (getItem (.ref t) (.ref sl)) Q E s := by
  have htake : sizeOk (.seq items.toList.reverse.toArray) := by
    show items.toList.reverse.toArray.size ≤ sizeLine
    rw [List.size_toArray, List.length_reverse, Array.length_toList]
    omega
  obtain ⟨os, hos, hcs, hds⟩ := id hs
  have hTs : s.TypeIs (.ref sl) "slice" := ⟨os, hos, hcs⟩
  unfold getItem
  try with_reducible refine wpAny_holding ?_
  first | refine wpAny_bind (wpAny_pure ?_) | skip
  refine wpAny_bind (wpAny_sequenceKey ht.typeIs (by decide) ?_)
  refine wpAny_bind (wpAny_callSpecial?_slot (name := Str.ofString "__getitem__") ht.typeIs PyProof.Rows.slot_tuple_getitem
    (wpAny_call_entry PyProof.Rows.slot_tuple_getitem ht.typeIs entry_tuple_getitem ?_ (args_tuple_getitem _ _)))
  show wpAny _ _ (Builtin.Tuple.tupleItemsOf (.ref t) >>= _) _ _ s
  refine wpAny_bind (tupleItemsOf_ ht ?_)
  refine wpAny_bind (wpAny_typeOf hTs ?_)
  rw [if_pos (by decide)]
  refine wpAny_bind (sliceApplied_rev hs pk ?_)
  have hno : ¬ (((((items.size : Nat) : Int) - 1) == 0 && (-1 : Int) == 1 && items.size == items.size) = true) := by
    rw [show ((-1 : Int) == 1) = false from rfl, Bool.and_false, Bool.false_and]
    exact Bool.false_ne_true
  show wpAny _ _ (if (((((items.size : Nat) : Int) - 1) == 0 && (-1 : Int) == 1 && items.size == items.size) = true) then _ else _) _ _ s
  rw [if_neg hno, pick_rev]
  first
    | exact wpAny_bind (m := Builtin.Tuple.tupleExact _) (wpAny_newObj_type (wpAny_pure ⟨_, rfl, wpAny_pure h⟩) htake)
    | exact wpAny_bind (m := Builtin.Tuple.tupleExact _) (wpAny_newObj_type (wpAny_bind (wpAny_pure (wpAny_pure ⟨_, rfl, wpAny_pure h⟩))) htake)
    | exact wpAny_bind (wpAny_bind (m := Builtin.Tuple.tupleExact _) (wpAny_newObj_type (wpAny_pure (wpAny_pure ⟨_, rfl, wpAny_pure h⟩)) htake))
    | exact wpAny_bind (wpAny_bind (m := Builtin.Tuple.tupleExact _) (wpAny_newObj_type (wpAny_pure ⟨_, rfl, wpAny_pure h⟩) htake))
end
def stepL {α : Type} (xs : List α) (c : Int) : List α := (sliceRange (sliceBounds none none (some c) xs.length).1 (sliceBounds none none (some c) xs.length).2.1 (sliceBounds none none (some c) xs.length).2.2).filterMap (xs[·]?)
theorem vals_pick {xs : List V} {us : List Value} (r : Vals xs us) (ix : List Nat) : Vals (ix.filterMap (xs[·]?)) (ix.filterMap (us[·]?)) := by
  induction ix with
  | nil => exact .nil
  | cons i ix ih =>
    cases e : xs[i]? with
    | none =>
      have e2 : us[i]? = none := by
        rw [List.getElem?_eq_none_iff] at e ⊢
        rw [← r.length]; exact e
      rw [List.filterMap_cons_none e, List.filterMap_cons_none e2]
      exact ih
    | some x =>
      obtain ⟨u, e2, ru⟩ := r.get e
      rw [List.filterMap_cons_some e, List.filterMap_cons_some e2]
      exact .cons ru ih
theorem stepL_vals {xs : List V} {us : List Value} (r : Vals xs us) (c : Int) : Vals (stepL xs c) (slicePick us.toArray none none (some c)).toList := by
  unfold stepL slicePick
  rw [List.size_toArray, ← r.length]
  simp only [List.getElem?_toArray]
  exact vals_pick r _
theorem stepL_rev {α : Type} (xs : List α) : stepL xs (-1) = xs.reverse := by
  unfold stepL
  rw [PySem.W.krv_bounds]
  show (sliceRange ((xs.length : Int) - 1) (-1) (-1)).filterMap (xs[·]?) = _
  rw [PySem.W.krv_sliceRange, PySem.W.krv_range, List.filterMap_reverse]
  have := PySem.W.krv_all xs.toArray
  simp only [List.size_toArray, List.getElem?_toArray] at this
  rw [this]
theorem stepL_len {α : Type} (xs : List α) (c : Int) (h0 : c ≠ 0) : (stepL xs c).length ≤ xs.length := by
  unfold stepL
  refine Nat.le_trans (List.length_filterMap_le _ _) ?_
  refine sliceRange_length_le _ _ _ _ (fun h => ?_) fun h => ?_
  · simp [sliceBounds] at h ⊢
    simp [h]
  · simp [sliceBounds] at h ⊢
    simp [show ¬ (0 < c) by omega]
section
variable {X : Cx} {e es : Expr} {te ts : TE} {p3 pos : Pos}
def tStep (K : PySem.W.Frag) (te : TE) (tp : TO) : TE := fun σ H Q => te σ H fun x H1 => tp σ H1 fun o H2 => ∃ (c : Int) (a : Addr) (xs : List V), o = some c ∧ x = .ref a ∧ c ≠ 0 ∧ ((SqL K H2 a xs ∧ ∀ p, H2 p = none → Q (.ref p) (upd H2 p (.lst (stepL xs c)))) ∨ (c = -1 ∧ SqT K H2 a xs ∧ newT H2 xs.reverse Q))
theorem pe_step {st : Expr} {tp : TO} (he : PE X e te) (hst : PO X (some st) tp) : PE X (.Subscript e (.Slice none none (some st) p3) pos) (tStep X.K te tp) := by
  refine ⟨fun pins s σ H Q I h => ?_⟩
  refine Subscript_ (thn (he.run pins s σ H _ I h) fun v s1 ⟨x, H1, I1, r1, q1⟩ => ?_)
  refine wpAny_Slice (thn (po_none.run pins s1 σ H1 (fun o H2 => o = none ∧ H2 = H1) I1 ⟨rfl, rfl⟩) fun vl s2 ⟨l, H2, I2, pl, el, e2⟩ => ?_)
  subst el e2
  refine thn (po_none.run pins s2 σ H2 (fun o H3 => o = none ∧ H3 = H2) I2 ⟨rfl, rfl⟩) fun vu s3 ⟨u, H3, I3, pu, eu, e3⟩ => ?_
  subst eu e3
  refine thn (hst.run pins s3 σ H3 _ I3 q1) fun vs s4 ⟨o, H4, I4, ps, c, a, xs, eo, ex, hc, q⟩ => ?_
  subst eo ex
  cases r1
  cases pl
  cases pu
  have I5 : Inv X pins σ H4 { s4 with heap := s4.heap.push { cls := .type "slice", data := .fields #[.none, .none, vs] } } := I4.kept (t' := s4.toks) fun b ob q => Heap.get?_push_of_some _ q
  show wpAny (model X.prog X.w) X.A (subscriptTail e (.Slice none none (some st) p3) (.ref a) (.ref s4.heap.objs.size)) (EP X pins σ Q) X.xe { s4 with heap := s4.heap.push { cls := .type "slice", data := .fields #[.none, .none, vs] } }
  rcases q with ⟨hx, q⟩ | ⟨rfl, hx, q⟩
  · obtain ⟨its, r, ht, hz⟩ := I5.list hx
    have hlen := r.length
    refine tail_any (ops := [.ref a, .ref s4.heap.objs.size]) ht.isList.typeIs (PySem.slot_list_getitem.lookup) ?_ (by with_unfolding_all rfl)
    refine wpAny_getItem_list_slice ht.isList (Heap.IsSliceOf.new _ .none .none vs) .none .none ps (fun z => hc (Option.some.inj z)) ?_ (by rw [List.size_toArray]; omega)
    refine ⟨.ref _, _, I5.laid (t' := s4.toks) (o := .lst (stepL xs c)) (fun b ob q => Heap.get?_push_of_some _ q) (Nat.le_refl _) ?_, rfl, q _ (I5.hok.fresh (Nat.le_refl _))⟩
    refine ⟨Nat.le_trans (stepL_len xs c hc) hz, _, 0, stepL_vals r c, ?_⟩
    rw [Array.toArray_toList]
    exact Heap.get?_push_size _ rfl
  · obtain ⟨its, r, ht, hz⟩ := I5.tuple hx
    have hlen := r.length
    refine tail_any (ops := [.ref a, .ref s4.heap.objs.size]) ht.typeIs (PyProof.Rows.slot_tuple_getitem.lookup) ?_ (by with_unfolding_all rfl)
    refine getItem_tuple_rev ht (Heap.IsSliceOf.new _ .none .none vs) ps ?_ (by rw [List.size_toArray]; omega)
    exact laidT (tk := s4.toks) I5 r.reverse (by rw [List.length_reverse]; exact hz) q
end
theorem Reps.rev {K : PySem.W.Frag} {F : Hp} {ds : List D} {vs : List V} (h : Reps K F ds vs) (c : Int) : Reps K F (stepL ds c) (stepL vs c) := by
  unfold stepL
  rw [h.length]
  generalize sliceRange _ _ _ = ix
  induction ix with
  | nil => exact rfl
  | cons i ix ih =>
    cases e : ds[i]? with
    | none =>
      have e2 : vs[i]? = none := by
        rw [List.getElem?_eq_none_iff] at e ⊢
        rw [← h.length]; exact e
      rw [List.filterMap_cons_none e, List.filterMap_cons_none e2]
      exact ih
    | some x =>
      obtain ⟨u, e2, ru⟩ := h.get e
      rw [List.filterMap_cons_some e, List.filterMap_cons_some e2]
      exact ⟨_, _, rfl, ru, ih⟩
def fStep (d : D) (o : Option Int) (Q : Sl → Prop) : Prop := match d, o with
  | .lst ds, some c => c ≠ 0 ∧ ∀ a, Q (.lst a (stepL ds c))
  | .fz ds, some c => c ≠ 0 ∧ ∀ a, Q (.lst a (stepL ds c))
  | .tup ds, some c => c = -1 ∧ Q (.ext (.tup ds.reverse))
  | _, _ => False
def dStep (ta : DT) (tp : DTO) : DT := fun Ex env Q => ta Ex env fun x env1 => tp Ex env1 fun o env2 => wd env2 x fun d => fStep d o fun sl => Q sl env2
section
variable {G : GG} {N : List Str} {sc : SC} {k : Nat} {a : Expr} {ta : DT} {pos : Pos}
theorem de_step {st : Expr} {tp : DTO} {p2 : Pos} (h : DE G N sc k a ta) (hp : DO' G N sc k (some st) tp) : DE G N sc k (.Subscript a (.Slice none none (some st) p2) pos) (dStep ta tp) := ⟨fun W => by
  obtain ⟨te, p1, i1⟩ := h.ex W
  obtain ⟨tp', p2', i2⟩ := hp.ex W
  refine ⟨tStep G.K te tp', fun X S => by rw [← S.K]; exact pe_step (p1 X S) (p2' X S), fun e Ex hl env T F σ H Q R hh ht hR => ?_⟩
  refine i1 e Ex hl env T F σ H _ _ hh ht fun v H1 F1 env1 x hh1 q1 => ?_
  refine i2 e Ex hl env1 _ F1 σ H1 _ _ hh1 q1 fun o H3 F3 env3 hh3 q3 => ?_
  obtain ⟨d, rd, q4⟩ := hh3.wd (v := v) (sl := x) List.mem_cons_self q3
  have dn := hh3.pop.done hR
  cases o with
  | none => cases d <;> exact q4.elim
  | some c =>
    cases d with
    | lst ds =>
      obtain ⟨b, vs, rfl, e1, r1⟩ := rd.lst hh3.fh
      exact ⟨c, b, vs, rfl, rfl, q4.1, .inl ⟨SqL.of e1, fun p n => dn.lst hh3.fh n (r1.rev c) (q4.2 p)⟩⟩
    | fz ds =>
      obtain ⟨b, vs, rfl, e1, r1⟩ := rd.fz hh3.fh
      exact ⟨c, b, vs, rfl, rfl, q4.1, .inl ⟨e1, fun p n => dn.lst hh3.fh n (r1.rev c) (q4.2 p)⟩⟩
    | tup ds =>
      obtain ⟨b, vs, rfl, e1, e2, r1⟩ := rd.tup hh3.fh
      obtain ⟨rfl, q5⟩ := q4
      have r2 := r1.rev (-1)
      rw [stepL_rev, stepL_rev] at r2
      exact ⟨-1, b, vs, rfl, rfl, by decide, .inr ⟨rfl, e1, dn.tup hh3.fh r2 q5⟩⟩
    | _ => exact q4.elim⟩
end
end HD
namespace LS
namespace K02
open PySem L2 HD PM
local macro_rules | `(tactic| trivial) => `(tactic| try simp -dsimp only [↓sSeq, ↓sIf, ↓sRet, ↓retD_ext, ↓retD_lst, ↓retD_al, ↓sSet, ↓sSetE, ↓sAsg, ↓sDrop, ↓sNext, ↓sFor, ↓sRetN, ↓sCont, ↓sBreak, ↓dTest, ↓dOp, ↓dVar_w, ↓dC, ↓dCons, ↓dNil, ↓dTup, ↓dLst, ↓frzDs, ↓frzD_ext, ↓frzD_lst, ↓frzD_al, ↓wd_ext, ↓wd_lst, ↓wd_al, ↓wds, ↓AtS_ext, ↓AtS_lst, ↓AtL, ↓fAdd, ↓fSub, ↓fMul, ↓fDiv, ↓fMod, ↓fPow, ↓fCmp, ↓fIn, ↓fEq_ii, ↓fEq_ss, ↓fEq_bb, ↓fEq_tt, ↓fEq_ll, ↓fNe_ii, ↓fNe_ss, ↓fNe_bb, ↓fNe_tt, ↓fNe_ll, ↓fIx_l, ↓fIx_t, ↓fIx_k, ↓fIx_f, ↓GetS_some, ↓NatS_some, ↓fSl, ↓fIsN, ↓fNotN, ↓D.knN, ↓dNot, ↓dAnd, ↓dOr, ↓dAndV_w, ↓dOrV_w, ↓dNotV, ↓dIf, ↓dNeg, ↓dChain_w, ↓BlS_bl, ↓dCall_w, ↓dCallJ_w, ↓anyAl, ↓frozs, ↓froz, ↓gSet, ↓gTupD, ↓gsCons, ↓gsNil, ↓dSeq, ↓seqD_tup, ↓seqD_elst, ↓seqD_lst, ↓seqD_al, ↓dRange1, ↓dRange2, ↓dZip, ↓dCB, ↓dLc, ↓dYes, ↓dNoPart, ↓dPart, ↓dSl, ↓fLen, ↓fMin, ↓fMax, ↓fSum, ↓fAll, ↓fAny, ↓fSorted, ↓fTuple, ↓fList, ↓dRg1, ↓dRg2, ↓dLstRg, ↓dTupRg, ↓dIndex, ↓fIdx, ↓dAppend_w, ↓dExtend_w, ↓extD_lst, ↓dPopAt_w, ↓popD_int, ↓dPop_w, ↓mutD_w, ↓sSetItem_w, ↓setD_int, ↓dSortSet, ↓dTable_w, ↓wipeE, finals1, finals2, finals3, finals4, finals5, finals6, fin1_ext, fin1_lst, List.getElem?_cons_zero, List.getElem?_cons_succ, List.getElem?_nil, List.set_cons_zero, List.set_cons_succ, List.cons_append, List.nil_append, List.append_nil, List.replicate_succ, List.replicate_zero, List.map_cons, List.map_nil, List.length_cons, List.length_nil, true_and, and_true, ite_true, ite_false, if_true, if_false, Bool.false_eq_true, decide_eq_true_eq, Sl.plain, D.isSq, eq_self_iff_true, forall_const, reduceIte, true_or, or_true, atI_0, atI_1, atI_2, atI_3, ixN_0, ixN_1, ixN_2, AtS_ext, AtS_lst, FzS_lst, FzS_ext, GetS_some, NatS_some, ↓fIsi1, ↓fIsi2, BoolS_some, HD.kb_non_tuple, HD.kb_non_list, HD.kb_non_bool, HD.kb_non_int, HD.kb_non_str, HD.kb_bl_tuple, HD.kb_bl_list, HD.kb_bl_bool, HD.kb_bl_int, HD.kb_bl_str, HD.kb_int_tuple, HD.kb_int_list, HD.kb_int_bool, HD.kb_int_int, HD.kb_int_str, HD.kb_str_tuple, HD.kb_str_list, HD.kb_str_bool, HD.kb_str_int, HD.kb_str_str, HD.kb_lst_tuple, HD.kb_lst_list, HD.kb_lst_bool, HD.kb_lst_int, HD.kb_lst_str, HD.kb_tup_tuple, HD.kb_tup_list, HD.kb_tup_bool, HD.kb_tup_int, HD.kb_tup_str, ↓sFz_w, ↓FzS_lst, ↓FzS_ext, ↓dSortSetL, ↓fAbs, ↓fInt, ↓fRepr, ↓fLtT, ↓sRaise, ↓sTryKeep, ↓dCallV_w, ↓dMeth, ↓fCount, ↓fSplit, dStep, fStep])
def sp_law_whole_number : DSpec := sp_is_whole
def t_law_whole_number : DTS :=
    (sRet (dAndV (dCB fIsi (dCons (dVar 0) (dCons (dC (.val (.ty "int"))) dNil))) (dNotV (dCB fIsi (dCons (dVar 0) (dCons (dC (.val (.ty "bool"))) dNil))))))
theorem m_law_whole_number : Meets t_law_whole_number 1 0 sp_law_whole_number := by
  rintro args Qd Xd ⟨d, k, rfl, hp, hQ⟩
  have nv := pl_noVal k d hp
  show t_law_whole_number _ _ [_]
  unfold t_law_whole_number
  cases d with
  | val _ => cases k <;> simp [D.pl] at hp
  | fz _ => cases k <;> simp [D.pl] at hp
  | tk _ => cases k <;> simp [D.pl] at hp
  | exc _ => cases k <;> simp [D.pl] at hp
  | glo _ => cases k <;> simp [D.pl] at hp
  | dk _ _ => cases k <;> simp [D.pl] at hp
  | dt _ _ => cases k <;> simp [D.pl] at hp
  | _ =>
    trivial
    simp only [nv, D.isFz, true_and, Bool.not_true, Bool.not_false]
    exact hQ _
theorem lc_filterD {g : DTG} {tt : DTT} {te : DT} {vs : List Nat} {keep : Env' → Prop} {Q : Sl → Env' → Prop} {env : Env'} (f : D → D) (p : D → Bool) (hk : keep env) (xs : List D) (hl : xs.length ≤ sizeLine)
    (h : ∀ x ∈ xs, ∀ R : Option D → Env' → Prop, R (if p x = true then some (f x) else none) env → g x env fun env1 => tt noX env1 fun b env2 => if b = true then te noX env2 fun y env3 => frzD env3 y fun d' env4 => R (some d') (wipeE env4 vs) else R none (wipeE env2 vs))
    (hQ : ∀ a, Q (.lst a ((xs.filter p).map f)) env) : lcD g tt te vs keep Q xs [] env := by
  have := lc_filter (g := g) (tt := tt) (te := te) (vs := vs) (keep := keep) (Q := Q) (fun d : D => d) f p hk xs hl h hQ
  rwa [List.map_id'] at this
end K02
end LS
namespace HD
open PySem L2
section
variable {G : GG} {N : List Str} {sc : SC} {k : Nat} {a b : Expr} {pos : Pos}
def sPar (i j : Nat) (t : DTA) : DTS := fun Ex E env => t Ex env fun xs env1 => frzDs env1 xs fun ds env2 => match ds with
  | [d, d'] => E.nx ((env2.set i (.ext d)).set j (.ext d'))
  | _ => False
end
end HD
namespace HD
open PySem L2
def enD (xs : List D) : List D := (xs.zipIdx).map fun p => D.tk [.int (p.2 : Nat), p.1]
def dEnum (ta : DT) : DTI := fun Ex env Q => ta Ex env fun x env1 => seqD env1 x fun xs k1 => Q (enD xs) k1 env1
end HD
namespace HD
open PySem PySem.Spec PyProof.Rows L2
theorem tuple_mul1 (l : Addr) (items : Array Value) (n : Nat) (dd : Option Addr) (sl : Array (Option Value)) (x : Int) (u : PySem.Tok) (c0 : (decide (x < -(2 ^ 63)) || decide (x ≥ 2 ^ 63)) = false) (c1 : (items.isEmpty || x == 1) = true) :
    PySem.Meets (Builtin.«tuple.__mul__» ⟨[.ref l, .int x u], []⟩) (fun _ R s => s.heap.get? l = some { cls := .type "tuple", dict := dd, data := .seq items n, slots := sl } ∧ R (.ok (.ret (Value.ref l))) s) :=
  .of_wp fun prog w A R s h => by
    obtain ⟨hp, g, d, tk, os⟩ := s
    obtain ⟨hl, h⟩ := h
    have f1 := AutoSeq1.idx_int
    wp_walk using wpAny_loadPart' hl
    repeat (first
      | (refine wpAny_ite_false (decide_eq_false (by rw [c0]; exact Bool.false_ne_true)) ?_; wp_walk using wpAny_loadPart' hl)
      | (refine wpAny_ite_true (decide_eq_true (by rw [c1])) ?_; wp_walk using wpAny_loadPart' hl))
    exact ⟨_, rfl, h⟩
theorem tuple_mul0 (l : Addr) (items : Array Value) (n : Nat) (dd : Option Addr) (sl : Array (Option Value)) (x : Int) (u : PySem.Tok) (c0 : (decide (x < -(2 ^ 63)) || decide (x ≥ 2 ^ 63)) = false) (c1 : (items.isEmpty || x == 1) = false) (c2 : (decide (x ≤ 0) || items.isEmpty) = true) :
    PySem.Meets (Builtin.«tuple.__mul__» ⟨[.ref l, .int x u], []⟩) (fun _ R s => s.heap.get? l = some { cls := .type "tuple", dict := dd, data := .seq items n, slots := sl } ∧
      R (.ok (.ret (Value.ref s.heap.objs.size))) { s with heap := s.heap.push { cls := Value.type "tuple", data := Data.seq #[] }, toks := s.toks }) :=
  .of_wp fun prog w A R s h => by
    obtain ⟨hp, g, d, tk, os⟩ := s
    obtain ⟨hl, h⟩ := h
    have f1 := AutoSeq1.idx_int
    wp_walk using wpAny_loadPart' hl
    repeat (first
      | (refine wpAny_ite_false (decide_eq_false (by rw [c0]; exact Bool.false_ne_true)) ?_; wp_walk using wpAny_loadPart' hl)
      | (refine wpAny_ite_false (decide_eq_false (by rw [c1]; exact Bool.false_ne_true)) ?_; wp_walk using wpAny_loadPart' hl)
      | (refine wpAny_ite_true (decide_eq_true (by rw [c2])) ?_; wp_walk using wpAny_loadPart' hl))
    exact ⟨_, rfl, h⟩
def rRepF (K : PySem.W.Frag) : R2 := fun x y H Q => ∃ l k xs, x = .ref l ∧ y = .int k ∧ SqT K H l xs ∧ 0 ≤ k ∧ k < 2 ^ 63 ∧ xs.length * k.toNat ≤ sizeLine ∧ (xs = [] ∨ k = 1 → Q (.ref l) H) ∧ (xs ≠ [] → k ≠ 1 → newT H (List.replicate k.toNat xs).flatten Q)
section
variable {X : Cx}
theorem op_repF : OpR X (binaryOp .Mult) (rRepF X.K) := by
  intro pins s σ H x y v u Q I rx ry h
  obtain ⟨l, k, xs, rfl, rfl, hT, h1, h2, hz, q1, q2⟩ := h
  cases rx
  obtain ⟨t, rfl⟩ := ry
  obtain ⟨its, r, ⟨⟨cls, dd, data, sl⟩, ho, hc, n, hd⟩, hs⟩ := I.tuple hT
  simp only at hc hd
  subst hc hd
  have hle : its.length = xs.length := r.length.symm
  have c0 : (decide (k < -(2 ^ 63)) || decide (k ≥ 2 ^ 63)) = false := by
    rw [decide_eq_false (by omega), decide_eq_false (by omega)] <;> rfl
  have hx : its.toArray.isEmpty = true ↔ xs = [] := by
    cases its with
    | nil => exact ⟨fun _ => List.eq_nil_of_length_eq_zero hle.symm, fun _ => rfl⟩
    | cons a b => exact ⟨fun z => by simp at z, fun z => by rw [z] at hle; simp at hle⟩
  refine wpAny_binaryOp_repeat_ref (T := "tuple") (U := "int") (by decide) ⟨_, ho, rfl⟩ (fun s' => typeIs_int s' k t) noFill_tuple_mul F.fills_int_mul F.slot_int_rmul repeat_tuple F.slot_int_index.lookup
    (call_meets F.slot_int_rmul (typeIs_int s k t) F.entry_int_rmul (F.args_int_rmul_2 _ _) (int_rmul_tuple k t l its.toArray n dd sl)
      ⟨ho, rfl, ⟨_, ho, rfl⟩, ?_⟩)
  by_cases c1 : (its.toArray.isEmpty || k == 1) = true
  · refine call_meets F.slot_tuple_mul ⟨_, ho, rfl⟩ F.entry_tuple_mul (F.args_tuple_mul_2 _ _) (tuple_mul1 l its.toArray n dd sl k t c0 c1) ⟨ho, ?_⟩
    refine ⟨.ref l, H, I, rfl, q1 ?_⟩
    rw [Bool.or_eq_true, hx, beq_iff_eq] at c1
    exact c1
  · have c1f : (its.toArray.isEmpty || k == 1) = false := by simpa using c1
    have hn : xs ≠ [] := fun z => c1 (by rw [Bool.or_eq_true, hx]; exact .inl z)
    have hk1 : k ≠ 1 := fun z => c1 (by rw [Bool.or_eq_true, beq_iff_eq]; exact .inr z)
    have hi : its.toArray.isEmpty = false := by
      cases e : its.toArray.isEmpty with
      | false => rfl
      | true => exact absurd (hx.1 e) hn
    have flen : (List.replicate k.toNat its).flatten.length ≤ sizeLine := by
      rw [PyProof.Rows.lm_len_rep_flat, hle, Nat.mul_comm]
      exact hz
    have flen2 : (List.replicate k.toNat xs).flatten.length ≤ sizeLine := by
      rw [PyProof.Rows.lm_len_rep_flat, Nat.mul_comm]
      exact hz
    by_cases hk0 : k = 0
    · subst hk0
      refine call_meets F.slot_tuple_mul ⟨_, ho, rfl⟩ F.entry_tuple_mul (F.args_tuple_mul_2 _ _) (tuple_mul0 l its.toArray n dd sl 0 t c0 c1f (by rw [Bool.or_eq_true]; exact .inl rfl)) ⟨ho, ?_⟩
      exact laidT (tk := s.toks) (its := []) I .nil (Nat.zero_le _) (q2 hn (by decide))
    · have c2 : (decide (k ≤ 0) || its.toArray.isEmpty) = false := by
        rw [hi, Bool.or_false]
        exact decide_eq_false (by omega)
      have hm : ((its.toArray.size : Nat) : Int) * k = ((xs.length * k.toNat : Nat) : Int) := by
        rw [List.size_toArray, hle, Int.natCast_mul, Int.toNat_of_nonneg h1]
      have hsl : ((xs.length * k.toNat : Nat) : Int) ≤ sizeLine := by omega
      have c4 : Builtin.Tuple.tupleTooMany (((its.toArray.size : Nat) : Int) * k) = false := by
        unfold Builtin.Tuple.tupleTooMany
        exact decide_eq_false (by rw [hm]; omega)
      have c3 : ¬ ((its.toArray.size : Nat) : Int) * k > (2 ^ 63 - 1) / 8 := by
        rw [hm]
        rw [sizeLine_eq] at hsl
        omega
      refine call_meets F.slot_tuple_mul ⟨_, ho, rfl⟩ F.entry_tuple_mul (F.args_tuple_mul_2 _ _) (tuple_mulW l its.toArray n dd sl k t c0 c1f c2 c3 c4 (by rw [size_rep, List.size_toArray]; exact flen)) ⟨ho, ?_⟩
      rw [size_rep]
      exact laidT (tk := s.toks) I (r.rep k.toNat) flen2 (q2 hn hk1)
end
def fMulT : D → D → (Sl → Prop) → Prop
  | .tup xs, .int k, Q => 0 ≤ k ∧ k < 2 ^ 63 ∧ xs.length * k.toNat ≤ sizeLine ∧ Q (.ext (.tup (List.replicate k.toNat xs).flatten))
  | _, _, _ => False
theorem pr_mulT {K : PySem.W.Frag} : Pr2 K (rRepF K) fMulT := fun F H v u d d' Q R fh h1 h2 hf ha => by
  unfold fMulT at hf
  split at hf
  · rename_i xs k
    obtain ⟨a, vs, rfl, e1, e2, r1⟩ := h1.tup fh
    obtain ⟨k0, k1, kz, q⟩ := hf
    refine ⟨a, k, vs, rfl, h2.int, e1, k0, k1, by rw [← r1.length]; exact kz, fun z => ?_, fun _ _ => ha.tup fh (r1.rep _) q⟩
    refine ha.ext (d := .tup _) fh ⟨a, vs, rfl, e2, ?_⟩ q
    rcases z with z | z
    · subst z
      have : xs = [] := List.eq_nil_of_length_eq_zero r1.length
      subst this
      rw [show (List.replicate k.toNat ([] : List D)).flatten = [] by simp]
      exact rfl
    · subst z
      rw [show (List.replicate (Int.toNat 1) xs).flatten = xs by simp]
      exact r1
  · exact hf.elim
theorem de_mulT {G : GG} {N : List Str} {sc : SC} {k : Nat} {a b : Expr} {ta tb : DT} {pos : Pos} (ha : DE G N sc k a ta) (hb : DE G N sc k b tb) : DE G N sc k (.BinOp a .Mult b pos) (dOp fMulT ta tb) := de_bin (r := rRepF) (fun _ => pr_mulT) (fun _ => op_repF) ha hb
def fIsB : D → D → (Sl → Prop) → Prop
  | .bl i, .bl j, Q => Q (.ext (.bl (i == j)))
  | _, _, _ => False
def fNotB : D → D → (Sl → Prop) → Prop
  | .bl i, .bl j, Q => Q (.ext (.bl (!(i == j))))
  | _, _, _ => False
end HD
namespace LS
namespace K01
open PySem L2 HD PM
open K02 (sp_law_whole_number lc_filterD)
theorem pl_tup {k : Nat} {ds : List D} (h : D.pl (k + 1) (.tup ds) = true) : ds.length ≤ 100000 ∧ ∀ d ∈ ds, D.pl k d = true := by
  rw [D.pl, Bool.and_eq_true, List.all_eq_true, decide_eq_true_eq] at h
  exact h
theorem iD_nat {l : List Int} (h : ∀ i ∈ l, 0 ≤ i) : ∃ ns : List Nat, iD l = nD ns ∧ ns.length = l.length ∧ ∀ n ∈ ns, (n : Int) ∈ l := by
  refine ⟨l.map Int.toNat, ?_, by simp, fun n hn => ?_⟩
  · rw [iD, nD, List.map_map]
    exact List.map_congr_left fun i hi' => by
      show D.int i = D.int ((i.toNat : Nat) : Int)
      rw [Int.toNat_of_nonneg (h i hi')]
  · obtain ⟨i, hi', rfl⟩ := List.mem_map.1 hn
    rw [Int.toNat_of_nonneg (h i hi')]
    exact hi'
theorem nD_iD (ns : List Nat) : nD ns = iD (ns.map fun n : Nat => (n : Int)) := by
  rw [iD, nD, List.map_map]
  rfl
theorem isInt_all {ds : List D} (h : ∀ d ∈ ds, D.isInt d = true) : ∃ l : List Int, ds = iD l := by
  induction ds with
  | nil => exact ⟨[], rfl⟩
  | cons d ds ih =>
    obtain ⟨l, rfl⟩ := ih fun e he => h e (List.mem_cons_of_mem _ he)
    have := h d List.mem_cons_self
    cases d with
    | int i => exact ⟨i :: l, rfl⟩
    | _ => simp [D.isInt] at this
theorem fil0 {α : Type} {p : α → Bool} {l : List α} : (l.filter p).length = 0 ↔ ∀ x ∈ l, p x = false := by
  rw [List.length_eq_zero_iff, List.filter_eq_nil_iff]
  exact ⟨fun h x hx => by simpa using h x hx, fun h x hx => by simp [h x hx]⟩
theorem iD_inj {a b : List Int} (h : iD a = iD b) : a = b := (List.map_inj_right (fun x y hxy => D.int.inj hxy)).1 h
end K01
end LS
namespace HD
open PySem L2
theorem seq_setE (i : Nat) (t : DT) (u : DTS) (Ex : DX) (E : DEnds) (env : Env') : sSeq (sSetE i t) u Ex E env = t Ex env fun x env1 => frzD env1 x fun d env2 => u Ex E (env2.set i (.ext d)) := rfl
theorem seq_set (i : Nat) (t : DT) (u : DTS) (Ex : DX) (E : DEnds) (env : Env') : sSeq (sSet i t) u Ex E env = t Ex env fun x env1 => retD env1 x fun r env2 => u Ex E (env2.set i r) := rfl
theorem seq_drop (t : DT) (u : DTS) (Ex : DX) (E : DEnds) (env : Env') : sSeq (sDrop t) u Ex E env = t Ex env fun _ env1 => u Ex E env1 := rfl
theorem seq_asg (t : DT) (g : DTG) (u : DTS) (Ex : DX) (E : DEnds) (env : Env') : sSeq (sAsg t g) u Ex E env = t Ex env fun x env1 => frzD env1 x fun d env2 => g d env2 fun env3 => u Ex E env3 := rfl
theorem seq_if (c : DTT) (t v : DTS) (u : DTS) (Ex : DX) (E : DEnds) (env : Env') : sSeq (sIf c t v) u Ex E env = c Ex env fun b env1 => if b = true then t Ex { E with nx := fun env1 => u Ex E env1 } env1 else v Ex { E with nx := fun env1 => u Ex E env1 } env1 := rfl
theorem seq_for (ti : DTI) (g : DTG) (b : DTS) (u : DTS) (Ex : DX) (E : DEnds) (env : Env') : sSeq (sFor ti g b) u Ex E env = ti Ex env fun items keep env1 => forD g b keep Ex { E with nx := fun env1 => u Ex E env1 } items env1 := rfl
theorem dv0 (d : D) (r : Env') (Ex : DX) (Q : Sl → Env' → Prop) : dVar 0 Ex (.ext d :: r) Q = Q (.ext d) (.ext d :: r) := rfl
theorem dw0 (a : Addr) (ds : List D) (r : Env') (Ex : DX) (Q : Sl → Env' → Prop) : dVar 0 Ex (.lst a ds :: r) Q = Q (.al 0 a) (.lst a ds :: r) := rfl
theorem dv1 (s0 : Sl) (d : D) (r : Env') (Ex : DX) (Q : Sl → Env' → Prop) : dVar 1 Ex (s0 :: .ext d :: r) Q = Q (.ext d) (s0 :: .ext d :: r) := rfl
theorem dw1 (s0 : Sl) (a : Addr) (ds : List D) (r : Env') (Ex : DX) (Q : Sl → Env' → Prop) : dVar 1 Ex (s0 :: .lst a ds :: r) Q = Q (.al 1 a) (s0 :: .lst a ds :: r) := rfl
theorem dv2 (s0 s1 : Sl) (d : D) (r : Env') (Ex : DX) (Q : Sl → Env' → Prop) : dVar 2 Ex (s0 :: s1 :: .ext d :: r) Q = Q (.ext d) (s0 :: s1 :: .ext d :: r) := rfl
theorem dw2 (s0 s1 : Sl) (a : Addr) (ds : List D) (r : Env') (Ex : DX) (Q : Sl → Env' → Prop) : dVar 2 Ex (s0 :: s1 :: .lst a ds :: r) Q = Q (.al 2 a) (s0 :: s1 :: .lst a ds :: r) := rfl
theorem dv3 (s0 s1 s2 : Sl) (d : D) (r : Env') (Ex : DX) (Q : Sl → Env' → Prop) : dVar 3 Ex (s0 :: s1 :: s2 :: .ext d :: r) Q = Q (.ext d) (s0 :: s1 :: s2 :: .ext d :: r) := rfl
theorem dw3 (s0 s1 s2 : Sl) (a : Addr) (ds : List D) (r : Env') (Ex : DX) (Q : Sl → Env' → Prop) : dVar 3 Ex (s0 :: s1 :: s2 :: .lst a ds :: r) Q = Q (.al 3 a) (s0 :: s1 :: s2 :: .lst a ds :: r) := rfl
theorem dv4 (s0 s1 s2 s3 : Sl) (d : D) (r : Env') (Ex : DX) (Q : Sl → Env' → Prop) : dVar 4 Ex (s0 :: s1 :: s2 :: s3 :: .ext d :: r) Q = Q (.ext d) (s0 :: s1 :: s2 :: s3 :: .ext d :: r) := rfl
theorem dw4 (s0 s1 s2 s3 : Sl) (a : Addr) (ds : List D) (r : Env') (Ex : DX) (Q : Sl → Env' → Prop) : dVar 4 Ex (s0 :: s1 :: s2 :: s3 :: .lst a ds :: r) Q = Q (.al 4 a) (s0 :: s1 :: s2 :: s3 :: .lst a ds :: r) := rfl
theorem dv5 (s0 s1 s2 s3 s4 : Sl) (d : D) (r : Env') (Ex : DX) (Q : Sl → Env' → Prop) : dVar 5 Ex (s0 :: s1 :: s2 :: s3 :: s4 :: .ext d :: r) Q = Q (.ext d) (s0 :: s1 :: s2 :: s3 :: s4 :: .ext d :: r) := rfl
theorem dw5 (s0 s1 s2 s3 s4 : Sl) (a : Addr) (ds : List D) (r : Env') (Ex : DX) (Q : Sl → Env' → Prop) : dVar 5 Ex (s0 :: s1 :: s2 :: s3 :: s4 :: .lst a ds :: r) Q = Q (.al 5 a) (s0 :: s1 :: s2 :: s3 :: s4 :: .lst a ds :: r) := rfl
theorem dv6 (s0 s1 s2 s3 s4 s5 : Sl) (d : D) (r : Env') (Ex : DX) (Q : Sl → Env' → Prop) : dVar 6 Ex (s0 :: s1 :: s2 :: s3 :: s4 :: s5 :: .ext d :: r) Q = Q (.ext d) (s0 :: s1 :: s2 :: s3 :: s4 :: s5 :: .ext d :: r) := rfl
theorem dw6 (s0 s1 s2 s3 s4 s5 : Sl) (a : Addr) (ds : List D) (r : Env') (Ex : DX) (Q : Sl → Env' → Prop) : dVar 6 Ex (s0 :: s1 :: s2 :: s3 :: s4 :: s5 :: .lst a ds :: r) Q = Q (.al 6 a) (s0 :: s1 :: s2 :: s3 :: s4 :: s5 :: .lst a ds :: r) := rfl
theorem dv7 (s0 s1 s2 s3 s4 s5 s6 : Sl) (d : D) (r : Env') (Ex : DX) (Q : Sl → Env' → Prop) : dVar 7 Ex (s0 :: s1 :: s2 :: s3 :: s4 :: s5 :: s6 :: .ext d :: r) Q = Q (.ext d) (s0 :: s1 :: s2 :: s3 :: s4 :: s5 :: s6 :: .ext d :: r) := rfl
theorem dw7 (s0 s1 s2 s3 s4 s5 s6 : Sl) (a : Addr) (ds : List D) (r : Env') (Ex : DX) (Q : Sl → Env' → Prop) : dVar 7 Ex (s0 :: s1 :: s2 :: s3 :: s4 :: s5 :: s6 :: .lst a ds :: r) Q = Q (.al 7 a) (s0 :: s1 :: s2 :: s3 :: s4 :: s5 :: s6 :: .lst a ds :: r) := rfl
theorem dv8 (s0 s1 s2 s3 s4 s5 s6 s7 : Sl) (d : D) (r : Env') (Ex : DX) (Q : Sl → Env' → Prop) : dVar 8 Ex (s0 :: s1 :: s2 :: s3 :: s4 :: s5 :: s6 :: s7 :: .ext d :: r) Q = Q (.ext d) (s0 :: s1 :: s2 :: s3 :: s4 :: s5 :: s6 :: s7 :: .ext d :: r) := rfl
theorem dw8 (s0 s1 s2 s3 s4 s5 s6 s7 : Sl) (a : Addr) (ds : List D) (r : Env') (Ex : DX) (Q : Sl → Env' → Prop) : dVar 8 Ex (s0 :: s1 :: s2 :: s3 :: s4 :: s5 :: s6 :: s7 :: .lst a ds :: r) Q = Q (.al 8 a) (s0 :: s1 :: s2 :: s3 :: s4 :: s5 :: s6 :: s7 :: .lst a ds :: r) := rfl
theorem dv9 (s0 s1 s2 s3 s4 s5 s6 s7 s8 : Sl) (d : D) (r : Env') (Ex : DX) (Q : Sl → Env' → Prop) : dVar 9 Ex (s0 :: s1 :: s2 :: s3 :: s4 :: s5 :: s6 :: s7 :: s8 :: .ext d :: r) Q = Q (.ext d) (s0 :: s1 :: s2 :: s3 :: s4 :: s5 :: s6 :: s7 :: s8 :: .ext d :: r) := rfl
theorem dw9 (s0 s1 s2 s3 s4 s5 s6 s7 s8 : Sl) (a : Addr) (ds : List D) (r : Env') (Ex : DX) (Q : Sl → Env' → Prop) : dVar 9 Ex (s0 :: s1 :: s2 :: s3 :: s4 :: s5 :: s6 :: s7 :: s8 :: .lst a ds :: r) Q = Q (.al 9 a) (s0 :: s1 :: s2 :: s3 :: s4 :: s5 :: s6 :: s7 :: s8 :: .lst a ds :: r) := rfl
theorem dv10 (s0 s1 s2 s3 s4 s5 s6 s7 s8 s9 : Sl) (d : D) (r : Env') (Ex : DX) (Q : Sl → Env' → Prop) : dVar 10 Ex (s0 :: s1 :: s2 :: s3 :: s4 :: s5 :: s6 :: s7 :: s8 :: s9 :: .ext d :: r) Q = Q (.ext d) (s0 :: s1 :: s2 :: s3 :: s4 :: s5 :: s6 :: s7 :: s8 :: s9 :: .ext d :: r) := rfl
theorem dw10 (s0 s1 s2 s3 s4 s5 s6 s7 s8 s9 : Sl) (a : Addr) (ds : List D) (r : Env') (Ex : DX) (Q : Sl → Env' → Prop) : dVar 10 Ex (s0 :: s1 :: s2 :: s3 :: s4 :: s5 :: s6 :: s7 :: s8 :: s9 :: .lst a ds :: r) Q = Q (.al 10 a) (s0 :: s1 :: s2 :: s3 :: s4 :: s5 :: s6 :: s7 :: s8 :: s9 :: .lst a ds :: r) := rfl
theorem dv11 (s0 s1 s2 s3 s4 s5 s6 s7 s8 s9 s10 : Sl) (d : D) (r : Env') (Ex : DX) (Q : Sl → Env' → Prop) : dVar 11 Ex (s0 :: s1 :: s2 :: s3 :: s4 :: s5 :: s6 :: s7 :: s8 :: s9 :: s10 :: .ext d :: r) Q = Q (.ext d) (s0 :: s1 :: s2 :: s3 :: s4 :: s5 :: s6 :: s7 :: s8 :: s9 :: s10 :: .ext d :: r) := rfl
theorem dw11 (s0 s1 s2 s3 s4 s5 s6 s7 s8 s9 s10 : Sl) (a : Addr) (ds : List D) (r : Env') (Ex : DX) (Q : Sl → Env' → Prop) : dVar 11 Ex (s0 :: s1 :: s2 :: s3 :: s4 :: s5 :: s6 :: s7 :: s8 :: s9 :: s10 :: .lst a ds :: r) Q = Q (.al 11 a) (s0 :: s1 :: s2 :: s3 :: s4 :: s5 :: s6 :: s7 :: s8 :: s9 :: s10 :: .lst a ds :: r) := rfl
theorem dv12 (s0 s1 s2 s3 s4 s5 s6 s7 s8 s9 s10 s11 : Sl) (d : D) (r : Env') (Ex : DX) (Q : Sl → Env' → Prop) : dVar 12 Ex (s0 :: s1 :: s2 :: s3 :: s4 :: s5 :: s6 :: s7 :: s8 :: s9 :: s10 :: s11 :: .ext d :: r) Q = Q (.ext d) (s0 :: s1 :: s2 :: s3 :: s4 :: s5 :: s6 :: s7 :: s8 :: s9 :: s10 :: s11 :: .ext d :: r) := rfl
theorem dw12 (s0 s1 s2 s3 s4 s5 s6 s7 s8 s9 s10 s11 : Sl) (a : Addr) (ds : List D) (r : Env') (Ex : DX) (Q : Sl → Env' → Prop) : dVar 12 Ex (s0 :: s1 :: s2 :: s3 :: s4 :: s5 :: s6 :: s7 :: s8 :: s9 :: s10 :: s11 :: .lst a ds :: r) Q = Q (.al 12 a) (s0 :: s1 :: s2 :: s3 :: s4 :: s5 :: s6 :: s7 :: s8 :: s9 :: s10 :: s11 :: .lst a ds :: r) := rfl
theorem dv13 (s0 s1 s2 s3 s4 s5 s6 s7 s8 s9 s10 s11 s12 : Sl) (d : D) (r : Env') (Ex : DX) (Q : Sl → Env' → Prop) : dVar 13 Ex (s0 :: s1 :: s2 :: s3 :: s4 :: s5 :: s6 :: s7 :: s8 :: s9 :: s10 :: s11 :: s12 :: .ext d :: r) Q = Q (.ext d) (s0 :: s1 :: s2 :: s3 :: s4 :: s5 :: s6 :: s7 :: s8 :: s9 :: s10 :: s11 :: s12 :: .ext d :: r) := rfl
theorem dw13 (s0 s1 s2 s3 s4 s5 s6 s7 s8 s9 s10 s11 s12 : Sl) (a : Addr) (ds : List D) (r : Env') (Ex : DX) (Q : Sl → Env' → Prop) : dVar 13 Ex (s0 :: s1 :: s2 :: s3 :: s4 :: s5 :: s6 :: s7 :: s8 :: s9 :: s10 :: s11 :: s12 :: .lst a ds :: r) Q = Q (.al 13 a) (s0 :: s1 :: s2 :: s3 :: s4 :: s5 :: s6 :: s7 :: s8 :: s9 :: s10 :: s11 :: s12 :: .lst a ds :: r) := rfl
theorem dv14 (s0 s1 s2 s3 s4 s5 s6 s7 s8 s9 s10 s11 s12 s13 : Sl) (d : D) (r : Env') (Ex : DX) (Q : Sl → Env' → Prop) : dVar 14 Ex (s0 :: s1 :: s2 :: s3 :: s4 :: s5 :: s6 :: s7 :: s8 :: s9 :: s10 :: s11 :: s12 :: s13 :: .ext d :: r) Q = Q (.ext d) (s0 :: s1 :: s2 :: s3 :: s4 :: s5 :: s6 :: s7 :: s8 :: s9 :: s10 :: s11 :: s12 :: s13 :: .ext d :: r) := rfl
theorem dw14 (s0 s1 s2 s3 s4 s5 s6 s7 s8 s9 s10 s11 s12 s13 : Sl) (a : Addr) (ds : List D) (r : Env') (Ex : DX) (Q : Sl → Env' → Prop) : dVar 14 Ex (s0 :: s1 :: s2 :: s3 :: s4 :: s5 :: s6 :: s7 :: s8 :: s9 :: s10 :: s11 :: s12 :: s13 :: .lst a ds :: r) Q = Q (.al 14 a) (s0 :: s1 :: s2 :: s3 :: s4 :: s5 :: s6 :: s7 :: s8 :: s9 :: s10 :: s11 :: s12 :: s13 :: .lst a ds :: r) := rfl
theorem dv15 (s0 s1 s2 s3 s4 s5 s6 s7 s8 s9 s10 s11 s12 s13 s14 : Sl) (d : D) (r : Env') (Ex : DX) (Q : Sl → Env' → Prop) : dVar 15 Ex (s0 :: s1 :: s2 :: s3 :: s4 :: s5 :: s6 :: s7 :: s8 :: s9 :: s10 :: s11 :: s12 :: s13 :: s14 :: .ext d :: r) Q = Q (.ext d) (s0 :: s1 :: s2 :: s3 :: s4 :: s5 :: s6 :: s7 :: s8 :: s9 :: s10 :: s11 :: s12 :: s13 :: s14 :: .ext d :: r) := rfl
theorem dw15 (s0 s1 s2 s3 s4 s5 s6 s7 s8 s9 s10 s11 s12 s13 s14 : Sl) (a : Addr) (ds : List D) (r : Env') (Ex : DX) (Q : Sl → Env' → Prop) : dVar 15 Ex (s0 :: s1 :: s2 :: s3 :: s4 :: s5 :: s6 :: s7 :: s8 :: s9 :: s10 :: s11 :: s12 :: s13 :: s14 :: .lst a ds :: r) Q = Q (.al 15 a) (s0 :: s1 :: s2 :: s3 :: s4 :: s5 :: s6 :: s7 :: s8 :: s9 :: s10 :: s11 :: s12 :: s13 :: s14 :: .lst a ds :: r) := rfl
theorem dv16 (s0 s1 s2 s3 s4 s5 s6 s7 s8 s9 s10 s11 s12 s13 s14 s15 : Sl) (d : D) (r : Env') (Ex : DX) (Q : Sl → Env' → Prop) : dVar 16 Ex (s0 :: s1 :: s2 :: s3 :: s4 :: s5 :: s6 :: s7 :: s8 :: s9 :: s10 :: s11 :: s12 :: s13 :: s14 :: s15 :: .ext d :: r) Q = Q (.ext d) (s0 :: s1 :: s2 :: s3 :: s4 :: s5 :: s6 :: s7 :: s8 :: s9 :: s10 :: s11 :: s12 :: s13 :: s14 :: s15 :: .ext d :: r) := rfl
theorem dw16 (s0 s1 s2 s3 s4 s5 s6 s7 s8 s9 s10 s11 s12 s13 s14 s15 : Sl) (a : Addr) (ds : List D) (r : Env') (Ex : DX) (Q : Sl → Env' → Prop) : dVar 16 Ex (s0 :: s1 :: s2 :: s3 :: s4 :: s5 :: s6 :: s7 :: s8 :: s9 :: s10 :: s11 :: s12 :: s13 :: s14 :: s15 :: .lst a ds :: r) Q = Q (.al 16 a) (s0 :: s1 :: s2 :: s3 :: s4 :: s5 :: s6 :: s7 :: s8 :: s9 :: s10 :: s11 :: s12 :: s13 :: s14 :: s15 :: .lst a ds :: r) := rfl
theorem dv17 (s0 s1 s2 s3 s4 s5 s6 s7 s8 s9 s10 s11 s12 s13 s14 s15 s16 : Sl) (d : D) (r : Env') (Ex : DX) (Q : Sl → Env' → Prop) : dVar 17 Ex (s0 :: s1 :: s2 :: s3 :: s4 :: s5 :: s6 :: s7 :: s8 :: s9 :: s10 :: s11 :: s12 :: s13 :: s14 :: s15 :: s16 :: .ext d :: r) Q = Q (.ext d) (s0 :: s1 :: s2 :: s3 :: s4 :: s5 :: s6 :: s7 :: s8 :: s9 :: s10 :: s11 :: s12 :: s13 :: s14 :: s15 :: s16 :: .ext d :: r) := rfl
theorem dw17 (s0 s1 s2 s3 s4 s5 s6 s7 s8 s9 s10 s11 s12 s13 s14 s15 s16 : Sl) (a : Addr) (ds : List D) (r : Env') (Ex : DX) (Q : Sl → Env' → Prop) : dVar 17 Ex (s0 :: s1 :: s2 :: s3 :: s4 :: s5 :: s6 :: s7 :: s8 :: s9 :: s10 :: s11 :: s12 :: s13 :: s14 :: s15 :: s16 :: .lst a ds :: r) Q = Q (.al 17 a) (s0 :: s1 :: s2 :: s3 :: s4 :: s5 :: s6 :: s7 :: s8 :: s9 :: s10 :: s11 :: s12 :: s13 :: s14 :: s15 :: s16 :: .lst a ds :: r) := rfl
theorem dv18 (s0 s1 s2 s3 s4 s5 s6 s7 s8 s9 s10 s11 s12 s13 s14 s15 s16 s17 : Sl) (d : D) (r : Env') (Ex : DX) (Q : Sl → Env' → Prop) : dVar 18 Ex (s0 :: s1 :: s2 :: s3 :: s4 :: s5 :: s6 :: s7 :: s8 :: s9 :: s10 :: s11 :: s12 :: s13 :: s14 :: s15 :: s16 :: s17 :: .ext d :: r) Q = Q (.ext d) (s0 :: s1 :: s2 :: s3 :: s4 :: s5 :: s6 :: s7 :: s8 :: s9 :: s10 :: s11 :: s12 :: s13 :: s14 :: s15 :: s16 :: s17 :: .ext d :: r) := rfl
theorem dw18 (s0 s1 s2 s3 s4 s5 s6 s7 s8 s9 s10 s11 s12 s13 s14 s15 s16 s17 : Sl) (a : Addr) (ds : List D) (r : Env') (Ex : DX) (Q : Sl → Env' → Prop) : dVar 18 Ex (s0 :: s1 :: s2 :: s3 :: s4 :: s5 :: s6 :: s7 :: s8 :: s9 :: s10 :: s11 :: s12 :: s13 :: s14 :: s15 :: s16 :: s17 :: .lst a ds :: r) Q = Q (.al 18 a) (s0 :: s1 :: s2 :: s3 :: s4 :: s5 :: s6 :: s7 :: s8 :: s9 :: s10 :: s11 :: s12 :: s13 :: s14 :: s15 :: s16 :: s17 :: .lst a ds :: r) := rfl
theorem dv19 (s0 s1 s2 s3 s4 s5 s6 s7 s8 s9 s10 s11 s12 s13 s14 s15 s16 s17 s18 : Sl) (d : D) (r : Env') (Ex : DX) (Q : Sl → Env' → Prop) : dVar 19 Ex (s0 :: s1 :: s2 :: s3 :: s4 :: s5 :: s6 :: s7 :: s8 :: s9 :: s10 :: s11 :: s12 :: s13 :: s14 :: s15 :: s16 :: s17 :: s18 :: .ext d :: r) Q = Q (.ext d) (s0 :: s1 :: s2 :: s3 :: s4 :: s5 :: s6 :: s7 :: s8 :: s9 :: s10 :: s11 :: s12 :: s13 :: s14 :: s15 :: s16 :: s17 :: s18 :: .ext d :: r) := rfl
theorem dw19 (s0 s1 s2 s3 s4 s5 s6 s7 s8 s9 s10 s11 s12 s13 s14 s15 s16 s17 s18 : Sl) (a : Addr) (ds : List D) (r : Env') (Ex : DX) (Q : Sl → Env' → Prop) : dVar 19 Ex (s0 :: s1 :: s2 :: s3 :: s4 :: s5 :: s6 :: s7 :: s8 :: s9 :: s10 :: s11 :: s12 :: s13 :: s14 :: s15 :: s16 :: s17 :: s18 :: .lst a ds :: r) Q = Q (.al 19 a) (s0 :: s1 :: s2 :: s3 :: s4 :: s5 :: s6 :: s7 :: s8 :: s9 :: s10 :: s11 :: s12 :: s13 :: s14 :: s15 :: s16 :: s17 :: s18 :: .lst a ds :: r) := rfl
end HD
namespace HD
open PySem PyProof.Rows L2
section
variable {G : GG} {N : List Str} {sc : SC} {k : Nat} {a b : Expr} {ta tb : DT} {p p2 pos pos2 : Pos}
def dListZip (ta tb : DT) : DT := fun Ex env Q => ta Ex env fun x env1 => tb Ex env1 fun y env2 => seqD env2 x fun xs _ => seqD env2 y fun ys _ => ∀ a, Q (.lst a ((xs.zip ys).map fun p => D.tk [p.1, p.2])) env2
end
end HD
namespace HD
open PySem PyProof.Rows L2
theorem retD_reg (env : Env') (a : D) (cs : List (Addr × OC)) (q : Sl → Env' → Prop) : retD env (.reg a cs) q = q (.reg a cs) env := rfl
def nestC (a : Addr) (xs : List (Addr × List D)) : List (Addr × OC) := (a, .lst (xs.map fun p => .val (.ref p.1))) :: xs.map fun p => (p.1, .lst p.2)
abbrev nestS (a : Addr) (xs : List (Addr × List D)) : Sl := .reg (.val (.ref a)) (nestC a xs)
section
variable {K : PySem.W.Frag} {e : Ent} {env : Env'} {T : Tmp} {F : Hp} {σ : L2.St} {H : Hp}
theorem Holds.writeR {i : Nat} {sl sl' : Sl} {b : Addr} {o : HO} (h : Holds K e env T F σ H) (hi : env[i]? = some sl) (hb : b ∈ sl.owned) (own : sl'.owned = sl.owned) (ok : ∀ v, SlOk K F H v sl → SlOk K F (upd H b o) v sl') (hu : sl ≠ .un) : Holds K e (env.set i sl') T F σ (upd H b o) := by
  obtain ⟨A, B, e1, e2⟩ := splitE hi
  have own' : ownedE (env.set i sl') = ownedE env := by rw [e1, e2, own]
  have mb : b ∈ ownedE env := mem_ownedE hi hb
  have mm : b ∈ ownedE env ++ ownedT T := List.mem_append_left _ mb
  obtain ⟨Fn, _⟩ := h.ownedH b mm
  refine ⟨fun c o' q => ?_, by rw [List.length_set]; exact h.len, fun j s q => ?_, fun p hp => (h.temps p hp).write fun m => ?_, by rw [own']; exact h.nd, h.s1, fun c o' q n => ?_, by rw [own']; exact h.s3⟩
  · have nb : c ≠ b := fun z => by
      rw [z, Fn] at q
      cases q
    rw [upd_ne nb]
    exact h.fh c o' q
  · rw [List.getElem?_set] at q
    split at q
    · rename_i ij
      subst ij
      split at q
      · cases q
        right
        rcases h.slots i _ hi with z | ⟨v, hv, q1⟩
        · exact absurd z hu
        · exact ⟨v, hv, ok v q1⟩
      · cases q
    · rename_i ij
      rcases h.slots j s q with z | ⟨v, hv, ok'⟩
      · exact .inl z
      · exact .inr ⟨v, hv, ok'.write fun m => ij (owned_two h.nd hi q hb m)⟩
  · exact (List.nodup_append.mp h.nd).2.2 b mb b (List.mem_flatMap.mpr ⟨p, hp, m⟩) rfl
  · have nb : c ≠ b := fun z => by
      subst z
      rcases h.s3 c mm with y | y
      · exact n y
      · rw [q] at y
        cases y
    rw [upd_ne nb]
    exact h.s2 c o' q n
end
section
variable {G : GG} {N : List Str} {sc : SC} {k : Nat} {a b : Expr} {ta tb : DT} {apos cpos spos py pos : Pos} {x : Str}
def dNApp (i : Nat) (tI te : DT) : DT := fun Ex env Q => (∃ a0 xs0, env[i]? = some (nestS a0 xs0)) ∧ tI Ex env fun z env1 => match z with
  | .ext (.int n) => ∃ a1 xs b ds, env1[i]? = some (nestS a1 xs) ∧ atI xs n = some (b, ds) ∧ te Ex env1 fun y env2 => frzD env2 y fun d env3 =>
      ∃ a2 xs' j ds', env3[i]? = some (nestS a2 xs') ∧ xs'[j]? = some (b, ds') ∧ ds'.length < sizeLine ∧ Q (.ext .non) (env3.set i (nestS a2 (xs'.set j (b, ds' ++ [d]))))
  | _ => False
end
section
variable {K : PySem.W.Frag} {e : Ent} {env : Env'} {T : Tmp} {F : Hp} {σ : L2.St} {H H' : Hp}
theorem SlOk.eqOn {v : V} {sl : Sl} (h : ∀ c ∈ sl.owned, H' c = H c) (ok : SlOk K F H v sl) : SlOk K F H' v sl := by
  cases sl with
  | un => trivial
  | ext d => exact ok
  | al i a => exact ok
  | lst a ds =>
    obtain ⟨h1, h2, vs, h3, h4⟩ := ok
    exact ⟨h1, h2, vs, by rw [h a (List.mem_singleton.mpr rfl)]; exact h3, h4⟩
  | ar i a => exact ok
  | reg a cs =>
    obtain ⟨h1, h2, h3⟩ := ok
    refine ⟨h1, h2, fun p hp => ?_⟩
    obtain ⟨n, o, ho, okc⟩ := h3 p hp
    exact ⟨n, o, by rw [h p.1 (List.mem_map.mpr ⟨p, hp, rfl⟩)]; exact ho, okc⟩
theorem Holds.retop {v : V} {sl sl' : Sl} (h : Holds K e env ((v, sl) :: T) F σ H) (hH : ∀ c, c ∉ sl'.owned → H' c = H c) (new : ∀ c ∈ sl'.owned, c ∈ sl.owned ∨ H c = none) (ok : SlOk K F H' v sl') : Holds K e env ((v, sl') :: T) F σ H' := by
  have old := h.ownedH
  have nd := h.nd
  have nd1 : (ownedE env ++ (sl.owned ++ ownedT T)).Nodup := nd
  obtain ⟨n1, n2, n3⟩ := List.nodup_append.mp nd1
  obtain ⟨n4, n5, n6⟩ := List.nodup_append.mp n2
  have outE : ∀ c ∈ ownedE env, c ∉ sl'.owned := fun c hc m => by
    rcases new c m with z | z
    · exact n3 c hc c (List.mem_append_left _ z) rfl
    · obtain ⟨_, o, q⟩ := old c (List.mem_append_left _ hc)
      rw [z] at q
      cases q
  have outT : ∀ c ∈ ownedT T, c ∉ sl'.owned := fun c hc m => by
    rcases new c m with z | z
    · exact n6 c z c hc rfl
    · obtain ⟨_, o, q⟩ := old c (List.mem_append_right _ (List.mem_append_right _ hc))
      rw [z] at q
      cases q
  have hA : ∀ c o, e.H0 c = some o → c ∉ e.A0 → c ∉ sl'.owned := fun c o q n m => by
    rcases new c m with z | z
    · rcases h.s3 c (List.mem_append_right _ (List.mem_append_left _ z)) with y | y
      · exact n y
      · rw [q] at y
        cases y
    · rw [(h.s2 c o q n).1] at z
      cases z
  refine ⟨fun c o q => ?_, h.len, fun j s q => ?_, fun p hp => ?_, ?_, h.s1, fun c o q n => ?_, fun c hc => ?_⟩
  · have nc : c ∉ sl'.owned := fun m => by
      rcases new c m with z | z
      · rw [(old c (List.mem_append_right _ (List.mem_append_left _ z))).1] at q
        cases q
      · rw [h.fh _ _ q] at z
        cases z
    rw [hH c nc]
    exact h.fh c o q
  · rcases h.slots j s q with z | ⟨w, hw, okj⟩
    · exact .inl z
    · exact .inr ⟨w, hw, okj.eqOn fun c hc => hH c (outE c (mem_ownedE q hc))⟩
  · rcases List.mem_cons.mp hp with rfl | hp
    · exact ok
    · exact (h.temps p (List.mem_cons_of_mem _ hp)).eqOn fun c hc => hH c (outT c (List.mem_flatMap.mpr ⟨p, hp, hc⟩))
  · show (ownedE env ++ (sl'.owned ++ ownedT T)).Nodup
    refine List.nodup_append.mpr ⟨n1, List.nodup_append.mpr ⟨ok.ndo, n5, fun c hc d hd z => outT d hd (z ▸ hc)⟩, fun c hc d hd z => ?_⟩
    rcases List.mem_append.mp hd with hd | hd
    · exact outE c hc (z ▸ hd)
    · exact n3 c hc d (List.mem_append_right _ hd) z
  · obtain ⟨q1, q2⟩ := h.s2 c o q n
    exact ⟨by rw [hH c (hA c o q n)]; exact q1, q2⟩
  · have hc' : c ∈ ownedE env ++ (sl'.owned ++ ownedT T) := hc
    rcases List.mem_append.mp hc' with hc | hc
    · exact h.s3 c (List.mem_append_left _ hc)
    · rcases List.mem_append.mp hc with hc | hc
      · rcases new c hc with z | z
        · exact h.s3 c (List.mem_append_right _ (List.mem_append_left _ z))
        · cases q : e.H0 c with
          | none => exact .inr rfl
          | some o =>
            by_cases hA' : c ∈ e.A0
            · exact .inl hA'
            · exact absurd hc (hA c o q hA')
      · exact h.s3 c (List.mem_append_right _ (List.mem_append_right _ hc))
end
def sSeal (i : Nat) (t : DTS) : DTS := fun Ex E env => ∃ a xs, env[i]? = some (nestS a xs) ∧ t Ex E (env.set i (.ext (.lst (xs.map fun p => .lst p.2))))
def emp (bs : List Addr) : List (Addr × List D) := bs.map fun b => (b, [])
def dNest (ti : DTI) (i : Nat) : DT := fun Ex env Q => ti Ex env fun items keep env1 => keep (env1.set i .un) ∧ items.length ≤ sizeLine ∧ ∀ a (bs : List Addr), bs.length = items.length → Q (nestS a (emp bs)) (env1.set i .un)
end HD
namespace HD
open PySem PyProof.Rows L2
theorem nodup_le {α : Type} [DecidableEq α] : ∀ {l m : List α}, l.Nodup → (∀ x ∈ l, x ∈ m) → l.length ≤ m.length
  | [], _, _, _ => Nat.zero_le _
  | x :: l, m, nd, h => by
    obtain ⟨n1, n2⟩ := List.nodup_cons.mp nd
    have hx := h x List.mem_cons_self
    have ih := nodup_le (m := m.erase x) n2 fun y hy => by
      have ne : y ≠ x := fun e => n1 (e ▸ hy)
      exact (List.mem_erase_of_ne ne).mpr (h y (List.mem_cons_of_mem _ hy))
    rw [List.length_erase_of_mem hx] at ih
    have : 0 < m.length := List.length_pos_of_mem hx
    rw [List.length_cons]
    omega
theorem nodup_of_len {α : Type} [DecidableEq α] : ∀ {m l : List α}, l.Nodup → (∀ x, x ∈ l ↔ x ∈ m) → l.length = m.length → m.Nodup
  | [], _, _, _, _ => List.nodup_nil
  | x :: m, l, nd, h, hl => by
    have hx : x ∈ l := (h x).mpr List.mem_cons_self
    have hne : x ∉ m := fun hm => by
      have := nodup_le (m := m) nd fun y hy => by
        rcases List.mem_cons.mp ((h y).mp hy) with rfl | hy
        · exact hm
        · exact hy
      rw [List.length_cons] at hl
      omega
    refine List.nodup_cons.mpr ⟨hne, nodup_of_len (l := l.erase x) (nd.erase x) (fun y => ?_) ?_⟩
    · rw [nd.mem_erase_iff, h y, List.mem_cons]
      constructor
      · rintro ⟨h1, h2 | h2⟩
        · exact absurd h2 h1
        · exact h2
      · intro h1
        exact ⟨fun e => hne (e ▸ h1), .inr h1⟩
    · rw [List.length_erase_of_mem hx, hl]
      rfl
def rLenSet (w : World) : List V → Hp → VK → Prop := fun vs H Q => ∃ (a : Addr) (S : Int → Bool) (n : Nat), vs = [V.ref a] ∧ H a = some (SetO w a S n) ∧ n < 4000 ∧ ∀ l : List Int, l.Nodup → l.length = n → (∀ k : Int, k ∈ l ↔ S k = true) → Q (.int (n : Nat)) H
theorem cr_lenSet {X : Cx} : CallR X (.builtin "len") (rLenSet X.w) := by
  intro pins s σ H vs us Q I r h
  obtain ⟨a, S, n, rfl, ha, hn4, q⟩ := h
  have R := setO_get I ha
  rw [Vals.ref1 r]
  obtain ⟨o, es, ep, t, ho, hex, hd, g, nd, hm, hb, hf, hn, hr, hl⟩ := R
  refine call_len_set ho hex hd hf (by omega) ⟨.int (n : Nat), H, I.tok _, ⟨_, by rw [← hn]⟩, q _ nd (by rw [List.length_map, Array.length_toList]; exact hn) fun k => (hm k).symm⟩
section
variable {G : GG} {N : List Str} {sc : SC} {k : Nat} {a : Expr} {ta : DT} {p p2 pos pos2 : Pos}
def dLenSet (t : DT) : DT := fun Ex env Q => t Ex env fun x env1 => wd env1 x fun d => match d with
  | .tup ds => ∃ ns : List Int, ds = ns.map D.int ∧ ns.length < 3000 ∧ ∀ m : Nat, (m = ns.length ↔ ns.Nodup) → Q (.ext (.int (m : Nat))) env1
  | _ => False
theorem de_lenset (ha : DE G N sc k a ta) (hm : G.mg "len" = none) (hm2 : G.mg "set" = none) (hg : GlS sc "len" := by rfl) (hg2 : GlS sc "set" := by rfl) (n1 : NoStar a [] := by intro _; rfl) (n2 : NoStar (.Call (.Name "set" p2) [a] [] pos2) [] := by intro _; rfl) (hp1 : ∀ env, (backTo pos (starEach [] env)).any (·.1) = false := by intro _; rfl) (hp2 : ∀ env, (backTo pos2 (starEach [] env)).any (·.1) = false := by intro _; rfl) :
    DE G N sc k (.Call (.Name "len" p) [.Call (.Name "set" p2) [a] [] pos2] [] pos) (dLenSet ta) := ⟨fun W => by
  obtain ⟨te, p1, i1⟩ := ha.ex W
  refine ⟨tCB (rLenSet G.w) (tCons (tCB (rSetT G.K G.w) (tCons te tNil)) tNil), fun X S => ?_, fun e Ex hl env T F σ H Q R hh ht hR => ?_⟩
  · have c1 := cr_lenSet (X := X)
    have c2 := cr_setT (X := X) S.calm
    rw [S.w] at c1
    rw [S.w, S.K] at c2
    exact pe_callB c1 (S.gl hg) (by rw [S.mg]; exact hm) (by decide +kernel) (pa_cons (pe_callTy c2 (S.gl hg2) (by rw [S.mg]; exact hm2) (by decide +kernel) (pa_cons (p1 X S) pa_nil (n1 _)) (by decide) (by decide) (n1 _) (hp2 _)) pa_nil (n2 _)) (by decide) (by decide) (n2 _) (hp1 _)
  · refine i1 e Ex hl env T F σ H _ _ hh ht fun v H1 F1 env1 x hh1 q1 => ?_
    obtain ⟨d, rd, q2⟩ := hh1.wd (v := v) (sl := x) List.mem_cons_self q1
    cases d with
    | tup ds =>
      obtain ⟨ns, rfl, hl64, q⟩ := q2
      obtain ⟨c, vs, rfl, e1, _, r1⟩ := rd.tup hh1.fh
      have z := r1.ints
      subst z
      refine ⟨c, ns, rfl, e1, Nat.lt_of_lt_of_le (Nat.add_lt_add_right hl64 1) (by decide), fun p' cn hn hc => ?_⟩
      refine ⟨p', _, cn, rfl, upd_same, by omega, fun l nd hlen hmem => ?_⟩
      have aft := (hh1.pop.done hR).more (o := SetO G.w p' (fun j => decide (j ∈ ns)) cn) hh1.fh hn
      have hmem' : ∀ x, x ∈ l ↔ x ∈ ns := fun x => (hmem x).trans decide_eq_true_iff
      refine aft.int (Grow.loose hh1.fh hn).fh (q cn ⟨fun e => nodup_of_len nd hmem' (by rw [hlen, e]), fun h => ?_⟩)
      rw [← hlen]
      exact Nat.le_antisymm (nodup_le nd fun x hx => (hmem' x).1 hx) (nodup_le h fun x hx => (hmem' x).2 hx)
    | _ => exact q2.elim⟩
end
end HD
namespace HD
open PySem PyProof.Rows L2
def fSum2 : List D → (Sl → Prop) → Prop
  | [.lst ds], Q => ∃ ns : List Int, ds = ns.map D.int ∧ Q (.ext (.int ns.sum))
  | [.tup ds], Q => ∃ ns : List Int, ds = ns.map D.int ∧ Q (.ext (.int ns.sum))
  | _, _ => False
end HD
namespace HD
open PySem PyProof.Rows L2
section
variable {κ β : Type} [DecidableEq κ]
def luK (kvs : List (κ × β)) (k : κ) : Option β := (kvs.find? fun kv => decide (kv.1 = k)).map (·.2)
def ptK (kvs : List (κ × β)) (k : κ) (v : β) : List (κ × β) := if kvs.any (fun kv => decide (kv.1 = k)) then kvs.map (fun kv => if kv.1 = k then (kv.1, v) else kv) else kvs ++ [(k, v)]
theorem luK_cons (p : κ × β) (r : List (κ × β)) (k : κ) : luK (p :: r) k = if p.1 = k then some p.2 else luK r k := by
  unfold luK
  by_cases e : p.1 = k
  · simp [List.find?_cons, e]
  · simp [List.find?_cons, e]
theorem luK_isSome (kvs : List (κ × β)) (k : κ) : (luK kvs k).isSome = decide (k ∈ kvs.map (·.1)) := by
  induction kvs with
  | nil => rfl
  | cons p r ih =>
    rw [luK_cons]
    by_cases e : p.1 = k
    · rw [if_pos e]; simp [e]
    · rw [if_neg e, ih]
      simp [Ne.symm e]
theorem any_keys (kvs : List (κ × β)) (k : κ) : (kvs.any fun kv => decide (kv.1 = k)) = (luK kvs k).isSome := by
  induction kvs with
  | nil => rfl
  | cons p r ih =>
    rw [List.any_cons, luK_cons, ih]
    by_cases e : p.1 = k <;> simp [e]
theorem ptK_new {kvs : List (κ × β)} {k : κ} {v : β} (h : luK kvs k = none) : ptK kvs k v = kvs ++ [(k, v)] := by
  unfold ptK
  rw [any_keys, h]
  rfl
end
section
variable {K : PySem.W.Frag} {F : Hp} {κ : Type} [DecidableEq κ]
def Ents (K : PySem.W.Frag) (F : Hp) (kvs : List (κ × D)) (vs : List (κ × V)) : Prop := vs.map (·.1) = kvs.map (·.1) ∧ Reps K F (kvs.map (·.2)) (vs.map (·.2))
theorem Ents.nil : Ents (κ := κ) K F [] [] := ⟨rfl, rfl⟩
theorem Ents.cons {k : κ} {d : D} {v : V} {kvs : List (κ × D)} {vs : List (κ × V)} (h : Rep K F d v) (t : Ents K F kvs vs) : Ents K F ((k, d) :: kvs) ((k, v) :: vs) :=
  ⟨by rw [List.map_cons, List.map_cons, t.1], .cons h t.2⟩
theorem Ents.inv {p : κ × D} {kvs : List (κ × D)} {vs : List (κ × V)} (h : Ents K F (p :: kvs) vs) : ∃ v r, vs = (p.1, v) :: r ∧ Rep K F p.2 v ∧ Ents K F kvs r := by
  obtain ⟨h1, h2⟩ := h
  cases vs with
  | nil => cases h1
  | cons q r =>
    rw [List.map_cons, List.map_cons] at h1
    injection h1 with e1 e2
    rw [List.map_cons, List.map_cons] at h2
    obtain ⟨v, r', e3, r1, r2⟩ := h2
    injection e3 with e4 e5
    subst e5
    exact ⟨q.2, r, by rw [← e1], by rw [e4]; exact r1, e2, r2⟩
theorem Ents.emp {vs : List (κ × V)} (h : Ents K F ([] : List (κ × D)) vs) : vs = [] := List.map_eq_nil_iff.1 h.1
theorem Ents.length {kvs : List (κ × D)} {vs : List (κ × V)} (h : Ents K F kvs vs) : kvs.length = vs.length := by
  have := congrArg List.length h.1
  rw [List.length_map, List.length_map] at this
  exact this.symm
theorem Ents.lu (k : κ) : ∀ {kvs : List (κ × D)} {vs : List (κ × V)}, Ents K F kvs vs → (∀ d, luK kvs k = some d → ∃ v, luK vs k = some v ∧ Rep K F d v) ∧ (luK vs k).isSome = (luK kvs k).isSome
  | [], vs, h => by
    have e := h.emp
    subst e
    exact ⟨fun d z => (by cases z), rfl⟩
  | p :: kvs, vs, h => by
    obtain ⟨v, r, rfl, r1, r2⟩ := h.inv
    obtain ⟨i1, i2⟩ := Ents.lu k r2
    rw [luK_cons, luK_cons]
    show (∀ d, _ = some d → ∃ v', (if p.1 = k then some v else luK r k) = some v' ∧ _) ∧ (if p.1 = k then some v else luK r k).isSome = _
    by_cases e : p.1 = k
    · rw [if_pos e, if_pos e]
      exact ⟨fun d z => by cases z; exact ⟨v, rfl, r1⟩, rfl⟩
    · rw [if_neg e, if_neg e]
      exact ⟨i1, i2⟩
theorem Ents.app : ∀ {kvs kvs' : List (κ × D)} {vs vs' : List (κ × V)}, Ents K F kvs vs → Ents K F kvs' vs' → Ents K F (kvs ++ kvs') (vs ++ vs') := fun h g =>
  ⟨by rw [List.map_append, List.map_append, h.1, g.1], by rw [List.map_append, List.map_append]; exact h.2.append g.2⟩
theorem Ents.repl (k : κ) {d : D} {v : V} (hd : Rep K F d v) : ∀ {kvs : List (κ × D)} {vs : List (κ × V)}, Ents K F kvs vs → Ents K F (kvs.map fun kv => if kv.1 = k then (kv.1, d) else kv) (vs.map fun kv => if kv.1 = k then (kv.1, v) else kv)
  | [], vs, h => by
    have e := h.emp
    subst e
    exact .nil
  | p :: kvs, vs, h => by
    obtain ⟨u, r, rfl, r1, r2⟩ := h.inv
    have i := Ents.repl k hd r2
    rw [List.map_cons, List.map_cons]
    by_cases e : p.1 = k
    · rw [if_pos e, if_pos e]
      exact .cons hd i
    · rw [if_neg e, if_neg e]
      exact .cons r1 i
theorem Ents.put (k : κ) {d : D} {v : V} (hd : Rep K F d v) {kvs : List (κ × D)} {vs : List (κ × V)} (h : Ents K F kvs vs) : Ents K F (ptK kvs k d) (ptK vs k v) := by
  unfold ptK
  rw [any_keys, any_keys, (h.lu k).2]
  cases (luK kvs k).isSome with
  | true => exact h.repl k hd
  | false => exact h.app (.cons hd .nil)
end
abbrev dkS (a : Addr) (kvs : List (Key × D)) : Sl := .reg (.val (.ref a)) [(a, .dk kvs)]
abbrev dkD (kvs : List (Key × D)) : D := .dk (kvs.map (·.1)) (kvs.map (·.2))
def kD : Key → D
  | .inl i => .int i
  | .inr x => .str x
theorem kD_rep {K : PySem.W.Frag} {F : Hp} (k : Key) : Rep K F (kD k) (kV k) := by
  cases k <;> rfl
theorem kD_of {K : PySem.W.Frag} {F : Hp} {k : Key} {v : V} (h : Rep K F (kD k) v) : v = kV k := by
  cases k <;> exact h
theorem dk_ok {K : PySem.W.Frag} {F H : Hp} {v : V} {a : Addr} {kvs : List (Key × D)} : SlOk K F H v (dkS a kvs) ↔ v = .ref a ∧ F a = none ∧ ∃ vs, H a = some (.dK vs) ∧ Ents K F kvs vs := by
  constructor
  · rintro ⟨h1, _, h3⟩
    obtain ⟨n, o, ho, vs, rfl, r1, r2⟩ := h3 (a, .dk kvs) List.mem_cons_self
    exact ⟨h1, n, vs, ho, r1, r2⟩
  · rintro ⟨h1, h2, vs, h3, h4, h5⟩
    refine ⟨h1, List.pairwise_singleton _ _, fun p hp => ?_⟩
    rw [List.mem_singleton.mp hp]
    exact ⟨h2, _, h3, vs, rfl, h4, h5⟩
def dkAt (env : Env') (i : Nat) (kvs : List (Key × D)) : Prop := (∃ a, env[i]? = some (dkS a kvs)) ∨ env[i]? = some (.ext (dkD kvs))
theorem Holds.dkAt {K : PySem.W.Frag} {e : Ent} {env : Env'} {T : Tmp} {F : Hp} {σ : L2.St} {H : Hp} {i : Nat} {kvs : List (Key × D)} (h : Holds K e env T F σ H) (w : HD.dkAt env i kvs) : ∃ a vs, σ[i]? = some (some (.ref a)) ∧ Rd H a (.dK vs) ∧ Ents K F kvs vs := by
  rcases w with ⟨a, w⟩ | w
  · rcases h.slots i _ w with z | ⟨v, hv, ok⟩
    · cases z
    obtain ⟨rfl, _, vs, h1, h2⟩ := dk_ok.1 ok
    exact ⟨a, vs, hv, .inl h1, h2⟩
  · rcases h.slots i _ w with z | ⟨v, hv, ok⟩
    · cases z
    obtain ⟨a, od, vs, rfl, h1, h2, h3⟩ := ok
    exact ⟨a, vs, hv, .inr ⟨od, h.fh _ _ h1⟩, h2, h3⟩
theorem rd_dget {H : Hp} {a : Addr} {vs : List (Key × V)} (h : Rd H a (.dK vs)) (k : Key) : DGet H a (kV k) (luK vs k) := .inl ⟨vs, k, h, rfl, rfl⟩
section
variable {G : GG} {N : List Str} {sc : SC} {k : Nat} {a b : Expr} {ta tb : DT} {py pos spos apos cpos : Pos} {x : Str}
theorem Sit.u1 {W : WX} {X : Cx} (S : Sit G N sc W k X) : X.A.units + 1 < cLine := by have := S.units; omega
def dDIn (neg : Bool) (i : Nat) (t : DT) : DT := fun Ex env Q => t Ex env fun x env1 => ∃ key kvs, x = .ext (kD key) ∧ dkAt env1 i kvs ∧ Q (.ext (.bl (neg != (luK kvs key).isSome))) env1
theorem im_dnotin {K : PySem.W.Frag} {W : WX} {te : TE} {t : DT} (i : Nat) (i1 : Im K W te t) : Im K W (tDNotIn te (tVar i)) (dDIn true i t) := fun e Ex hl env T F σ H Q R hh ht hR => by
  refine i1 e Ex hl env T F σ H _ _ hh ht fun u H1 F1 env1 z hh1 q1 => ?_
  obtain ⟨key, kvs, rfl, w, q⟩ := q1
  have eu : u = kV key := kD_of (hh1.temps (u, .ext (kD key)) List.mem_cons_self)
  subst eu
  obtain ⟨ad, vs, hs, rd, en⟩ := hh1.dkAt w
  refine ⟨.ref ad, hs, ad, _, rfl, rd_dget rd key, ?_⟩
  rw [(en.lu key).2]
  have hv := hR (.bl (true != (luK kvs key).isSome)) H1 F1 env1 (.ext (.bl (true != (luK kvs key).isSome))) (hh1.pop.pushE rfl) q
  rw [Bool.true_bne] at hv
  exact hv
theorem dt_dnotin (i : Nat) (h : DE G N sc k a ta) (hv : VisV N sc i x := by exact ⟨rfl, by first | exact Or.inl rfl | exact Or.inr (Or.inl rfl) | exact Or.inr (Or.inr rfl), by decide, by decide⟩) : DTe G N sc k (.Compare a [.NotIn] [.Name x py] pos) (dTest (dDIn true i ta)) := ⟨fun W => by
  obtain ⟨te, p1, i1⟩ := h.ex W
  exact ⟨tB (tDNotIn te (tVar i)), fun X S => pt_cmp (pc_dnotin S.u1 (p1 X S) (pe_var (by rw [S.nms]; exact hv.1) (S.vis hv.2.1) hv.2.2.1 hv.2.2.2)) rfl, imT_of (im_dnotin i i1) fun _ _ _ h => h⟩⟩
def dDGet (i : Nat) (t : DT) : DT := fun Ex env Q => (∃ kvs, dkAt env i kvs) ∧ t Ex env fun x env1 => ∃ key kvs d, x = .ext (kD key) ∧ dkAt env1 i kvs ∧ luK kvs key = some d ∧ Q (.ext d) env1
theorem de_dget (i : Nat) (h : DE G N sc k a ta) (hs : NoSl a := by intro _ _; rfl) (hv : VisV N sc i x := by exact ⟨rfl, by first | exact Or.inl rfl | exact Or.inr (Or.inl rfl) | exact Or.inr (Or.inr rfl), by decide, by decide⟩) : DE G N sc k (.Subscript (.Name x py) a pos) (dDGet i ta) := ⟨fun W => by
  obtain ⟨te, p1, i1⟩ := h.ex W
  refine ⟨tDGet (tVar i) te, fun X S => pe_dget S.u1 (pe_var (by rw [S.nms]; exact hv.1) (S.vis hv.2.1) hv.2.2.1 hv.2.2.2) (p1 X S) hs, fun e Ex hl env T F σ H Q R hh ht hR => ?_⟩
  obtain ⟨⟨kvs0, w0⟩, ht⟩ := ht
  obtain ⟨a0, _, hs0, _⟩ := hh.dkAt w0
  refine ⟨_, hs0, ?_⟩
  refine i1 e Ex hl env T F σ H _ _ hh ht fun u H1 F1 env1 z hh1 q1 => ?_
  obtain ⟨key, kvs, d, rfl, w, hd, q⟩ := q1
  have eu : u = kV key := kD_of (hh1.temps (u, .ext (kD key)) List.mem_cons_self)
  subst eu
  obtain ⟨ad, vs, hs1, rd, en⟩ := hh1.dkAt w
  rw [hs0] at hs1
  cases hs1
  obtain ⟨v, hv', rv⟩ := (en.lu key).1 d hd
  exact ⟨a0, v, rfl, by rw [← hv']; exact rd_dget rd key, hR v H1 F1 env1 (.ext d) (hh1.pop.pushE rv) q⟩⟩
def sPutD (i : Nat) (tk tv : DT) : DTS := fun Ex E env => tv Ex env fun y env0 => frzD env0 y fun d env1 => (∃ a kvs, env1[i]? = some (dkS a kvs)) ∧ tk Ex env1 fun x env2 => ∃ a kvs key, env2[i]? = some (dkS a kvs) ∧ x = .ext (kD key) ∧ kvs.length < sizeLine ∧ E.nx (env2.set i (dkS a (ptK kvs key d)))
theorem Holds.dkW {K : PySem.W.Frag} {e : Ent} {env : Env'} {T : Tmp} {F : Hp} {σ : L2.St} {H : Hp} {i : Nat} {ad : Addr} {kvs kvs' : List (Key × D)} {vs' : List (Key × V)} (h : Holds K e env T F σ H) (hi : env[i]? = some (dkS ad kvs)) (hr : Ents K F kvs' vs') : Holds K e (env.set i (dkS ad kvs')) T F σ (upd H ad (.dK vs')) := by
  refine h.writeR hi (List.mem_singleton.mpr rfl) rfl (fun v ok => ?_) (fun z => by cases z)
  obtain ⟨h1, h2, _⟩ := dk_ok.1 ok
  exact dk_ok.2 ⟨h1, h2, vs', upd_same, hr⟩
theorem ds_dput (i : Nat) (hi : DE G N sc k a ta) (hb : DE G N sc k b tb) (hsw : ∀ env, swapsWith b (some (.Subscript (.Name x py) a spos)) pos.line env = pure false := by intro _; rfl) (hv : VisV N sc i x := by exact ⟨rfl, by first | exact Or.inl rfl | exact Or.inr (Or.inl rfl) | exact Or.inr (Or.inr rfl), by decide, by decide⟩) :
    DS G N sc k (.Assign [.Subscript (.Name x py) a spos] b pos) (sPutD i ta tb) := ⟨fun W => by
  obtain ⟨te, p1, i1⟩ := hi.ex W
  obtain ⟨tf, p2, i2⟩ := hb.ex W
  refine ⟨L2.sDPut (tVar i) te tf, fun X S => ps_dput S.u1 (pe_var (by rw [S.nms]; exact hv.1) (S.vis hv.2.1) hv.2.2.1 hv.2.2.2) (p1 X S) (p2 X S) (hsw _), fun e Ex hl env F σ H E Dn hh ht ok => ?_⟩
  refine i2 e Ex hl env [] F σ H _ _ hh ht fun v H1 F1 env1 y hh1 q1 => ?_
  obtain ⟨d, F2, env2, _, hh2, rd, ⟨a0, kvs0, w0⟩, q2⟩ := hh1.frz1 q1
  obtain ⟨a0', _, hs0, _⟩ := hh2.dkAt (.inl ⟨a0, w0⟩)
  refine ⟨_, hs0, ?_⟩
  refine i1 e Ex hl env2 _ F2 σ H1 _ _ (hh2.pushE rd) q2 fun u H3 F3 env3 z hh3 q3 => ?_
  obtain ⟨a1, kvs, key, w1, rfl, hz, q⟩ := q3
  have eu : u = kV key := kD_of (hh3.temps (u, .ext (kD key)) List.mem_cons_self)
  subst eu
  have rd3 : Rep G.K F3 d v := hh3.temps (v, .ext d) (List.mem_cons_of_mem _ List.mem_cons_self)
  rcases hh3.slots i _ w1 with z | ⟨v1, hv1, ok1⟩
  · cases z
  obtain ⟨rfl, _, vs, hH, en⟩ := dk_ok.1 ok1
  rw [hs0] at hv1
  cases hv1
  exact ⟨a0', _, rfl, DPut.k hH (by rw [← en.length]; exact hz), ok.nx _ F3 σ _ ((hh3.bare.dkW w1 (en.put key rd3))) q⟩⟩
def dDNew : DT := fun _ env Q => ∀ a, Q (dkS a []) env
def dDOne (tk tv : DT) : DT := fun Ex env Q => tk Ex env fun x env1 => tv Ex env1 fun y env2 => ∃ key, x = .ext (kD key) ∧ frzD env2 y fun d env3 => ∀ a, Q (dkS a [(key, d)]) env3
theorem de_done (hi : DE G N sc k a ta) (hb : DE G N sc k b tb) : DE G N sc k (.Dict [some a] [b] pos) (dDOne ta tb) := ⟨fun W => by
  obtain ⟨te, p1, i1⟩ := hi.ex W
  obtain ⟨tf, p2, i2⟩ := hb.ex W
  refine ⟨tDisp [(te, tf)], fun X S => pe_disp (pps_cons (p1 X S) (p2 X S) pps_nil) rfl rfl (by simp) (by show 1 ≤ 15; decide), fun e Ex hl env T F σ H Q R hh ht hR p hp => ?_⟩
  have h0 : Holds G.K e env ((V.ref p, dkS p []) :: T) F σ (upd H p (.dK [])) := hh.push (Grow.loose hh.fh hp) (dk_ok.2 ⟨rfl, hh.fh.free hp, [], upd_same, .nil⟩) fun c hc => by
    rw [List.mem_singleton.mp hc]
    exact hp
  refine i1 e Ex hl env _ F σ _ _ _ h0 ht fun u H1 F1 env1 z hh1 q1 => ?_
  refine i2 e Ex hl env1 _ F1 σ H1 _ _ hh1 q1 fun w H2 F2 env2 y hh2 q2 => ?_
  obtain ⟨key, rfl, q2⟩ := q2
  obtain ⟨d, F3, env3, _, hh3, rd, q3⟩ := hh2.frz1 q2
  have eu : u = kV key := kD_of (hh3.temps (u, .ext (kD key)) List.mem_cons_self)
  subst eu
  have hh4 := hh3.pop
  obtain ⟨_, _, vs, hH, en⟩ := dk_ok.1 (hh4.temps (V.ref p, dkS p []) List.mem_cons_self)
  have ev := en.emp
  subst ev
  refine ⟨hH, [(key, w)], rfl, (by show 1 ≤ 15; decide), hR _ _ F3 env3 (dkS p [(key, d)]) (hh4.retop (fun c hc => ?_) (fun c hc => .inl hc) (dk_ok.2 ⟨rfl, ?_, [(key, w)], upd_same, .cons rd .nil⟩)) (q3 p)⟩
  · exact upd_ne fun z => hc (by rw [z]; exact List.mem_singleton.mpr rfl)
  · exact (hh4.ownedH p (List.mem_append_right _ (List.mem_append_left _ (List.mem_singleton.mpr rfl)))).1⟩
end
section
variable {K : PySem.W.Frag} {e : Ent} {env : Env'} {T : Tmp} {F : Hp} {σ : L2.St} {H : Hp}
theorem Holds.lock {i : Nat} {a : Addr} {c : OC} {o o' : HO} {d : D} (h : Holds K e env T F σ H) (hi : env[i]? = some (.reg (.val (.ref a)) [(a, c)])) (hr : Rep K (upd F a o') d (.ref a)) : Holds K e (env.set i (.ext d)) T (upd F a o') σ (upd H a o') ∧ Same F (upd F a o') := by
  have ma : a ∈ ownedE env := mem_ownedE hi (List.mem_singleton.mpr rfl)
  have mm : a ∈ ownedE env ++ ownedT T := List.mem_append_left _ ma
  obtain ⟨Fn, _⟩ := h.ownedH a mm
  have sm : Same F (upd F a o') := fun b q hq => by
    rw [upd_ne (ne_of_none hq Fn)]
    exact hq
  have keep : ∀ {w : V} {sl : Sl}, a ∉ sl.owned → SlOk K F H w sl → SlOk K (upd F a o') (upd H a o') w sl := fun {w sl} n ok => by
    cases sl with
    | un => trivial
    | ext d => exact Rep.same sm ok
    | al j b => exact ok
    | lst b ds =>
      obtain ⟨rfl, q, us, hv, hr⟩ := ok
      have nb : b ≠ a := fun z => n (by rw [z]; exact List.mem_singleton.mpr rfl)
      exact ⟨rfl, by rw [upd_ne nb]; exact q, us, by rw [upd_ne nb]; exact hv, hr.same sm⟩
    | ar j b => exact ok
    | reg b cs =>
      obtain ⟨rd, nd, hc⟩ := ok
      refine ⟨Rep.same sm rd, nd, fun p hp => ?_⟩
      obtain ⟨q, o1, ho, okc⟩ := hc p hp
      have nb : p.1 ≠ a := fun z => n (by rw [← z]; exact List.mem_map.mpr ⟨p, hp, rfl⟩)
      exact ⟨by rw [upd_ne nb]; exact q, o1, by rw [upd_ne nb]; exact ho, okc.same sm⟩
  obtain ⟨A, B, e1, e2⟩ := splitE hi
  have sub : (ownedE (env.set i (.ext d)) ++ ownedT T).Sublist (ownedE env ++ ownedT T) := by
    rw [e2, e1]
    exact ((List.Sublist.refl _).append (List.sublist_append_right _ _)).append (List.Sublist.refl _)
  refine ⟨⟨fun b q hq => ?_, by rw [List.length_set]; exact h.len, fun j sl q => ?_, fun p hp => keep (fun m => ?_) (h.temps p hp), h.nd.sublist sub, h.s1.trans sm, fun b q hq n => ?_, fun b hb => h.s3 b (sub.subset hb)⟩, sm⟩
  · by_cases nb : b = a
    · subst nb
      rw [upd_same] at hq ⊢
      exact hq
    · rw [upd_ne nb] at hq ⊢
      exact h.fh b q hq
  · rw [List.getElem?_set] at q
    split at q
    · rename_i ij
      subst ij
      split at q
      · cases q
        right
        rcases h.slots i _ hi with z | ⟨v, hv, ok⟩
        · cases z
        obtain ⟨rfl, _⟩ := ok
        exact ⟨_, hv, hr⟩
      · cases q
    · rename_i ij
      rcases h.slots j sl q with z | ⟨v, hv, ok⟩
      · exact .inl z
      · exact .inr ⟨v, hv, keep (fun m => ij (owned_two h.nd hi q (List.mem_singleton.mpr rfl) m)) ok⟩
  · exact (List.nodup_append.mp h.nd).2.2 a ma a (List.mem_flatMap.mpr ⟨p, hp, m⟩) rfl
  · have nb : b ≠ a := fun z => by
      subst z
      rcases h.s3 b mm with y | y
      · exact n y
      · rw [hq] at y
        cases y
    rw [upd_ne nb, upd_ne nb]
    exact h.s2 b q hq n
end
def tKnown (t : TS) : TS := fun D σ H => ∃ d u, H d = some u ∧ Mut (some u) ∧ ∀ od, t D σ (upd H d (.frz od u))
theorem ps_known {X : Cx} {st : Stmt} {t : TS} (h : PS X st t) : PS X st (tKnown t) := by
  refine ⟨fun pins s σ H D I hw => ?_⟩
  obtain ⟨d, u, hd, mu, q⟩ := hw
  obtain ⟨od, I1⟩ := I.lock hd mu
  exact h.run pins s σ _ D I1 (q od)
def sSealD (i : Nat) (t : DTS) : DTS := fun Ex E env => ∃ a kvs, env[i]? = some (dkS a kvs) ∧ t Ex E (env.set i (.ext (dkD kvs)))
theorem ds_sealD {G : GG} {N : List Str} {sc : SC} {k : Nat} {st : Stmt} {t : DTS} (i : Nat) (h : DS G N sc k st t) : DS G N sc k st (sSealD i t) := ⟨fun W => by
  obtain ⟨ts, p1, i1⟩ := h.ex W
  refine ⟨tKnown ts, fun X S => ps_known (p1 X S), fun e Ex hl env F σ H E Dn hh ht ok => ?_⟩
  obtain ⟨a, kvs, hi, ht⟩ := ht
  rcases hh.slots i _ hi with z | ⟨v, hv, okv⟩
  · cases z
  obtain ⟨rfl, hF, vs, hH, en⟩ := dk_ok.1 okv
  refine ⟨a, .dK vs, hH, True.intro, fun od => ?_⟩
  have sm : Same F (upd F a (.frz od (.dK vs))) := fun b q hq => by
    rw [upd_ne (ne_of_none hq hF)]
    exact hq
  exact i1 e Ex hl _ _ σ _ E Dn (hh.lock (o := .dK vs) (o' := .frz od (.dK vs)) (d := dkD kvs) hi ⟨a, od, vs, rfl, upd_same, en.1, en.2.same sm⟩).1 ht ok⟩
def keyS (x : Sl) (q : List Key → Prop) : Prop := match x with
  | .ext (.dk ks _) => q ks
  | _ => False
theorem keyS_dk (ks : List Key) (ds : List D) (q : List Key → Prop) : keyS (.ext (.dk ks ds)) q = q ks := rfl
def dKeys (t : DT) : DTI := fun Ex env Q => t Ex env fun x env1 => keyS x fun ks => Q (ks.map kD) (fun _ => True) env1
theorem di_keys {G : GG} {N : List Str} {sc : SC} {k : Nat} {tg a : Expr} {ta : DT} (h : DE G N sc k a ta) : DI G N sc k tg a (dKeys ta) := ⟨fun W => by
  obtain ⟨te, p1, i1⟩ := h.ex W
  refine ⟨iKeys te, fun X S => pi_keys (p1 X S), fun e Ex hl env T F σ H Q R hh ht hR => ?_⟩
  refine i1 e Ex hl env T F σ H _ _ hh ht fun v H1 F1 env1 x hh1 q1 => ?_
  cases x with
  | ext d =>
    cases d with
    | dk ks ds =>
      obtain ⟨ad, od, vs, ev, hF, hk, hr⟩ := hh1.temps (v, .ext (.dk ks ds)) List.mem_cons_self
      refine ⟨ad, od, ev, .inl ⟨vs, hh1.fh _ _ hF, hR _ H1 F1 env1 _ _ hh1.pop ?_ q1⟩⟩
      intro e' env' T' F' σ' H' j hh' sm _
      have hH : H' ad = some (.frz od (.dK vs)) := hh'.fh _ _ (sm _ _ hF)
      have hl' : vs.length = ks.length := by rw [← hk, List.length_map]
      refine ⟨fun hj => ⟨hH, by rw [hl', ← hj, List.length_map]; exact Nat.le_refl _⟩, fun d hd => ?_⟩
      rw [List.getElem?_map] at hd
      cases hkj : ks[j]? with
      | none => rw [hkj] at hd; cases hd
      | some key =>
        rw [hkj] at hd
        cases hd
        have hj : j < ks.length := (List.getElem?_eq_some_iff.1 hkj).1
        refine ⟨⟨hH, by omega⟩, fun x2 H2 hy => ?_⟩
        obtain ⟨rfl, k2, v2, hkv, rfl⟩ := hy
        have : ks[j]? = some k2 := by rw [← hk, List.getElem?_map, hkv]; rfl
        rw [hkj] at this
        cases this
        exact ⟨F', Grow.refl hh'.fh, kD_rep key⟩
    | _ => exact q1.elim
  | _ => exact q1.elim⟩
end HD
namespace PySem.AutoSeq1
theorem ext_tup (l : Addr) (xs : Array Value) (n : Nat) (b : Addr) (ys : Array Value) (m : Nat) (sl : Array (Option Value)) (h0 : ¬(!xs.isEmpty && Builtin.List.listTooLong (xs.size + ys.size)) = true) (h1 : xs.size ≤ sizeLine) (h2 : xs.size + ys.size ≤ sizeLine + 1) :
    Meets (Builtin.«list.extend» ⟨[.ref l, .ref b], []⟩) (fun _ R s => s.heap.get? l = some { cls := .type "list", dict := none, data := .seq xs n, slots := #[] } ∧ s.heap.get? b = some { cls := .type "tuple", dict := none, data := .seq ys m, slots := sl } ∧ R (.ok (.ret Value.none)) { s with heap := s.heap.update l (Obj.mapSeq fun x => x ++ ys), toks := s.toks }) :=
  .of_wp fun prog w A R s h => by
    obtain ⟨hp, gs, dr, tk, os⟩ := s
    obtain ⟨hl, hb, h⟩ := h
    have g1 := idx_int
    have g2 := sub_tuple_tuple
    have g3 := sub_list_list
    have g4 := sub_tuple_list
    have g5 := sub_list_tuple
    have hz : (xs ++ ys).size ≤ sizeLine + 1 := by
      rw [Array.size_append]
      exact h2
    wp_walk using (wpAny_updateSeq hl rfl (hz := h1) (_hz' := hz)), wpAny_loadPart' hl, wpAny_loadPart' hb
    exact ⟨_, rfl, h⟩
end PySem.AutoSeq1
namespace HD
open PySem PyProof.Rows L2
def rExtT (K : PySem.W.Frag) : V → List V → Hp → VK → Prop := fun x vs H Q => ∃ l b xs zs, x = .ref l ∧ vs = [.ref b] ∧ H l = some (.lst xs) ∧ TupD K H b zs ∧ xs.length + zs.length ≤ sizeLine ∧ Q .non (upd H l (.lst (xs ++ zs)))
theorem mt_extT {X : Cx} : MtM X "list.extend" (rExtT X.K) := by
  intro pins s σ H x vs v us Q I rx rv h
  obtain ⟨l, b, xs, zs, rfl, rfl, hH, hB, hz, q⟩ := h
  cases rx
  obtain ⟨u, rfl, ru⟩ := rv.one
  cases ru
  obtain ⟨z, its, n, r, hl, e⟩ := I.lstM hH
  obtain ⟨its2, r2, ⟨ob, e2, ec, m, ed⟩, z2⟩ := I.tuple hB.sq
  obtain ⟨ob', e3, en⟩ := hB.noDict I
  rw [e2] at e3
  cases e3
  have hl2 := r2.length
  have hsz : its.toArray.size + its2.toArray.size ≤ sizeLine := by rw [List.size_toArray, List.size_toArray]; omega
  have hlong : ¬ (!its.toArray.isEmpty && Builtin.List.listTooLong (its.toArray.size + its2.toArray.size)) = true := extend_door hsz
  obtain ⟨cls, dict, data, slots⟩ := ob
  cases ec
  cases ed
  cases en
  refine call_meets F.slot_list_extend ⟨_, e, rfl⟩ F.entry_list_extend (F.args_list_extend_2 _ _)
    (AutoSeq1.ext_tup l its.toArray n b its2.toArray m slots hlong (by rw [List.size_toArray]; omega) (by omega)) ⟨e, e2, ?_⟩
  refine ⟨.non, _, I.lset (its' := its ++ its2) hH e (by simp) (r.append r2) ?_, rfl, q⟩
  rw [List.length_append]
  omega
section
variable {G : GG} {N : List Str} {sc : SC} {k : Nat} {b : Expr} {tb : DT} {apos cpos py : Pos} {x : Str}
def dExtT (i : Nat) (t : DT) : DT := fun Ex env Q => (∃ a ds, env[i]? = some (.lst a ds)) ∧ t Ex env fun x env1 => ∃ a ds es, x = .ext (.tup es) ∧ env1[i]? = some (.lst a ds) ∧ ds.length + es.length ≤ sizeLine ∧ Q (.ext .non) (env1.set i (.lst a (ds ++ es)))
theorem de_extT (i : Nat) (hb : DE G N sc k b tb) (hw : FewArgs (.Name x py) "extend" b [] cpos := by intro _; exact ⟨rfl, rfl, rfl, rfl⟩) (hv : VisV N sc i x := by exact ⟨rfl, by first | exact Or.inl rfl | exact Or.inr (Or.inl rfl) | exact Or.inr (Or.inr rfl), by decide, by decide⟩) (hline : (apos.endLine == cpos.line) = true := by rfl) :
    DE G N sc k (.Call (.Attribute (.Name x py) "extend" apos) [b] [] cpos) (dExtT i tb) := ⟨fun W => by
  obtain ⟨tf, p2, i2⟩ := hb.ex W
  refine ⟨tBM G.K "list" (rExtT G.K) (tVar i) (tCons tf tNil), fun X S => ?_, fun e Ex hl env T F σ H Q R hh ht hR => ?_⟩
  · obtain ⟨hbase, hfew, hs, hplain⟩ := hw X.env
    rw [← S.K]
    exact pe_bm PySem.F.plainAttrs_list PySem.F.slot_list_extend PySem.F.type_list_extend mt_extT (pe_var (by rw [S.nms]; exact hv.1) (S.vis hv.2.1) hv.2.2.1 hv.2.2.2) (pa_cons (p2 X S) pa_nil hs) hbase hfew hline hs hplain
  · obtain ⟨⟨c, ds0, hc⟩, ht⟩ := ht
    rcases hh.slots i _ hc with z | ⟨v0, hv0, e0, _, us0, hu0, _⟩
    · cases z
    subst e0
    refine ⟨_, hv0, .inl ⟨rfl, us0, SqL.of hu0⟩, ?_⟩
    refine i2 e Ex hl env T F σ H _ _ hh ht fun u H2 F2 env2 y hh2 q2 => ?_
    obtain ⟨c1, ds, es, rfl, hc1, hz, q⟩ := q2
    rcases hh2.slots i _ hc1 with z | ⟨v1, hv1, e1, _, us, hu, rr⟩
    · cases z
    subst e1
    rw [hv0] at hv1
    cases hv1
    obtain ⟨ct, zs, eu, ht, rt⟩ := hh2.temps (u, .ext (.tup es)) List.mem_cons_self
    subst eu
    show rExtT G.K (.ref c) [.ref ct] H2 R
    exact ⟨c, ct, us, zs, rfl, rfl, hu, TupD.same hh2.fh ht, by rw [← rr.length, ← rt.length]; exact hz, hR .non _ F2 _ (.ext .non) ((hh2.pop.write hc1 (rr.append rt)).pushE rfl) q⟩⟩
end
theorem seq_putD (i : Nat) (tk tv : DT) (u : DTS) (Ex : DX) (E : DEnds) (env : Env') : sSeq (sPutD i tk tv) u Ex E env = sPutD i tk tv Ex { E with nx := fun env1 => u Ex E env1 } env := rfl
theorem seq_sealD (i : Nat) (t u : DTS) (Ex : DX) (E : DEnds) (env : Env') : sSeq (sSealD i t) u Ex E env = sSealD i t Ex { E with nx := fun env1 => u Ex E env1 } env := rfl
end HD
namespace LS
open PySem L2 HD PM
def D.svS : Nat → D → Bool
  | _, .non => true
  | _, .bl _ => true
  | _, .int i => decide (i.natAbs < 10 ^ 60)
  | _, .str x => x.cps.toList.all fun c => decide (c < 16 ^ 8)
  | k + 1, .lst ds => ds.all (D.svS k)
  | k + 1, .tup ds => ds.all (D.svS k)
  | _, _ => false
def D.svQ (k : Nat) (d : D) : Prop := d.noVal = true ∧ d.py.showable = true ∧ d.py.hasDict = false ∧ d.py.depth ≤ k ∧ d.py.leavesShort 64 = true
theorem svqs_of {k : Nat} {ds : List D} (h : ∀ d ∈ ds, D.svQ k d) : D.noVals ds = true ∧ PyData.showableAll (D.pys ds) = true ∧ PyData.hasDictAll (D.pys ds) = false ∧ PyData.depthAll (D.pys ds) ≤ k ∧ PyData.leavesShortAll 64 (D.pys ds) = true := by
  induction ds with
  | nil => exact ⟨rfl, rfl, rfl, by simp [D.pys, PyData.depthAll], rfl⟩
  | cons d ds ih =>
    obtain ⟨h1, h2, h3, h4, h5⟩ := h d List.mem_cons_self
    obtain ⟨i1, i2, i3, i4, i5⟩ := ih fun e he => h e (List.mem_cons_of_mem _ he)
    refine ⟨by simp [D.noVals, h1, i1], by simp [D.pys, PyData.showableAll, h2, i2], by simp [D.pys, PyData.hasDictAll, h3, i3], ?_, by simp [D.pys, PyData.leavesShortAll, h5, i5]⟩
    simp only [D.pys, PyData.depthAll]
    omega
theorem svq_int {i : Int} {k : Nat} (h : i.natAbs < 10 ^ 60) : D.svQ k (.int i) := by
  have hl : i.natAbs.log2 < 1920 := by
    by_cases e : i.natAbs = 0
    · rw [e]; decide
    · exact (Nat.log2_lt e).2 (Nat.lt_of_lt_of_le h (Nat.le_trans (by decide : 10 ^ 60 ≤ 2 ^ 200) (Nat.pow_le_pow_right (by decide) (by decide))))
  refine ⟨rfl, by simpa [D.py, PyData.showable] using hl, rfl, by simp [D.py, PyData.depth], ?_⟩
  simp only [D.py, PyData.leavesShort, PyData.shown]
  refine decide_eq_true ?_
  rw [PySem.ofString_length]
  exact Nat.le_trans (PySem.int_text_length_le10 (k := 60) (by decide) h) (by decide)
theorem svS_Q : ∀ (k : Nat) (d : D), D.svS k d = true → D.svQ k d := by
  intro k
  induction k with
  | zero =>
    intro d h
    cases d with
    | int i => exact svq_int (by simpa [D.svS] using h)
    | non => exact ⟨rfl, rfl, rfl, by simp [D.py, PyData.depth], rfl⟩
    | bl _ => exact ⟨rfl, rfl, rfl, by simp [D.py, PyData.depth], rfl⟩
    | str x => exact ⟨rfl, rfl, rfl, by simp [D.py, PyData.depth], h⟩
    | _ => simp [D.svS] at h
  | succ k ih =>
    intro d h
    cases d with
    | lst ds =>
      rw [D.svS, List.all_eq_true] at h
      obtain ⟨h1, h2, h3, h4, h5⟩ := svqs_of fun e he => ih e (h e he)
      exact ⟨h1, by simpa [D.py, PyData.showable] using h2, by simpa [D.py, PyData.hasDict] using h3, by simp only [D.py, PyData.depth]; omega, by simpa [D.py, PyData.leavesShort] using h5⟩
    | tup ds =>
      rw [D.svS, List.all_eq_true] at h
      obtain ⟨h1, h2, h3, h4, h5⟩ := svqs_of fun e he => ih e (h e he)
      exact ⟨h1, by simpa [D.py, PyData.showable] using h2, by simpa [D.py, PyData.hasDict] using h3, by simp only [D.py, PyData.depth]; omega, by simpa [D.py, PyData.leavesShort] using h5⟩
    | int i => exact svq_int (by simpa [D.svS] using h)
    | non => exact ⟨rfl, rfl, rfl, by simp [D.py, PyData.depth], rfl⟩
    | bl _ => exact ⟨rfl, rfl, rfl, by simp [D.py, PyData.depth], rfl⟩
    | str x => exact ⟨rfl, rfl, rfl, by simp [D.py, PyData.depth], h⟩
    | _ => simp [D.svS] at h
structure Dc (k n : Nat) (d : D) : Prop where
  pl : D.pl k d = true
  sv : D.svS k d = true
  bk : d.py.bulk ≤ n
structure Dcs (k n : Nat) (ds : List D) : Prop where
  pl : ∀ d ∈ ds, D.pl k d = true
  sv : ∀ d ∈ ds, D.svS k d = true
  bk : PyData.bulkAll (D.pys ds) ≤ n
theorem Dc.sh {k n : Nat} {d : D} (h : Dc k n d) (hk : k ≤ 60) (hn : n ≤ 200000) : d.sh := by
  obtain ⟨h1, h2, h3, h4, h5⟩ := svS_Q k d h.sv
  refine ⟨h1, h2, h3, by omega, ?_⟩
  have := PyData.shown_le_bulk 64 (by decide) d.py h5
  have := h.bk
  exact Nat.le_trans (by omega : _ ≤ 16000000) (by decide)
theorem Dc.int {k n : Nat} {i : Int} (h : i.natAbs < 10 ^ 60 := by decide +kernel) : Dc k n (.int i) := ⟨by cases k <;> rfl, by cases k <;> simp [D.svS, h], Nat.zero_le _⟩
theorem Dc.nat {k n m : Nat} (h : m < 2 ^ 64) : Dc k n (.int (m : Nat)) := Dc.int (by rw [Int.natAbs_natCast]; exact Nat.lt_of_lt_of_le h (by decide))
theorem Dc.non {k n : Nat} : Dc k n .non := ⟨by cases k <;> rfl, by cases k <;> rfl, Nat.zero_le _⟩
theorem Dc.bl {k n : Nat} {b : Bool} : Dc k n (.bl b) := ⟨by cases k <;> rfl, by cases k <;> rfl, Nat.zero_le _⟩
theorem Dc.str {k n : Nat} {x : Str} (h1 : (x.cps.toList.all fun c => decide (c < 16 ^ 8)) = true := by decide +kernel) (h2 : (D.str x).py.bulk ≤ n := by decide +kernel) : Dc k n (.str x) := ⟨by cases k <;> rfl, by cases k <;> exact h1, h2⟩
theorem Dc.mono {k n m : Nat} {d : D} (h : Dc k n d) (hn : n ≤ m) : Dc k m d := ⟨h.pl, h.sv, Nat.le_trans h.bk hn⟩
theorem pl_up : ∀ (k : Nat) (d : D), D.pl k d = true → D.pl (k + 1) d = true := by
  intro k
  induction k with
  | zero => intro d h; cases d <;> first | rfl | simp [D.pl] at h
  | succ k ih =>
    intro d h
    cases d with
    | lst ds => rw [D.pl, Bool.and_eq_true, List.all_eq_true] at h ⊢; exact ⟨h.1, fun e he => ih e (h.2 e he)⟩
    | tup ds => rw [D.pl, Bool.and_eq_true, List.all_eq_true] at h ⊢; exact ⟨h.1, fun e he => ih e (h.2 e he)⟩
    | _ => first | rfl | simp [D.pl] at h
theorem svS_up : ∀ (k : Nat) (d : D), D.svS k d = true → D.svS (k + 1) d = true := by
  intro k
  induction k with
  | zero => intro d h; cases d <;> first | rfl | exact h | simp [D.svS] at h
  | succ k ih =>
    intro d h
    cases d with
    | lst ds => rw [D.svS, List.all_eq_true] at h ⊢; exact fun e he => ih e (h e he)
    | tup ds => rw [D.svS, List.all_eq_true] at h ⊢; exact fun e he => ih e (h e he)
    | _ => first | rfl | exact h | simp [D.svS] at h
theorem Dc.up {k n : Nat} {d : D} (h : Dc k n d) : Dc (k + 1) n d := ⟨pl_up k d h.pl, svS_up k d h.sv, h.bk⟩
theorem Dcs.len {k n : Nat} {ds : List D} (h : Dcs k n ds) : ds.length ≤ n := by
  refine Nat.le_trans ?_ h.bk
  clear h
  induction ds with
  | nil => exact Nat.zero_le _
  | cons d ds ih => simp only [D.pys, PyData.bulkAll, List.length_cons]; omega
theorem Dcs.nil {k n : Nat} : Dcs k n [] := ⟨by simp, by simp, Nat.zero_le _⟩
theorem Dcs.cons {k n m : Nat} {d : D} {ds : List D} (h : Dc k n d) (t : Dcs k m ds) : Dcs k (n + 1 + m) (d :: ds) :=
  ⟨fun e he => by
    rcases List.mem_cons.1 he with rfl | he
    · exact h.pl
    · exact t.pl e he, fun e he => by
    rcases List.mem_cons.1 he with rfl | he
    · exact h.sv
    · exact t.sv e he, by have := h.bk; have := t.bk; simp only [D.pys, PyData.bulkAll]; omega⟩
theorem Dcs.app {k n m : Nat} {ds es : List D} (h : Dcs k n ds) (t : Dcs k m es) : Dcs k (n + m) (ds ++ es) :=
  ⟨fun e he => by
    rcases List.mem_append.1 he with he | he
    · exact h.pl e he
    · exact t.pl e he, fun e he => by
    rcases List.mem_append.1 he with he | he
    · exact h.sv e he
    · exact t.sv e he, by have := h.bk; have := t.bk; rw [bulks_app]; omega⟩
theorem Dcs.mono {k n m : Nat} {ds : List D} (h : Dcs k n ds) (hn : n ≤ m) : Dcs k m ds := ⟨h.pl, h.sv, Nat.le_trans h.bk hn⟩
theorem bulks_sub {a b : List D} (h : a.Sublist b) : PyData.bulkAll (D.pys a) ≤ PyData.bulkAll (D.pys b) := by
  induction h with
  | slnil => exact Nat.le_refl _
  | cons _ _ ih => simp only [D.pys, PyData.bulkAll]; omega
  | cons_cons _ _ ih => simp only [D.pys, PyData.bulkAll]; omega
theorem Dcs.sub {k n : Nat} {ds es : List D} (h : Dcs k n ds) (s : es.Sublist ds) : Dcs k n es := ⟨fun e he => h.pl e (s.subset he), fun e he => h.sv e (s.subset he), Nat.le_trans (bulks_sub s) h.bk⟩
theorem Dcs.cut {k n : Nat} {ds : List D} (h : Dcs k n ds) (lo hi : Option Int) : Dcs k n (cutD ds lo hi) := h.sub ((List.take_sublist _ _).trans (List.drop_sublist _ _))
theorem bulks_rev (a : List D) : PyData.bulkAll (D.pys a.reverse) = PyData.bulkAll (D.pys a) := by
  induction a with
  | nil => rfl
  | cons d a ih => rw [List.reverse_cons, bulks_app, ih]; simp only [D.pys, PyData.bulkAll]; omega
theorem Dcs.rev {k n : Nat} {ds : List D} (h : Dcs k n ds) : Dcs k n ds.reverse := ⟨fun e he => h.pl e (List.mem_reverse.1 he), fun e he => h.sv e (List.mem_reverse.1 he), by rw [bulks_rev]; exact h.bk⟩
theorem Dc.tup {k n : Nat} {ds : List D} (h : Dcs k n ds) (hn : n ≤ 100000 := by omega) : Dc (k + 1) n (.tup ds) :=
  ⟨by rw [D.pl, Bool.and_eq_true, List.all_eq_true, decide_eq_true_eq]; exact ⟨Nat.le_trans h.len hn, h.pl⟩, by rw [D.svS, List.all_eq_true]; exact h.sv, h.bk⟩
theorem Dc.lst {k n : Nat} {ds : List D} (h : Dcs k n ds) (hn : n ≤ 100000 := by omega) : Dc (k + 1) n (.lst ds) :=
  ⟨by rw [D.pl, Bool.and_eq_true, List.all_eq_true, decide_eq_true_eq]; exact ⟨Nat.le_trans h.len hn, h.pl⟩, by rw [D.svS, List.all_eq_true]; exact h.sv, h.bk⟩
theorem Dcs.nats {k : Nat} {l : List Nat} (h : ∀ n ∈ l, n < 2 ^ 64) : Dcs k l.length (nD l) := ⟨fun e he => by
    obtain ⟨n, hn, rfl⟩ := List.mem_map.1 he
    exact (Dc.nat (k := k) (n := 0) (h n hn)).pl, fun e he => by
    obtain ⟨n, hn, rfl⟩ := List.mem_map.1 he
    exact (Dc.nat (k := k) (n := 0) (h n hn)).sv, by rw [bulks_nD]; exact Nat.le_refl _⟩
theorem atI_mem {α : Type} {xs : List α} {r : Int} (h0 : 0 ≤ r) (h1 : r < xs.length) : ∃ x, atI xs r = some x ∧ x ∈ xs := by
  have hl : r.toNat < xs.length := by omega
  exact ⟨xs[r.toNat], atI_int h0 (List.getElem?_eq_getElem hl), List.getElem_mem hl⟩
theorem allMem {P : D → Prop} {x : D} {xs : List D} (h : P x) (t : ∀ y ∈ xs, P y) : ∀ y ∈ x :: xs, P y := fun y hy => by
  rcases List.mem_cons.1 hy with rfl | hy
  · exact h
  · exact t y hy
theorem allNil {P : D → Prop} : ∀ y ∈ ([] : List D), P y := by simp
theorem Dc.t0 {k n : Nat} : Dc (k + 1) n (.tup []) := ⟨rfl, rfl, Nat.zero_le _⟩
theorem Dc.t1 {k n m : Nat} {d : D} (h : Dc k n d) (hm : n + 1 ≤ m := by omega) (hm2 : m ≤ 100000 := by omega) : Dc (k + 1) m (.tup [d]) := Dc.tup ((Dcs.cons h (Dcs.nil (n := 0))).mono (by omega)) hm2
theorem Dc.l1 {k n m : Nat} {d : D} (h : Dc k n d) (hm : n + 1 ≤ m := by omega) (hm2 : m ≤ 100000 := by omega) : Dc (k + 1) m (.lst [d]) := Dc.lst ((Dcs.cons h (Dcs.nil (n := 0))).mono (by omega)) hm2
theorem Dc.t2 {k n n' m : Nat} {d e : D} (h : Dc k n d) (h' : Dc k n' e) (hm : n + n' + 2 ≤ m := by omega) (hm2 : m ≤ 100000 := by omega) : Dc (k + 1) m (.tup [d, e]) := Dc.tup ((Dcs.cons h (Dcs.cons h' (Dcs.nil (n := 0)))).mono (by omega)) hm2
theorem Dc.l2 {k n n' m : Nat} {d e : D} (h : Dc k n d) (h' : Dc k n' e) (hm : n + n' + 2 ≤ m := by omega) (hm2 : m ≤ 100000 := by omega) : Dc (k + 1) m (.lst [d, e]) := Dc.lst ((Dcs.cons h (Dcs.cons h' (Dcs.nil (n := 0)))).mono (by omega)) hm2
theorem Dc.t3 {k n n' n3 m : Nat} {d e f : D} (h : Dc k n d) (h' : Dc k n' e) (h3 : Dc k n3 f) (hm : n + n' + n3 + 3 ≤ m := by omega) (hm2 : m ≤ 100000 := by omega) : Dc (k + 1) m (.tup [d, e, f]) := Dc.tup ((Dcs.cons h (Dcs.cons h' (Dcs.cons h3 (Dcs.nil (n := 0))))).mono (by omega)) hm2
theorem Dcs.one {k n m : Nat} {d : D} (h : Dc k n d) (hm : n + 1 ≤ m := by omega) : Dcs k m [d] := (Dcs.cons h (Dcs.nil (n := 0))).mono (by omega)
theorem e39 : ((10 : Int) ^ Int.toNat 39).natAbs < 10 ^ 60 := by decide +kernel
end LS
namespace PM
def tieB (gs : List (List Nat)) (a b : Nat) : Bool := (a != b) && gs.any fun ns => decide (a ∈ ns) && decide (b ∈ ns)
theorem tieB_iff {gs : List (List Nat)} {a b : Nat} : tieB gs a b = true ↔ a ≠ b ∧ ∃ ns ∈ gs, a ∈ ns ∧ b ∈ ns := by
  unfold tieB
  simp
theorem tieB_comm (gs : List (List Nat)) (a b : Nat) : tieB gs a b = tieB gs b a := by
  rw [Bool.eq_iff_iff, tieB_iff, tieB_iff]
  constructor
  · rintro ⟨h, ns, h1, h2, h3⟩; exact ⟨fun z => h z.symm, ns, h1, h3, h2⟩
  · rintro ⟨h, ns, h1, h2, h3⟩; exact ⟨fun z => h z.symm, ns, h1, h3, h2⟩
def nb (n : Nat) (gs : List (List Nat)) (a : Nat) : List Nat := (List.range n).filter (tieB gs a)
theorem mem_nb {n : Nat} {gs : List (List Nat)} {a b : Nat} : b ∈ nb n gs a ↔ b < n ∧ tieB gs a b = true := by
  unfold nb
  rw [List.mem_filter, List.mem_range]
inductive Rch (n : Nat) (gs : List (List Nat)) (T : List Nat) (x : Nat) : Nat → Prop where
  | base : Rch n gs T x x
  | step {y z : Nat} : Rch n gs T x y → (y = x ∨ y ∈ T) → z ∈ nb n gs y → Rch n gs T x z
open Classical in
noncomputable def bagN (n : Nat) (gs : List (List Nat)) (T : List Nat) (x : Nat) : List Nat := (List.range n).filter fun z => decide (z ∉ T) && decide (Rch n gs T x z)
theorem mem_bag {n : Nat} {gs : List (List Nat)} {T : List Nat} {x z : Nat} : z ∈ bagN n gs T x ↔ z < n ∧ z ∉ T ∧ Rch n gs T x z := by
  unfold bagN
  rw [List.mem_filter, List.mem_range]
  simp
theorem rising_filter {l : List Nat} (p : Nat → Bool) (h : Rising l) : Rising (l.filter p) := List.Pairwise.filter p h
theorem rising_range (n : Nat) : Rising (List.range n) := List.pairwise_lt_range
theorem bag_rising (n : Nat) (gs : List (List Nat)) (T : List Nat) (x : Nat) : Rising (bagN n gs T x) := by
  unfold bagN
  exact rising_filter _ (rising_range n)
theorem Rch.closed {n : Nat} {gs : List (List Nat)} {T : List Nat} {x : Nat} {P : Nat → Prop} (h0 : P x) (hc : ∀ y, P y → (y = x ∨ y ∈ T) → ∀ z ∈ nb n gs y, P z) {z : Nat} (h : Rch n gs T x z) : P z := by
  induction h with
  | base => exact h0
  | step _ h1 h2 ih => exact hc _ ih h1 _ h2
end PM
namespace LS
open PySem L2 HD PM
local macro_rules | `(tactic| trivial) => `(tactic| try simp -dsimp only [↓sIf, ↓sRet, ↓retD_ext, ↓retD_lst, ↓retD_al, ↓sSet, ↓sSetE, ↓sAsg, ↓sDrop, ↓sNext, ↓sFor, ↓sRetN, ↓sCont, ↓sBreak, ↓dTest, ↓dOp, ↓dVar_w, ↓dC, ↓dCons, ↓dNil, ↓dTup, ↓dLst, ↓frzDs, ↓frzD_ext, ↓frzD_lst, ↓frzD_al, ↓wd_ext, ↓wd_lst, ↓wd_al, ↓wds, ↓AtS_ext, ↓AtS_lst, ↓AtL, ↓fAdd, ↓fSub, ↓fMul, ↓fDiv, ↓fMod, ↓fPow, ↓fCmp, ↓fIn, ↓fEq_ii, ↓fEq_ss, ↓fEq_bb, ↓fEq_tt, ↓fEq_ll, ↓fNe_ii, ↓fNe_ss, ↓fNe_bb, ↓fNe_tt, ↓fNe_ll, ↓fIx_l, ↓fIx_t, ↓fIx_k, ↓fIx_f, ↓GetS_some, ↓NatS_some, ↓fSl, ↓fIsN, ↓fNotN, ↓D.knN, ↓dNot, ↓dAnd, ↓dOr, ↓dAndV_w, ↓dOrV_w, ↓dNotV, ↓dIf, ↓dNeg, ↓dChain_w, ↓BlS_bl, ↓dCall_w, ↓dCallJ_w, ↓anyAl, ↓frozs, ↓froz, ↓gSet, ↓gTupD, ↓gsCons, ↓gsNil, ↓dSeq, ↓seqD_tup, ↓seqD_elst, ↓seqD_lst, ↓seqD_al, ↓dRange1, ↓dRange2, ↓dZip, ↓dCB, ↓dLc, ↓dYes, ↓dNoPart, ↓dPart, ↓dSl, ↓fLen, ↓fMin, ↓fMax, ↓fSum, ↓fAll, ↓fAny, ↓fSorted, ↓fTuple, ↓fList, ↓dRg1, ↓dRg2, ↓dLstRg, ↓dTupRg, ↓dIndex, ↓fIdx, ↓dAppend_w, ↓dExtend_w, ↓extD_lst, ↓dPopAt_w, ↓popD_int, ↓dPop_w, ↓mutD_w, ↓sSetItem_w, ↓setD_int, ↓dSortSet, ↓dTable_w, ↓wipeE, finals1, finals2, finals3, finals4, finals5, finals6, fin1_ext, fin1_lst, List.getElem?_cons_zero, List.getElem?_cons_succ, List.getElem?_nil, List.set_cons_zero, List.set_cons_succ, List.cons_append, List.nil_append, List.append_nil, List.replicate_succ, List.replicate_zero, List.map_cons, List.map_nil, List.length_cons, List.length_nil, true_and, and_true, ite_true, ite_false, if_true, if_false, Bool.false_eq_true, decide_eq_true_eq, Sl.plain, D.isSq, eq_self_iff_true, forall_const, reduceIte, true_or, or_true, atI_0, atI_1, atI_2, atI_3, ixN_0, ixN_1, ixN_2, AtS_ext, AtS_lst, FzS_lst, FzS_ext, GetS_some, NatS_some, ↓fIsi1, ↓fIsi2, BoolS_some, HD.kb_non_tuple, HD.kb_non_list, HD.kb_non_bool, HD.kb_non_int, HD.kb_non_str, HD.kb_bl_tuple, HD.kb_bl_list, HD.kb_bl_bool, HD.kb_bl_int, HD.kb_bl_str, HD.kb_int_tuple, HD.kb_int_list, HD.kb_int_bool, HD.kb_int_int, HD.kb_int_str, HD.kb_str_tuple, HD.kb_str_list, HD.kb_str_bool, HD.kb_str_int, HD.kb_str_str, HD.kb_lst_tuple, HD.kb_lst_list, HD.kb_lst_bool, HD.kb_lst_int, HD.kb_lst_str, HD.kb_tup_tuple, HD.kb_tup_list, HD.kb_tup_bool, HD.kb_tup_int, HD.kb_tup_str, ↓sFz_w, ↓FzS_lst, ↓FzS_ext, ↓dSortSetL, ↓fAbs, ↓fInt, ↓fRepr, ↓fLtT, ↓sRaise, ↓sTryKeep, ↓dCallV_w, ↓dMeth, ↓fCount, ↓fSplit, ↓seq_setE, ↓seq_set, ↓seq_drop, ↓seq_asg, ↓seq_if, ↓seq_for, ↓dStep, ↓fStep, ↓fMulT, ↓fIsB, ↓fNotB, ↓sPar, ↓dEnum, ↓dListZip, ↓dNest, ↓sSeal, ↓dNApp, ↓retD_reg, ↓dLenSet, ↓fSum2, ↓seq_putD, ↓seq_sealD, ↓dDIn, ↓dDGet, ↓sPutD, ↓dDNew, ↓dDOne, ↓sSealD, ↓dKeys, ↓keyS_dk, ↓dExtT])
local macro_rules | `(tactic| and_intros) => `(tactic| try simp -dsimp only [↓sIf, ↓sRet, ↓retD_ext, ↓retD_lst, ↓retD_al, ↓sSet, ↓sSetE, ↓sAsg, ↓sDrop, ↓sNext, ↓sFor, ↓sRetN, ↓sCont, ↓sBreak, ↓dTest, ↓dOp, ↓dC, ↓dCons, ↓dNil, ↓dTup, ↓dLst, ↓frzDs, ↓frzD_ext, ↓frzD_lst, ↓frzD_al, ↓wd_ext, ↓wd_lst, ↓wd_al, ↓wds, ↓AtS_ext, ↓AtS_lst, ↓AtL, ↓fAdd, ↓fSub, ↓fMul, ↓fDiv, ↓fMod, ↓fPow, ↓fCmp, ↓fIn, ↓fEq_ii, ↓fEq_ss, ↓fEq_bb, ↓fEq_tt, ↓fEq_ll, ↓fNe_ii, ↓fNe_ss, ↓fNe_bb, ↓fNe_tt, ↓fNe_ll, ↓fIx_l, ↓fIx_t, ↓fIx_k, ↓fIx_f, ↓GetS_some, ↓NatS_some, ↓fSl, ↓fIsN, ↓fNotN, ↓D.knN, ↓dNot, ↓dAnd, ↓dOr, ↓dAndV_w, ↓dOrV_w, ↓dNotV, ↓dIf, ↓dNeg, ↓dChain_w, ↓BlS_bl, ↓dCall_w, ↓dCallJ_w, ↓anyAl, ↓frozs, ↓froz, ↓gSet, ↓gTupD, ↓gsCons, ↓gsNil, ↓dSeq, ↓seqD_tup, ↓seqD_elst, ↓seqD_lst, ↓seqD_al, ↓dRange1, ↓dRange2, ↓dZip, ↓dCB, ↓dLc, ↓dYes, ↓dNoPart, ↓dPart, ↓dSl, ↓fLen, ↓fMin, ↓fMax, ↓fSum, ↓fAll, ↓fAny, ↓fSorted, ↓fTuple, ↓fList, ↓dRg1, ↓dRg2, ↓dLstRg, ↓dTupRg, ↓dIndex, ↓fIdx, ↓dAppend_w, ↓dExtend_w, ↓extD_lst, ↓dPopAt_w, ↓popD_int, ↓dPop_w, ↓mutD_w, ↓sSetItem_w, ↓setD_int, ↓dSortSet, ↓dTable_w, ↓wipeE, finals1, finals2, finals3, finals4, finals5, finals6, fin1_ext, fin1_lst, List.getElem?_cons_zero, List.getElem?_cons_succ, List.getElem?_nil, List.set_cons_zero, List.set_cons_succ, List.cons_append, List.nil_append, List.append_nil, List.replicate_succ, List.replicate_zero, List.map_cons, List.map_nil, List.length_cons, List.length_nil, true_and, and_true, ite_true, ite_false, if_true, if_false, Bool.false_eq_true, decide_eq_true_eq, Sl.plain, D.isSq, eq_self_iff_true, forall_const, reduceIte, true_or, or_true, atI_0, atI_1, atI_2, atI_3, ixN_0, ixN_1, ixN_2, AtS_ext, AtS_lst, FzS_lst, FzS_ext, GetS_some, NatS_some, ↓fIsi1, ↓fIsi2, BoolS_some, HD.kb_non_tuple, HD.kb_non_list, HD.kb_non_bool, HD.kb_non_int, HD.kb_non_str, HD.kb_bl_tuple, HD.kb_bl_list, HD.kb_bl_bool, HD.kb_bl_int, HD.kb_bl_str, HD.kb_int_tuple, HD.kb_int_list, HD.kb_int_bool, HD.kb_int_int, HD.kb_int_str, HD.kb_str_tuple, HD.kb_str_list, HD.kb_str_bool, HD.kb_str_int, HD.kb_str_str, HD.kb_lst_tuple, HD.kb_lst_list, HD.kb_lst_bool, HD.kb_lst_int, HD.kb_lst_str, HD.kb_tup_tuple, HD.kb_tup_list, HD.kb_tup_bool, HD.kb_tup_int, HD.kb_tup_str, ↓sFz_w, ↓FzS_lst, ↓FzS_ext, ↓dSortSetL, ↓fAbs, ↓fInt, ↓fRepr, ↓fLtT, ↓sRaise, ↓sTryKeep, ↓dCallV_w, ↓dMeth, ↓fCount, ↓fSplit, ↓seq_setE, ↓seq_set, ↓seq_drop, ↓seq_asg, ↓seq_if, ↓seq_for, ↓dStep, ↓fStep, ↓fMulT, ↓fIsB, ↓fNotB, ↓sPar, ↓dEnum, ↓dListZip, ↓dNest, ↓sSeal, ↓dNApp, ↓retD_reg, ↓dLenSet, ↓fSum2, ↓seq_putD, ↓seq_sealD, ↓dDIn, ↓dDGet, ↓sPutD, ↓dDNew, ↓dDOne, ↓sSealD, ↓dKeys, ↓keyS_dk, ↓dExtT, ↓dv0, ↓dw0, ↓dv1, ↓dw1, ↓dv2, ↓dw2, ↓dv3, ↓dw3, ↓dv4, ↓dw4, ↓dv5, ↓dw5, ↓dv6, ↓dw6, ↓dv7, ↓dw7, ↓dv8, ↓dw8, ↓dv9, ↓dw9, ↓dv10, ↓dw10, ↓dv11, ↓dw11, ↓dv12, ↓dw12, ↓dv13, ↓dw13, ↓dv14, ↓dw14, ↓dv15, ↓dw15, ↓dv16, ↓dw16, ↓dv17, ↓dw17, ↓dv18, ↓dw18, ↓dv19, ↓dw19])
abbrev gsOf (ps : List Part) : List (List Nat) := ps.map fun p => p.ns
abbrev tiDs (n : Nat) (gs : List (List Nat)) : List D := (List.range n).map fun a => D.lst (nD (nb n gs a))
structure NsOk (S : List Nat) (ps : List Part) : Prop where
  few : S.length ≤ 24
  many : ps.length ≤ 1000
  ok : ∀ p ∈ ps, Rising p.ns ∧ ∀ n ∈ p.ns, n < S.length
def sp_ties_of : DSpec := fun args Q _ => ∃ (S : List Nat) (ps : List Part), args = [.ext (dSh S ps)] ∧ NsOk S ps ∧ ∀ a fin, Q (.lst a (tiDs S.length (gsOf ps))) fin
def b1_ties_of : DTS :=
    (sIf (dTest (dOp (fIn false) (dVar 2) (dOp fIx (dVar 4) (dC (.int 0))))) (sDrop (dExtT 3 (dOp fIx (dVar 4) (dC (.int 0))))) sNext)
def e2_ties_of : DT :=
    (dVar 5)
def k3_ties_of : DTS :=
    (sDrop (dAppend 1 (dLc (dRange1 (dCons (dCB fLen (dCons (dOp fIx (dVar 0) (dC (.int 0))) dNil)) dNil)) (gSet 5) (dAnd (dTest (dOp fNe (dVar 5) (dVar 2))) (dTest (dOp (fIn false) (dVar 5) (dVar 3)))) e2_ties_of [5])))
def b4_ties_of : DTS :=
    (sSeq (sSet 3 (dLst dNil))
    (sSeq (sFor (dSeq (dOp fIx (dVar 0) (dC (.int 1)))) (gSet 4) b1_ties_of)
    k3_ties_of))
def k5_ties_of : DTS :=
    (sRet (dVar 1))
def t_ties_of : DTS :=
    (sSeq (sSet 1 (dLst dNil))
    (sSeq (sFor (dRange1 (dCons (dCB fLen (dCons (dOp fIx (dVar 0) (dC (.int 0))) dNil)) dNil)) (gSet 2) b4_ties_of)
    k5_ties_of))
def nearL (x : Nat) (ps : List Part) : List Nat := ((ps.filter fun p => decide (x ∈ p.ns)).map fun p => p.ns).flatten
theorem mem_nearL {x y : Nat} {ps : List Part} : y ∈ nearL x ps ↔ ∃ p ∈ ps, x ∈ p.ns ∧ y ∈ p.ns := by
  unfold nearL
  simp only [List.mem_flatten, List.mem_map, List.mem_filter]
  constructor
  · rintro ⟨l, ⟨p, ⟨h1, h2⟩, rfl⟩, h3⟩
    exact ⟨p, h1, by simpa using h2, h3⟩
  · rintro ⟨p, h1, h2, h3⟩
    exact ⟨p.ns, ⟨p, ⟨h1, by simpa using h2⟩, rfl⟩, h3⟩
theorem nearL_snoc (x : Nat) (ps : List Part) (p : Part) : nearL x (ps ++ [p]) = nearL x ps ++ if x ∈ p.ns then p.ns else [] := by
  unfold nearL
  rw [List.filter_append, List.map_append, List.flatten_append]
  by_cases h : x ∈ p.ns <;> simp [h]
theorem nearL_len {x n : Nat} {ps : List Part} (h : ∀ p ∈ ps, p.ns.length ≤ n) : (nearL x ps).length ≤ ps.length * n := by
  induction ps with
  | nil => simp [nearL]
  | cons p ps ih =>
    have i := ih fun q hq => h q (List.mem_cons_of_mem _ hq)
    have hp := h p List.mem_cons_self
    have e : nearL x (p :: ps) = (if x ∈ p.ns then p.ns else []) ++ nearL x ps := by
      unfold nearL
      by_cases hx : x ∈ p.ns <;> simp [hx]
    rw [e, List.length_append, List.length_cons, Nat.succ_mul]
    split
    · omega
    · simp; omega
theorem nb_near {n x : Nat} {ps : List Part} : nb n (gsOf ps) x = (List.range n).filter fun y => (y != x) && decide (y ∈ nearL x ps) := by
  unfold nb
  refine List.filter_congr fun y _ => ?_
  rw [Bool.eq_iff_iff, tieB_iff]
  simp only [Bool.and_eq_true, bne_iff_ne, decide_eq_true_eq, mem_nearL]
  constructor
  · rintro ⟨h, ns, hm, h2⟩
    obtain ⟨p, hp, rfl⟩ := List.mem_map.1 hm
    exact ⟨fun z => h z.symm, p, hp, h2⟩
  · rintro ⟨h, p, hp, h2⟩
    exact ⟨fun z => h z.symm, p.ns, List.mem_map.2 ⟨p, hp, rfl⟩, h2⟩
theorem m_ties_of : Meets t_ties_of 1 5 sp_ties_of := by
  rintro args Qd Xd ⟨S, ps, rfl, ok, hQ⟩
  show t_ties_of _ _ [_, .un, .un, .un, .un, .un]
  unfold t_ties_of
  and_intros
  refine ⟨Nat.zero_le _, fun a1 => ?_⟩
  have h24 := ok.few
  have hnl : ∀ p ∈ ps, p.ns.length ≤ 24 := fun p hp => Nat.le_trans (rising_len (ok.ok p hp).1 (ok.ok p hp).2) h24
  rw [nD_len, rgD_nat]
  refine ⟨⟨by omega, by omega⟩, ?_⟩
  refine for_ind (fun x : Nat => D.int (x : Nat)) (fun xs env => ∃ (pre : List Nat) (u2 u3 u4 : Sl), env = [.ext (dSh S ps), .lst a1 (pre.map fun a => D.lst (nD (nb S.length (gsOf ps) a))), u2, u3, u4, .un] ∧ List.range S.length = pre ++ xs) ?_ ?_ (List.range S.length) _ ⟨[], _, _, _, rfl, rfl⟩
  · rintro env ⟨pre, u2, u3, u4, rfl, he⟩
    refine ⟨True.intro, ?_⟩
    rw [List.append_nil] at he
    subst he
    unfold k5_ties_of
    and_intros
    exact hQ _ _
  rintro x xs env N ⟨pre, u2, u3, u4, rfl, he⟩ hN
  have hlen := congrArg List.length he
  rw [List.length_range, List.length_append, List.length_cons] at hlen
  have hx : x < S.length := List.mem_range.1 (by rw [he]; simp)
  refine ⟨True.intro, ?_⟩
  unfold b4_ties_of
  and_intros
  refine ⟨Nat.zero_le _, fun a3 => ?_⟩
  trivial
  refine for_ind (fun p : Part => dP p) (fun qs env => ∃ (pr : List Part) (u4 : Sl), env = [.ext (dSh S ps), .lst a1 (pre.map fun a => D.lst (nD (nb S.length (gsOf ps) a))), dI (x : Nat), .lst a3 (nD (nearL x pr)), u4, .un] ∧ ps = pr ++ qs) ?_ ?_ ps _ ⟨[], _, rfl, rfl⟩
  · rintro env ⟨pr, u4, rfl, hp⟩
    refine ⟨True.intro, ?_⟩
    rw [List.append_nil] at hp
    subst hp
    unfold k3_ties_of
    and_intros
    rw [nD_len, rgD_nat]
    refine ⟨⟨by omega, by omega⟩, ?_⟩
    refine lc_filter (fun y : Nat => D.int (y : Nat)) (fun y => .int (y : Nat)) (fun y => (y != x) && decide (y ∈ nearL x ps)) True.intro (List.range S.length) (by rw [List.length_range]; exact Nat.le_trans h24 (by decide)) (fun y hy R hR => ?_) fun b => ?_
    · unfold e2_ties_of
      trivial
      rw [isIn_nat]
      by_cases e : y = x
      · subst e
        rw [if_neg (by simp)]
        rw [if_neg (by simp)] at hR
        exact hR
      · rw [if_pos (by simpa using fun z : (y : Int) = x => e (by omega))]
        refine ⟨rfl, flat_nD _, ?_⟩
        by_cases hm : y ∈ nearL x ps
        · rw [if_pos (by simpa using hm)]
          rw [if_pos (by simp [e, hm])] at hR
          exact hR
        · rw [if_neg (by simpa using hm)]
          rw [if_neg (by simp [e, hm])] at hR
          exact hR
    trivial
    refine ⟨by rw [List.length_map]; exact Nat.lt_of_lt_of_le (by omega : pre.length < 100) (by decide), hN _ ⟨pre ++ [x], dI (x : Nat), .lst a3 (nD (nearL x ps)), u4, ?_, by rw [he]; simp⟩⟩
    rw [← nb_near, List.map_append]
    rfl
  rintro p qs env N' ⟨pr, u4, rfl, hp⟩ hN'
  refine ⟨True.intro, ?_⟩
  unfold b1_ties_of
  and_intros
  rw [isIn_nat]
  refine ⟨rfl, flat_nD _, ?_⟩
  have hpm : p ∈ ps := by rw [hp]; simp
  have hnear : (nearL x pr).length ≤ pr.length * 24 := nearL_len fun q hq => hnl q (by rw [hp]; exact List.mem_append_left _ hq)
  have hpl := congrArg List.length hp
  rw [List.length_append, List.length_cons] at hpl
  have hps := ok.many
  have hp24 := hnl p hpm
  by_cases hm : x ∈ p.ns
  · rw [if_pos (by simpa using hm)]
    refine ⟨⟨a3, _, rfl⟩, a3, _, _, rfl, rfl, ?_, hN' _ ⟨pr ++ [p], .ext (dP p), ?_, by rw [hp]; simp⟩⟩
    · rw [nD_len, nD_len]
      exact Nat.le_trans (by omega : _ ≤ 1000000) (by decide)
    · rw [nearL_snoc, if_pos hm, nD_app]
  · rw [if_neg (by simpa using hm)]
    exact hN' _ ⟨pr ++ [p], .ext (dP p), by rw [nearL_snoc, if_neg hm, List.append_nil], by rw [hp]; simp⟩
abbrev tiD (n : Nat) (gs : List (List Nat)) : D := .lst (tiDs n gs)
abbrev seenS (a : Addr) (l : List Nat) : Sl := dkS a (l.map fun s : Nat => ((.inl (s : Int) : Key), D.bl true))
def sp_bag_by : DSpec := fun args Q _ => ∃ (n : Nat) (gs : List (List Nat)) (T : List Nat) (Z : D) (x : Nat), args = [.ext (tiD n gs), .ext Z, dI (x : Nat)] ∧ SqN T Z ∧ n ≤ 24 ∧ x < n ∧ x ∉ T ∧ ∀ fin, Q (.ext (.tup (nD (bagN n gs T x)))) fin
def b1_bag_by : DTS :=
    (sIf (dTest (dDIn true 3 (dVar 6))) (sSeq (sPutD 3 (dVar 6) (dC (.bl true)))
    (sIf (dTest (dOp (fIn false) (dVar 6) (dVar 1))) (sDrop (dAppend 4 (dVar 6))) sNext)) sNext)
def b2_bag_by : DTS :=
    (sSeq (sSetE 5 (dPop 4))
    (sFor (dSeq (dOp fIx (dVar 0) (dVar 5))) (gSet 6) b1_bag_by))
def e3_bag_by : DT :=
    (dVar 7)
def k4_bag_by : DTS :=
    (sSealD 3 (sRet (dCB fTuple (dCons (dCB fSorted (dCons (dLc (dKeys (dVar 3)) (gSet 7) (dTest (dOp (fIn true) (dVar 7) (dVar 1))) e3_bag_by [7]) dNil)) dNil))))
def t_bag_by : DTS :=
    (sSeq (sSet 3 (dDOne (dVar 2) (dC (.bl true))))
    (sSeq (sSet 4 (dLst (dCons (dVar 2) dNil)))
    (sSeq (sWhile (dTest (dOp fNe (dVar 4) (dLst dNil))) b2_bag_by)
    k4_bag_by)))
theorem luK_seen (l : List Nat) (x : Nat) : (luK (l.map fun s : Nat => ((.inl (s : Int) : Key), D.bl true)) (.inl (x : Int))).isSome = decide (x ∈ l) := by
  rw [luK_isSome, List.map_map, Bool.eq_iff_iff]
  simp only [decide_eq_true_eq, List.mem_map, Function.comp_apply]
  constructor
  · rintro ⟨s, hs, e⟩
    have e : (s : Int) = x := Sum.inl.inj e
    have : s = x := by omega
    rw [← this]; exact hs
  · intro h; exact ⟨x, h, rfl⟩
theorem put_seen {l : List Nat} {x : Nat} (h : x ∉ l) : ptK (l.map fun s : Nat => ((.inl (s : Int) : Key), D.bl true)) (.inl (x : Int)) (.bl true) = (l ++ [x]).map fun s : Nat => ((.inl (s : Int) : Key), D.bl true) := by
  rw [ptK_new, List.map_append]
  · rfl
  · have := luK_seen l x
    rw [decide_eq_false h] at this
    cases e : luK (l.map fun s : Nat => ((.inl (s : Int) : Key), D.bl true)) (.inl (x : Int)) with
    | none => rfl
    | some b => rw [e] at this; cases this
theorem nodup_le {n : Nat} : ∀ {l : List Nat}, l.Nodup → (∀ x ∈ l, x < n) → l.length ≤ n := by
  induction n with
  | zero =>
    intro l _ h
    cases l with
    | nil => exact Nat.le_refl _
    | cons x l => exact absurd (h x List.mem_cons_self) (Nat.not_lt_zero _)
  | succ n ih =>
    intro l nd h
    have := ih (nd.erase n) fun x hx => by
      obtain ⟨h1, h2⟩ := nd.mem_erase_iff.1 hx
      have := h x h2
      omega
    have e := List.length_erase (a := n) (l := l)
    rw [e] at this
    split at this <;> omega
theorem cmp_natsL (l : List Nat) : (D.lst (nD l)).cmp := pi_cmp (k := 1) (by decide) (by rw [D.pi]; exact pi_nats 0 l)
theorem sorted_nats {l : List Nat} {ns : List Int} (nd : l.Nodup) (hp : ns.Perm (cI l)) (hs : ns.Pairwise (· ≤ ·)) : ∃ l' : List Nat, ns = cI l' ∧ Rising l' ∧ ∀ n, n ∈ l' ↔ n ∈ l := by
  have hpos : ∀ i ∈ ns, ∃ n : Nat, i = n := fun i hi => by
    obtain ⟨n, _, e⟩ := List.mem_map.1 (hp.mem_iff.1 hi)
    exact ⟨n, e.symm⟩
  have e : ns = cI (ns.map Int.toNat) := by
    rw [cI, List.map_map]
    refine (List.map_id' ns).symm.trans (List.map_congr_left fun i hi => ?_)
    obtain ⟨n, rfl⟩ := hpos i hi
    rfl
  have hp2 : (ns.map Int.toNat).Perm l := by
    have := hp.map Int.toNat
    rw [cI, List.map_map] at this
    have z : l.map (Int.toNat ∘ fun n : Nat => (n : Int)) = l := (List.map_congr_left fun _ _ => rfl).trans (List.map_id' l)
    rw [z] at this
    exact this
  exact ⟨ns.map Int.toNat, e, rising_of (by rw [e] at hs; exact hs) (hp2.symm.nodup nd), fun n => hp2.mem_iff⟩
structure Wk (n : Nat) (gs : List (List Nat)) (T : List Nat) (x : Nat) (seen W : List Nat) (P : Nat → Prop) : Prop where
  nd : seen.Nodup
  ok : ∀ s ∈ seen, s < n ∧ Rch n gs T x s
  xin : x ∈ seen
  sub : ∀ s ∈ W, s ∈ seen ∧ (s = x ∨ s ∈ T)
  cl : ∀ s ∈ seen, (s = x ∨ s ∈ T) → s ∉ W → P s → ∀ z ∈ nb n gs s, z ∈ seen
  wl : W.length ≤ seen.length
theorem m_bag_by : Meets t_bag_by 3 5 sp_bag_by := by
  rintro args Qd Xd ⟨n, gs, T, Z, x, rfl, hZ, h24, hx, hxT, hQ⟩
  show t_bag_by _ _ [_, _, _, .un, .un, .un, .un, .un]
  unfold t_bag_by
  and_intros
  refine ⟨.inl (x : Int), rfl, fun a3 => ?_⟩
  trivial
  refine ⟨by decide, fun a4 => ?_⟩
  refine ⟨fun m env => ∃ (seen W : List Nat) (u5 u6 : Sl), env = [.ext (tiD n gs), .ext Z, dI (x : Nat), seenS a3 seen, .lst a4 (nD W), u5, u6, .un] ∧ Wk n gs T x seen W (fun _ => True) ∧ m = (n - seen.length) + W.length, ⟨_, [x], [x], _, _, rfl, ?_, rfl⟩, ?_⟩
  · exact ⟨by simp, fun s hs => by rw [List.mem_singleton.1 hs]; exact ⟨hx, .base⟩, by simp, fun s hs => ⟨hs, .inl (List.mem_singleton.1 hs)⟩, fun s hs _ h => absurd hs h, Nat.le_refl _⟩
  rintro m env ⟨seen, W, u5, u6, rfl, wk, rfl⟩
  trivial
  refine ⟨Nat.zero_le _, cmp_natsL W, cmp_natsL [], ?_⟩
  rcases W.eq_nil_or_concat with rfl | ⟨W, y, rfl⟩
  · rw [if_neg (show ¬(!D.eqv (.lst (nD [])) (.lst [])) = true by rw [show D.eqv (.lst (nD [])) (.lst []) = true from eqv_refl (d := .lst []) (cmp_natsL [])]; decide)]
    unfold k4_bag_by
    and_intros
    refine ⟨a3, _, rfl, ?_⟩
    trivial
    have hall : ∀ z, Rch n gs T x z → z ∈ seen := fun z hz => hz.closed (P := (· ∈ seen)) wk.xin fun y hy h1 => wk.cl y hy h1 (by simp) True.intro
    have hk : (List.map (fun x : Key × D => x.1) (List.map (fun s : Nat => ((Sum.inl (s : Int) : Key), D.bl true)) seen)).map kD = seen.map fun s : Nat => D.int (s : Nat) := by
      rw [List.map_map, List.map_map]
      rfl
    rw [hk]
    have hsl := nodup_le wk.nd fun s hs => (wk.ok s hs).1
    refine lc_filter (fun s : Nat => D.int (s : Nat)) (fun s => .int (s : Nat)) (fun s => !decide (s ∈ T)) True.intro seen (Nat.le_trans (by omega : seen.length ≤ 100) (by decide)) (fun s hs R hR => ?_) fun b => ?_
    · unfold e3_bag_by
      rcases hZ with rfl | rfl
      · trivial
        rw [isIn_nat]
        exact ⟨rfl, flat_nD _, R_if rfl hR⟩
      · trivial
        rw [isIn_nat]
        exact ⟨rfl, flat_nD _, R_if rfl hR⟩
    trivial
    refine ⟨cI (seen.filter fun s => !decide (s ∈ T)), by rw [List.map_map]; rfl, fun ns' hp hs => ?_⟩
    obtain ⟨l', rfl, hr, hm⟩ := sorted_nats (wk.nd.filter _) hp hs
    have e : l' = bagN n gs T x := rising_ext hr (bag_rising ..) fun z => by
      rw [hm, List.mem_filter, mem_bag]
      constructor
      · rintro ⟨h1, h2⟩
        exact ⟨(wk.ok z h1).1, by simpa using h2, (wk.ok z h1).2⟩
      · rintro ⟨_, h2, h3⟩
        exact ⟨hall z h3, by simpa using h2⟩
    subst e
    rw [cI, List.map_map]
    exact hQ _
  · have hlast : (nD (W.concat y))[(nD (W.concat y)).length - 1]? = some (.int (y : Nat)) := by
      rw [List.concat_eq_append, nD_app, List.length_append]
      show (nD W ++ [D.int (y : Nat)])[(nD W).length + 1 - 1]? = _
      rw [Nat.add_sub_cancel, List.getElem?_append_right (Nat.le_refl _), Nat.sub_self]
      rfl
    rw [if_pos (by
      rw [List.concat_eq_append]
      cases W <;> rfl)]
    unfold b2_bag_by
    and_intros
    refine ⟨_, hlast, ?_⟩
    trivial
    have hdl : (nD (W.concat y)).dropLast = nD W := by
      rw [List.concat_eq_append, nD_app]
      exact List.dropLast_concat
    rw [hdl]
    obtain ⟨hys, hyt⟩ := wk.sub y (by simp)
    obtain ⟨hyn, hyr⟩ := wk.ok y hys
    refine ⟨_, atN (x := D.lst (nD (nb n gs y))) (by rw [List.getElem?_map, List.getElem?_range hyn]; rfl), ?_⟩
    trivial
    have hsl := nodup_le wk.nd fun s hs => (wk.ok s hs).1
    have hwl : (W.concat y).length = W.length + 1 := by simp
    rw [hwl]
    refine for_ind (fun z : Nat => D.int (z : Nat)) (fun zs env => ∃ (seen' W' : List Nat) (u6 : Sl), env = [.ext (tiD n gs), .ext Z, dI (x : Nat), seenS a3 seen', .lst a4 (nD W'), dI (y : Nat), u6, .un] ∧ Wk n gs T x seen' W' (fun s => s ≠ y) ∧ y ∈ seen' ∧ (∀ z ∈ nb n gs y, z ∈ seen' ∨ z ∈ zs) ∧ (∀ z ∈ zs, z ∈ nb n gs y) ∧ (n - seen'.length) + W'.length < n - seen.length + (W.length + 1)) ?_ ?_ (nb n gs y) _ ⟨seen, W, u6, rfl, ⟨wk.nd, wk.ok, wk.xin, fun s hs => wk.sub s (by simp [hs]), fun s hs h1 h2 h3 => wk.cl s hs h1 (by simp [h2, h3]) True.intro, by have := wk.wl; rw [hwl] at this; omega⟩, hys, fun z hz => .inr hz, fun z hz => hz, by omega⟩
    · rintro env ⟨seen', W', u6, rfl, wk', hy', hz, _, hm⟩
      refine ⟨True.intro, _, hm, seen', W', _, _, rfl, ⟨wk'.nd, wk'.ok, wk'.xin, wk'.sub, fun s hs h1 h2 _ => ?_, wk'.wl⟩, rfl⟩
      by_cases e : s = y
      · subst e
        intro z hzs
        exact (hz z hzs).resolve_right (by simp)
      · exact wk'.cl s hs h1 h2 e
    rintro z zs env N ⟨seen', W', u6, rfl, wk', hy', hz, hzs, hm⟩ hN
    refine ⟨True.intro, ?_⟩
    unfold b1_bag_by
    trivial
    refine ⟨.inl (z : Int), _, rfl, .inl ⟨a3, rfl⟩, ?_⟩
    rw [luK_seen]
    have hznb := hzs z List.mem_cons_self
    have hzn := (mem_nb.1 hznb).1
    have hsl' := nodup_le wk'.nd fun s hs => (wk'.ok s hs).1
    by_cases hzm : z ∈ seen'
    · rw [if_neg (by simp [hzm])]
      exact hN _ ⟨seen', W', _, rfl, wk', hy', fun w hw => (hz w hw).elim .inl fun h => (List.mem_cons.1 h).elim (fun e => .inl (by rw [e]; exact hzm)) .inr, fun w hw => hzs w (List.mem_cons_of_mem _ hw), hm⟩
    rw [if_pos (by simp [hzm])]
    trivial
    have hnew : (seen' ++ [z]).length ≤ n := nodup_le (List.nodup_append.2 ⟨wk'.nd, by simp, fun a ha b hb e => hzm (by rw [← List.mem_singleton.1 hb, ← e]; exact ha)⟩) fun s hs => by
      rcases List.mem_append.1 hs with h | h
      · exact (wk'.ok s h).1
      · rw [List.mem_singleton.1 h]; exact hzn
    have hzr : Rch n gs T x z := .step hyr hyt hznb
    have hl1 : (seen' ++ [z]).length = seen'.length + 1 := by simp
    refine ⟨⟨a3, _, rfl⟩, a3, _, .inl (z : Int), rfl, rfl, by rw [List.length_map]; exact Nat.lt_of_lt_of_le (by omega : seen'.length < 100) (by decide), ?_⟩
    rw [put_seen hzm]
    have wk2 : ∀ W2, (∀ s ∈ W2, (s ∈ W' ∨ s = z) ∧ (s = x ∨ s ∈ T)) → (∀ s ∈ W', s ∈ W2) → (z ∈ T → z ∈ W2) → W2.length ≤ W'.length + 1 → Wk n gs T x (seen' ++ [z]) W2 (fun s => s ≠ y) := fun W2 h1 h2 h3 h4 =>
      ⟨List.nodup_append.2 ⟨wk'.nd, by simp, fun a ha b hb e => hzm (by rw [← List.mem_singleton.1 hb, ← e]; exact ha)⟩, fun s hs => by
        rcases List.mem_append.1 hs with h | h
        · exact wk'.ok s h
        · rw [List.mem_singleton.1 h]; exact ⟨hzn, hzr⟩, List.mem_append_left _ wk'.xin, fun s hs => ⟨by
        rcases (h1 s hs).1 with h | h
        · exact List.mem_append_left _ (wk'.sub s h).1
        · rw [h]; simp, (h1 s hs).2⟩, fun s hs g1 g2 g3 w hw => by
        rcases List.mem_append.1 hs with h | h
        · exact List.mem_append_left _ (wk'.cl s h g1 (fun m => g2 (h2 s m)) g3 w hw)
        · rw [List.mem_singleton.1 h] at g1 g2
          rcases g1 with e | e
          · exact absurd (e ▸ wk'.xin) hzm
          · exact absurd (h3 e) g2, by rw [hl1]; have := wk'.wl; omega⟩
    have hz2 : ∀ w ∈ nb n gs y, w ∈ seen' ++ [z] ∨ w ∈ zs := fun w hw => (hz w hw).elim (fun h => .inl (List.mem_append_left _ h)) fun h => (List.mem_cons.1 h).elim (fun e => .inl (by rw [e]; simp)) .inr
    have hzs2 : ∀ w ∈ zs, w ∈ nb n gs y := fun w hw => hzs w (List.mem_cons_of_mem _ hw)
    have hwl' : W'.length ≤ 100 := by have := wk'.wl; omega
    have fin : if (D.int (z : Int)).isIn (nD T) = true then (nD W').length < sizeLine ∧ N [.ext (tiD n gs), .ext Z, dI (x : Nat), seenS a3 (seen' ++ [z]), .lst a4 (nD W' ++ [.int (z : Nat)]), dI (y : Nat), dI (z : Nat), .un] else N [.ext (tiD n gs), .ext Z, dI (x : Nat), seenS a3 (seen' ++ [z]), .lst a4 (nD W'), dI (y : Nat), dI (z : Nat), .un] := by
      rw [isIn_nat]
      by_cases hzT : z ∈ T
      · rw [if_pos (by simpa using hzT)]
        refine ⟨by rw [nD_len]; exact Nat.lt_of_le_of_lt hwl' (by decide), hN _ ⟨seen' ++ [z], W' ++ [z], _, by rw [nD_app]; rfl, wk2 (W' ++ [z]) (fun s hs => ?_) (fun s hs => List.mem_append_left _ hs) (fun _ => by simp) (by simp), List.mem_append_left _ hy', hz2, hzs2, ?_⟩⟩
        · rcases List.mem_append.1 hs with h | h
          · exact ⟨.inl h, (wk'.sub s h).2⟩
          · have e := List.mem_singleton.1 h
            exact ⟨.inr e, .inr (by rw [e]; exact hzT)⟩
        · rw [hl1, List.length_append, List.length_singleton]; omega
      · rw [if_neg (by simpa using hzT)]
        refine hN _ ⟨seen' ++ [z], W', _, rfl, wk2 W' (fun s hs => ⟨.inl hs, (wk'.sub s hs).2⟩) (fun s hs => hs) (fun h => absurd h hzT) (by omega), List.mem_append_left _ hy', hz2, hzs2, ?_⟩
        rw [hl1]; omega
    rcases hZ with rfl | rfl
    · exact ⟨rfl, flat_nD _, fin⟩
    · exact ⟨rfl, flat_nD _, fin⟩
end LS
namespace LS
open PySem L2 HD PM
local macro_rules | `(tactic| trivial) => `(tactic| try simp -dsimp only [↓sIf, ↓sRet, ↓retD_ext, ↓retD_lst, ↓retD_al, ↓sSet, ↓sSetE, ↓sAsg, ↓sDrop, ↓sNext, ↓sFor, ↓sRetN, ↓sCont, ↓sBreak, ↓dTest, ↓dOp, ↓dVar_w, ↓dC, ↓dCons, ↓dNil, ↓dTup, ↓dLst, ↓frzDs, ↓frzD_ext, ↓frzD_lst, ↓frzD_al, ↓wd_ext, ↓wd_lst, ↓wd_al, ↓wds, ↓AtS_ext, ↓AtS_lst, ↓AtL, ↓fAdd, ↓fSub, ↓fMul, ↓fDiv, ↓fMod, ↓fPow, ↓fCmp, ↓fIn, ↓fEq_ii, ↓fEq_ss, ↓fEq_bb, ↓fEq_tt, ↓fEq_ll, ↓fNe_ii, ↓fNe_ss, ↓fNe_bb, ↓fNe_tt, ↓fNe_ll, ↓fIx_l, ↓fIx_t, ↓fIx_k, ↓fIx_f, ↓GetS_some, ↓NatS_some, ↓fSl, ↓fIsN, ↓fNotN, ↓D.knN, ↓dNot, ↓dAnd, ↓dOr, ↓dAndV_w, ↓dOrV_w, ↓dNotV, ↓dIf, ↓dNeg, ↓dChain_w, ↓BlS_bl, ↓dCall_w, ↓dCallJ_w, ↓anyAl, ↓frozs, ↓froz, ↓gSet, ↓gTupD, ↓gsCons, ↓gsNil, ↓dSeq, ↓seqD_tup, ↓seqD_elst, ↓seqD_lst, ↓seqD_al, ↓dRange1, ↓dRange2, ↓dZip, ↓dCB, ↓dLc, ↓dYes, ↓dNoPart, ↓dPart, ↓dSl, ↓fLen, ↓fMin, ↓fMax, ↓fSum, ↓fAll, ↓fAny, ↓fSorted, ↓fTuple, ↓fList, ↓dRg1, ↓dRg2, ↓dLstRg, ↓dTupRg, ↓dIndex, ↓fIdx, ↓dAppend_w, ↓dExtend_w, ↓extD_lst, ↓dPopAt_w, ↓popD_int, ↓dPop_w, ↓mutD_w, ↓sSetItem_w, ↓setD_int, ↓dSortSet, ↓dTable_w, ↓wipeE, finals1, finals2, finals3, finals4, finals5, finals6, fin1_ext, fin1_lst, List.getElem?_cons_zero, List.getElem?_cons_succ, List.getElem?_nil, List.set_cons_zero, List.set_cons_succ, List.cons_append, List.nil_append, List.append_nil, List.replicate_succ, List.replicate_zero, List.map_cons, List.map_nil, List.length_cons, List.length_nil, true_and, and_true, ite_true, ite_false, if_true, if_false, Bool.false_eq_true, decide_eq_true_eq, Sl.plain, D.isSq, eq_self_iff_true, forall_const, reduceIte, true_or, or_true, atI_0, atI_1, atI_2, atI_3, ixN_0, ixN_1, ixN_2, AtS_ext, AtS_lst, FzS_lst, FzS_ext, GetS_some, NatS_some, ↓fIsi1, ↓fIsi2, BoolS_some, HD.kb_non_tuple, HD.kb_non_list, HD.kb_non_bool, HD.kb_non_int, HD.kb_non_str, HD.kb_bl_tuple, HD.kb_bl_list, HD.kb_bl_bool, HD.kb_bl_int, HD.kb_bl_str, HD.kb_int_tuple, HD.kb_int_list, HD.kb_int_bool, HD.kb_int_int, HD.kb_int_str, HD.kb_str_tuple, HD.kb_str_list, HD.kb_str_bool, HD.kb_str_int, HD.kb_str_str, HD.kb_lst_tuple, HD.kb_lst_list, HD.kb_lst_bool, HD.kb_lst_int, HD.kb_lst_str, HD.kb_tup_tuple, HD.kb_tup_list, HD.kb_tup_bool, HD.kb_tup_int, HD.kb_tup_str, ↓sFz_w, ↓FzS_lst, ↓FzS_ext, ↓dSortSetL, ↓fAbs, ↓fInt, ↓fRepr, ↓fLtT, ↓sRaise, ↓sTryKeep, ↓dCallV_w, ↓dMeth, ↓fCount, ↓fSplit, ↓seq_setE, ↓seq_set, ↓seq_drop, ↓seq_asg, ↓seq_if, ↓seq_for, ↓dStep, ↓fStep, ↓fMulT, ↓fIsB, ↓fNotB, ↓sPar, ↓dEnum, ↓dListZip, ↓dNest, ↓sSeal, ↓dNApp, ↓retD_reg, ↓dLenSet, ↓fSum2, ↓seq_putD, ↓seq_sealD, ↓dDIn, ↓dDGet, ↓sPutD, ↓dDNew, ↓dDOne, ↓sSealD, ↓dKeys, ↓keyS_dk, ↓dExtT])
def OrderD (many : Int) (d : D) : Prop := ∃ ns : List Nat, d = .tup (nD ns) ∧ ns.Nodup ∧ ∀ n ∈ ns, (n : Int) < many
def ShortT (d : D) : Prop := ∀ ds, d = .tup ds → ds.length < 3000
theorem cI_nodup {ns : List Nat} : (cI ns).Nodup ↔ ns.Nodup := by
  unfold cI List.Nodup
  rw [List.pairwise_map]
  constructor
  · intro h; exact h.imp fun {a b} z e => z (by rw [e])
  · intro h; exact h.imp fun {a b} z e => z (by omega)
def sp_is_order : DSpec := fun args Q _ => ∃ (many : Int) (d : D) (k : Nat), args = [dI many, .ext d] ∧ D.pl k d = true ∧ ShortT d ∧ ∀ (b : Bool) fin, (b = true ↔ OrderD many d) → Q (.ext (.bl b)) fin
def e1_is_order : DT :=
    (dAndV (dCall sp_is_whole (dCons (dVar 2) dNil)) (dChain (fCmp fun i j => decide (i ≤ j)) (fCmp fun i j => decide (i < j)) (dC (.int 0)) (dVar 2) (dVar 0)))
def k2_is_order : DTS :=
    (sRet (dOp fEq (dLenSet (dVar 1)) (dCB fLen (dCons (dVar 1) dNil))))
def t_is_order : DTS :=
    (sSeq (sIf (dOr (dNot (dTest (dCB fIsi (dCons (dVar 1) (dCons (dC (.val (.ty "tuple"))) dNil))))) (dNot (dTest (dCB fAll (dCons (dLc (dSeq (dVar 1)) (gSet 2) dYes e1_is_order [2]) dNil))))) (sRet (dC (.bl false))) sNext)
    k2_is_order)
theorem q1_is_order {Q : Sl → Env' → Prop} {many : Int} {s1 : Sl} {k : Nat} (ds : List D) : ∀ acc : List Bool, (∀ d ∈ ds, D.pl k d = true) → acc.length + ds.length ≤ 200000 → (∀ b, Q (.lst b ((acc ++ ds.map (inR many)).map D.bl)) [dI many, s1, .un]) →
    lcD (gSet 2) dYes e1_is_order [2] (fun _ => True) Q ds (acc.map D.bl) [dI many, s1, .un] := by
  induction ds with
  | nil => intro acc _ _ hQ; exact ⟨True.intro, fun b => by simpa using hQ b⟩
  | cons d ds ih =>
    intro acc hp hl hQ
    rw [List.length_cons] at hl
    rw [lcD]
    unfold e1_is_order
    trivial
    refine ⟨by rw [List.length_map]; exact Nat.lt_of_le_of_lt (by omega : acc.length ≤ 200000) (by decide), d, k, rfl, hp d List.mem_cons_self, fun fin => ?_⟩
    trivial
    have next : ∀ b : Bool, b = inR many d → lcD (gSet 2) dYes e1_is_order [2] (fun _ => True) Q ds (acc.map D.bl ++ [.bl b]) [dI many, s1, .un] := by
      intro b hb
      have := ih (acc ++ [b]) (fun e he => hp e (List.mem_cons_of_mem _ he)) (by rw [List.length_append, List.length_singleton]; omega) (fun a => by rw [hb]; simpa using hQ a)
      rw [List.map_append] at this
      exact this
    cases d with
    | int i =>
      rw [if_pos (show D.isInt (.int i) = true from rfl)]
      trivial
      split
      · refine next _ ?_
        rename_i h0
        simp [inR, h0]
      · refine next _ ?_
        rename_i h0
        simp [inR, h0]
    | _ =>
      rw [if_neg (by simp [D.isInt])]
      exact next _ rfl
theorem m_is_order : Meets t_is_order 2 1 sp_is_order := by
  rintro args Qd Xd ⟨many, d, k, rfl, hp, hsh, hQ⟩
  have nv := pl_noVal k d hp
  show t_is_order _ _ [_, _, .un]
  unfold t_is_order
  cases d with
  | val _ => cases k <;> simp [D.pl] at hp
  | fz _ => cases k <;> simp [D.pl] at hp
  | tk _ => cases k <;> simp [D.pl] at hp
  | exc _ => cases k <;> simp [D.pl] at hp
  | glo _ => cases k <;> simp [D.pl] at hp
  | dk _ _ => cases k <;> simp [D.pl] at hp
  | dt _ _ => cases k <;> simp [D.pl] at hp
  | tup ds =>
    cases k with
    | zero => simp [D.pl] at hp
    | succ k =>
      rw [D.pl, Bool.and_eq_true, List.all_eq_true, decide_eq_true_eq] at hp
      trivial
      simp only [nv, D.isFz, true_and, Bool.not_true, Bool.false_eq_true, if_false]
      refine q1_is_order (k := k) ds [] hp.2 (by simp; omega) fun b => ?_
      trivial
      refine ⟨ds.map (inR many), rfl, ?_⟩
      have ea : (ds.map (inR many)).all id = ds.all (inR many) := by rw [List.all_map]; rfl
      rw [ea]
      by_cases h : ds.all (inR many) = true
      · rw [h, if_neg (by simp)]
        obtain ⟨ns, rfl, hns⟩ := all_inR h
        have hl := hsh _ rfl
        rw [nD_len] at *
        unfold k2_is_order
        trivial
        refine ⟨cI ns, (iD_nat ns).symm, by rw [List.length_map]; exact hl, fun m hm => ?_⟩
        trivial
        rw [nD_len]
        refine hQ _ _ ?_
        rw [List.length_map, cI_nodup] at hm
        rw [beq_iff_eq]
        constructor
        · intro e
          exact ⟨ns, rfl, hm.1 (by omega), hns⟩
        · rintro ⟨ns', e, nd, _⟩
          have e' : ns = ns' := nD_inj (D.tup.inj e)
          subst e'
          rw [hm.2 nd]
      · have hf : ds.all (inR many) = false := by simpa using h
        rw [hf, if_pos (by simp)]
        refine hQ _ _ ⟨fun z => by simp at z, ?_⟩
        rintro ⟨ns, e, _, hn⟩
        have e := D.tup.inj e
        subst e
        exact absurd (inR_all hn) h
  | _ =>
    trivial
    simp only [nv, D.isFz, true_and, Bool.not_false, if_true]
    exact hQ _ _ ⟨fun z => by simp at z, fun ⟨_, e, _⟩ => by simp at e⟩
end LS
namespace LS
open PySem L2 HD PM
local macro_rules | `(tactic| trivial) => `(tactic| try simp -dsimp only [↓sIf, ↓sRet, ↓retD_ext, ↓retD_lst, ↓retD_al, ↓sSet, ↓sSetE, ↓sAsg, ↓sDrop, ↓sNext, ↓sFor, ↓sRetN, ↓sCont, ↓sBreak, ↓dTest, ↓dOp, ↓dVar_w, ↓dC, ↓dCons, ↓dNil, ↓dTup, ↓dLst, ↓frzDs, ↓frzD_ext, ↓frzD_lst, ↓frzD_al, ↓wd_ext, ↓wd_lst, ↓wd_al, ↓wds, ↓AtS_ext, ↓AtS_lst, ↓AtL, ↓fAdd, ↓fSub, ↓fMul, ↓fDiv, ↓fMod, ↓fPow, ↓fCmp, ↓fIn, ↓fEq_ii, ↓fEq_ss, ↓fEq_bb, ↓fEq_tt, ↓fEq_ll, ↓fNe_ii, ↓fNe_ss, ↓fNe_bb, ↓fNe_tt, ↓fNe_ll, ↓fIx_l, ↓fIx_t, ↓fIx_k, ↓fIx_f, ↓GetS_some, ↓NatS_some, ↓fSl, ↓fIsN, ↓fNotN, ↓D.knN, ↓dNot, ↓dAnd, ↓dOr, ↓dAndV_w, ↓dOrV_w, ↓dNotV, ↓dIf, ↓dNeg, ↓dChain_w, ↓BlS_bl, ↓dCall_w, ↓dCallJ_w, ↓anyAl, ↓frozs, ↓froz, ↓gSet, ↓gTupD, ↓gsCons, ↓gsNil, ↓dSeq, ↓seqD_tup, ↓seqD_elst, ↓seqD_lst, ↓seqD_al, ↓dRange1, ↓dRange2, ↓dZip, ↓dCB, ↓dLc, ↓dYes, ↓dNoPart, ↓dPart, ↓dSl, ↓fLen, ↓fMin, ↓fMax, ↓fSum, ↓fAll, ↓fAny, ↓fSorted, ↓fTuple, ↓fList, ↓dRg1, ↓dRg2, ↓dLstRg, ↓dTupRg, ↓dIndex, ↓fIdx, ↓dAppend_w, ↓dExtend_w, ↓extD_lst, ↓dPopAt_w, ↓popD_int, ↓dPop_w, ↓mutD_w, ↓sSetItem_w, ↓setD_int, ↓dSortSet, ↓dTable_w, ↓wipeE, finals1, finals2, finals3, finals4, finals5, finals6, fin1_ext, fin1_lst, List.getElem?_cons_zero, List.getElem?_cons_succ, List.getElem?_nil, List.set_cons_zero, List.set_cons_succ, List.cons_append, List.nil_append, List.append_nil, List.replicate_succ, List.replicate_zero, List.map_cons, List.map_nil, List.length_cons, List.length_nil, true_and, and_true, ite_true, ite_false, if_true, if_false, Bool.false_eq_true, decide_eq_true_eq, Sl.plain, D.isSq, eq_self_iff_true, forall_const, reduceIte, true_or, or_true, atI_0, atI_1, atI_2, atI_3, ixN_0, ixN_1, ixN_2, AtS_ext, AtS_lst, FzS_lst, FzS_ext, GetS_some, NatS_some, ↓fIsi1, ↓fIsi2, BoolS_some, HD.kb_non_tuple, HD.kb_non_list, HD.kb_non_bool, HD.kb_non_int, HD.kb_non_str, HD.kb_bl_tuple, HD.kb_bl_list, HD.kb_bl_bool, HD.kb_bl_int, HD.kb_bl_str, HD.kb_int_tuple, HD.kb_int_list, HD.kb_int_bool, HD.kb_int_int, HD.kb_int_str, HD.kb_str_tuple, HD.kb_str_list, HD.kb_str_bool, HD.kb_str_int, HD.kb_str_str, HD.kb_lst_tuple, HD.kb_lst_list, HD.kb_lst_bool, HD.kb_lst_int, HD.kb_lst_str, HD.kb_tup_tuple, HD.kb_tup_list, HD.kb_tup_bool, HD.kb_tup_int, HD.kb_tup_str, ↓sFz_w, ↓FzS_lst, ↓FzS_ext, ↓dSortSetL, ↓fAbs, ↓fInt, ↓fRepr, ↓fLtT, ↓sRaise, ↓sTryKeep, ↓dCallV_w, ↓dMeth, ↓fCount, ↓fSplit, ↓seq_setE, ↓seq_set, ↓seq_drop, ↓seq_asg, ↓seq_if, ↓seq_for, ↓dStep, ↓fStep, ↓fMulT, ↓fIsB, ↓fNotB, ↓sPar, ↓dEnum, ↓dListZip, ↓dNest, ↓sSeal, ↓dNApp, ↓retD_reg, ↓dLenSet, ↓fSum2, ↓seq_putD, ↓seq_sealD, ↓dDIn, ↓dDGet, ↓sPutD, ↓dDNew, ↓dDOne, ↓sSealD, ↓dKeys, ↓keyS_dk, ↓dExtT])
local macro_rules | `(tactic| and_intros) => `(tactic| try simp -dsimp only [↓sIf, ↓sRet, ↓retD_ext, ↓retD_lst, ↓retD_al, ↓sSet, ↓sSetE, ↓sAsg, ↓sDrop, ↓sNext, ↓sFor, ↓sRetN, ↓sCont, ↓sBreak, ↓dTest, ↓dOp, ↓dC, ↓dCons, ↓dNil, ↓dTup, ↓dLst, ↓frzDs, ↓frzD_ext, ↓frzD_lst, ↓frzD_al, ↓wd_ext, ↓wd_lst, ↓wd_al, ↓wds, ↓AtS_ext, ↓AtS_lst, ↓AtL, ↓fAdd, ↓fSub, ↓fMul, ↓fDiv, ↓fMod, ↓fPow, ↓fCmp, ↓fIn, ↓fEq_ii, ↓fEq_ss, ↓fEq_bb, ↓fEq_tt, ↓fEq_ll, ↓fNe_ii, ↓fNe_ss, ↓fNe_bb, ↓fNe_tt, ↓fNe_ll, ↓fIx_l, ↓fIx_t, ↓fIx_k, ↓fIx_f, ↓GetS_some, ↓NatS_some, ↓fSl, ↓fIsN, ↓fNotN, ↓D.knN, ↓dNot, ↓dAnd, ↓dOr, ↓dAndV_w, ↓dOrV_w, ↓dNotV, ↓dIf, ↓dNeg, ↓dChain_w, ↓BlS_bl, ↓dCall_w, ↓dCallJ_w, ↓anyAl, ↓frozs, ↓froz, ↓gSet, ↓gTupD, ↓gsCons, ↓gsNil, ↓dSeq, ↓seqD_tup, ↓seqD_elst, ↓seqD_lst, ↓seqD_al, ↓dRange1, ↓dRange2, ↓dZip, ↓dCB, ↓dLc, ↓dYes, ↓dNoPart, ↓dPart, ↓dSl, ↓fLen, ↓fMin, ↓fMax, ↓fSum, ↓fAll, ↓fAny, ↓fSorted, ↓fTuple, ↓fList, ↓dRg1, ↓dRg2, ↓dLstRg, ↓dTupRg, ↓dIndex, ↓fIdx, ↓dAppend_w, ↓dExtend_w, ↓extD_lst, ↓dPopAt_w, ↓popD_int, ↓dPop_w, ↓mutD_w, ↓sSetItem_w, ↓setD_int, ↓dSortSet, ↓dTable_w, ↓wipeE, finals1, finals2, finals3, finals4, finals5, finals6, fin1_ext, fin1_lst, List.getElem?_cons_zero, List.getElem?_cons_succ, List.getElem?_nil, List.set_cons_zero, List.set_cons_succ, List.cons_append, List.nil_append, List.append_nil, List.replicate_succ, List.replicate_zero, List.map_cons, List.map_nil, List.length_cons, List.length_nil, true_and, and_true, ite_true, ite_false, if_true, if_false, Bool.false_eq_true, decide_eq_true_eq, Sl.plain, D.isSq, eq_self_iff_true, forall_const, reduceIte, true_or, or_true, atI_0, atI_1, atI_2, atI_3, ixN_0, ixN_1, ixN_2, AtS_ext, AtS_lst, FzS_lst, FzS_ext, GetS_some, NatS_some, ↓fIsi1, ↓fIsi2, BoolS_some, HD.kb_non_tuple, HD.kb_non_list, HD.kb_non_bool, HD.kb_non_int, HD.kb_non_str, HD.kb_bl_tuple, HD.kb_bl_list, HD.kb_bl_bool, HD.kb_bl_int, HD.kb_bl_str, HD.kb_int_tuple, HD.kb_int_list, HD.kb_int_bool, HD.kb_int_int, HD.kb_int_str, HD.kb_str_tuple, HD.kb_str_list, HD.kb_str_bool, HD.kb_str_int, HD.kb_str_str, HD.kb_lst_tuple, HD.kb_lst_list, HD.kb_lst_bool, HD.kb_lst_int, HD.kb_lst_str, HD.kb_tup_tuple, HD.kb_tup_list, HD.kb_tup_bool, HD.kb_tup_int, HD.kb_tup_str, ↓sFz_w, ↓FzS_lst, ↓FzS_ext, ↓dSortSetL, ↓fAbs, ↓fInt, ↓fRepr, ↓fLtT, ↓sRaise, ↓sTryKeep, ↓dCallV_w, ↓dMeth, ↓fCount, ↓fSplit, ↓seq_setE, ↓seq_set, ↓seq_drop, ↓seq_asg, ↓seq_if, ↓seq_for, ↓dStep, ↓fStep, ↓fMulT, ↓fIsB, ↓fNotB, ↓sPar, ↓dEnum, ↓dListZip, ↓dNest, ↓sSeal, ↓dNApp, ↓retD_reg, ↓dLenSet, ↓fSum2, ↓seq_putD, ↓seq_sealD, ↓dDIn, ↓dDGet, ↓sPutD, ↓dDNew, ↓dDOne, ↓sSealD, ↓dKeys, ↓keyS_dk, ↓dExtT, ↓dv0, ↓dw0, ↓dv1, ↓dw1, ↓dv2, ↓dw2, ↓dv3, ↓dw3, ↓dv4, ↓dw4, ↓dv5, ↓dw5, ↓dv6, ↓dw6, ↓dv7, ↓dw7, ↓dv8, ↓dw8, ↓dv9, ↓dw9, ↓dv10, ↓dw10, ↓dv11, ↓dw11, ↓dv12, ↓dw12, ↓dv13, ↓dw13, ↓dv14, ↓dw14, ↓dv15, ↓dw15, ↓dv16, ↓dw16, ↓dv17, ↓dw17, ↓dv18, ↓dw18, ↓dv19, ↓dw19])
def sp_law_tied : DSpec := sp_ties_of
def b1_law_tied : DTS :=
    (sIf (dTest (dOp (fIn false) (dVar 2) (dOp fIx (dVar 4) (dC (.int 0))))) (sDrop (dExtT 3 (dOp fIx (dVar 4) (dC (.int 0))))) sNext)
def e2_law_tied : DT :=
    (dVar 5)
def k3_law_tied : DTS :=
    (sDrop (dAppend 1 (dLc (dRange1 (dCons (dCB fLen (dCons (dOp fIx (dVar 0) (dC (.int 0))) dNil)) dNil)) (gSet 5) (dAnd (dTest (dOp fNe (dVar 5) (dVar 2))) (dTest (dOp (fIn false) (dVar 5) (dVar 3)))) e2_law_tied [5])))
def b4_law_tied : DTS :=
    (sSeq (sSet 3 (dLst dNil))
    (sSeq (sFor (dSeq (dOp fIx (dVar 0) (dC (.int 1)))) (gSet 4) b1_law_tied)
    k3_law_tied))
def k5_law_tied : DTS :=
    (sRet (dVar 1))
def t_law_tied : DTS :=
    (sSeq (sSet 1 (dLst dNil))
    (sSeq (sFor (dRange1 (dCons (dCB fLen (dCons (dOp fIx (dVar 0) (dC (.int 0))) dNil)) dNil)) (gSet 2) b4_law_tied)
    k5_law_tied))
theorem m_law_tied : Meets t_law_tied 1 5 sp_law_tied := by
  rintro args Qd Xd ⟨S, ps, rfl, ok, hQ⟩
  show t_law_tied _ _ [_, .un, .un, .un, .un, .un]
  unfold t_law_tied
  and_intros
  refine ⟨Nat.zero_le _, fun a1 => ?_⟩
  have h24 := ok.few
  have hnl : ∀ p ∈ ps, p.ns.length ≤ 24 := fun p hp => Nat.le_trans (rising_len (ok.ok p hp).1 (ok.ok p hp).2) h24
  rw [nD_len, rgD_nat]
  refine ⟨⟨by omega, by omega⟩, ?_⟩
  refine for_ind (fun x : Nat => D.int (x : Nat)) (fun xs env => ∃ (pre : List Nat) (u2 u3 u4 : Sl), env = [.ext (dSh S ps), .lst a1 (pre.map fun a => D.lst (nD (nb S.length (gsOf ps) a))), u2, u3, u4, .un] ∧ List.range S.length = pre ++ xs) ?_ ?_ (List.range S.length) _ ⟨[], _, _, _, rfl, rfl⟩
  · rintro env ⟨pre, u2, u3, u4, rfl, he⟩
    refine ⟨True.intro, ?_⟩
    rw [List.append_nil] at he
    subst he
    unfold k5_law_tied
    and_intros
    exact hQ _ _
  rintro x xs env N ⟨pre, u2, u3, u4, rfl, he⟩ hN
  have hlen := congrArg List.length he
  rw [List.length_range, List.length_append, List.length_cons] at hlen
  have hx : x < S.length := List.mem_range.1 (by rw [he]; simp)
  refine ⟨True.intro, ?_⟩
  unfold b4_law_tied
  and_intros
  refine ⟨Nat.zero_le _, fun a3 => ?_⟩
  trivial
  refine for_ind (fun p : Part => dP p) (fun qs env => ∃ (pr : List Part) (u4 : Sl), env = [.ext (dSh S ps), .lst a1 (pre.map fun a => D.lst (nD (nb S.length (gsOf ps) a))), dI (x : Nat), .lst a3 (nD (nearL x pr)), u4, .un] ∧ ps = pr ++ qs) ?_ ?_ ps _ ⟨[], _, rfl, rfl⟩
  · rintro env ⟨pr, u4, rfl, hp⟩
    refine ⟨True.intro, ?_⟩
    rw [List.append_nil] at hp
    subst hp
    unfold k3_law_tied
    and_intros
    rw [nD_len, rgD_nat]
    refine ⟨⟨by omega, by omega⟩, ?_⟩
    refine lc_filter (fun y : Nat => D.int (y : Nat)) (fun y => .int (y : Nat)) (fun y => (y != x) && decide (y ∈ nearL x ps)) True.intro (List.range S.length) (by rw [List.length_range]; exact Nat.le_trans h24 (by decide)) (fun y hy R hR => ?_) fun b => ?_
    · unfold e2_law_tied
      trivial
      rw [isIn_nat]
      by_cases e : y = x
      · subst e
        rw [if_neg (by simp)]
        rw [if_neg (by simp)] at hR
        exact hR
      · rw [if_pos (by simpa using fun z : (y : Int) = x => e (by omega))]
        refine ⟨rfl, flat_nD _, ?_⟩
        by_cases hm : y ∈ nearL x ps
        · rw [if_pos (by simpa using hm)]
          rw [if_pos (by simp [e, hm])] at hR
          exact hR
        · rw [if_neg (by simpa using hm)]
          rw [if_neg (by simp [e, hm])] at hR
          exact hR
    trivial
    refine ⟨by rw [List.length_map]; exact Nat.lt_of_lt_of_le (by omega : pre.length < 100) (by decide), hN _ ⟨pre ++ [x], dI (x : Nat), .lst a3 (nD (nearL x ps)), u4, ?_, by rw [he]; simp⟩⟩
    rw [← nb_near, List.map_append]
    rfl
  rintro p qs env N' ⟨pr, u4, rfl, hp⟩ hN'
  refine ⟨True.intro, ?_⟩
  unfold b1_law_tied
  and_intros
  rw [isIn_nat]
  refine ⟨rfl, flat_nD _, ?_⟩
  have hpm : p ∈ ps := by rw [hp]; simp
  have hnear : (nearL x pr).length ≤ pr.length * 24 := nearL_len fun q hq => hnl q (by rw [hp]; exact List.mem_append_left _ hq)
  have hpl := congrArg List.length hp
  rw [List.length_append, List.length_cons] at hpl
  have hps := ok.many
  have hp24 := hnl p hpm
  by_cases hm : x ∈ p.ns
  · rw [if_pos (by simpa using hm)]
    refine ⟨⟨a3, _, rfl⟩, a3, _, _, rfl, rfl, ?_, hN' _ ⟨pr ++ [p], .ext (dP p), ?_, by rw [hp]; simp⟩⟩
    · rw [nD_len, nD_len]
      exact Nat.le_trans (by omega : _ ≤ 1000000) (by decide)
    · rw [nearL_snoc, if_pos hm, nD_app]
  · rw [if_neg (by simpa using hm)]
    exact hN' _ ⟨pr ++ [p], .ext (dP p), by rw [nearL_snoc, if_neg hm, List.append_nil], by rw [hp]; simp⟩
def sp_law_bag : DSpec := sp_bag_by
def e1_law_bag : DT :=
    (dVar 5)
def k2_law_bag : DTS :=
    (sSetE 4 (dOp fAdd (dVar 4) (dC (.int 1))))
def b3_law_bag : DTS :=
    (sSeq (sIf (dOr (dTest (dOp fEq (dOp fIx (dVar 3) (dVar 4)) (dVar 2))) (dTest (dOp (fIn false) (dOp fIx (dVar 3) (dVar 4)) (dVar 1)))) (sSetE 3 (dOp fAdd (dVar 3) (dLc (dSeq (dOp fIx (dVar 0) (dOp fIx (dVar 3) (dVar 4)))) (gSet 5) (dTest (dOp (fIn true) (dVar 5) (dVar 3))) e1_law_bag [5]))) sNext)
    k2_law_bag)
def e4_law_bag : DT :=
    (dVar 6)
def k5_law_bag : DTS :=
    (sRet (dCB fTuple (dCons (dCB fSorted (dCons (dLc (dSeq (dVar 3)) (gSet 6) (dOr (dTest (dOp fEq (dVar 6) (dVar 2))) (dTest (dOp (fIn true) (dVar 6) (dVar 1)))) e4_law_bag [6]) dNil)) dNil)))
def t_law_bag : DTS :=
    (sSeq (sSetE 3 (dLst (dCons (dVar 2) dNil)))
    (sSeq (sSetE 4 (dC (.int 0)))
    (sSeq (sWhile (dTest (dOp (fCmp fun i j => decide (i < j)) (dVar 4) (dCB fLen (dCons (dVar 3) dNil)))) b3_law_bag)
    k5_law_bag)))
structure Wl (n : Nat) (gs : List (List Nat)) (T : List Nat) (x : Nat) (F : List Nat) (at' : Nat) : Prop where
  nd : F.Nodup
  ok : ∀ s ∈ F, s < n ∧ Rch n gs T x s
  xin : x ∈ F
  cl : ∀ j s, j < at' → F[j]? = some s → (s = x ∨ s ∈ T) → ∀ z ∈ nb n gs s, z ∈ F
  le : at' ≤ F.length
theorem Wl.grow {n : Nat} {gs : List (List Nat)} {T : List Nat} {x : Nat} {F : List Nat} {at' s : Nat} (wl : Wl n gs T x F at') (hs : F[at']? = some s) (h : s = x ∨ s ∈ T) : Wl n gs T x (F ++ (nb n gs s).filter fun z => !decide (z ∈ F)) (at' + 1) := by
  have hat : at' < F.length := (List.getElem?_eq_some_iff.1 hs).1
  have hsF : s ∈ F := List.mem_of_getElem? hs
  refine ⟨List.nodup_append.2 ⟨wl.nd, ?_, fun a ha b hb e => ?_⟩, fun z hz => ?_, List.mem_append_left _ wl.xin, fun j t hj ht h1 z hz => ?_, by rw [List.length_append]; omega⟩
  · unfold nb
    exact (List.nodup_range.filter _).filter _
  · have := (List.mem_filter.1 hb).2
    rw [← e] at this
    simp [ha] at this
  · rcases List.mem_append.1 hz with h2 | h2
    · exact wl.ok z h2
    · have h3 := (List.mem_filter.1 h2).1
      exact ⟨(mem_nb.1 h3).1, .step (wl.ok s hsF).2 h h3⟩
  · by_cases e : j = at'
    · subst e
      rw [List.getElem?_append_left hat, hs] at ht
      cases ht
      by_cases hzF : z ∈ F
      · exact List.mem_append_left _ hzF
      · exact List.mem_append_right _ (List.mem_filter.2 ⟨hz, by simp [hzF]⟩)
    · rw [List.getElem?_append_left (by omega)] at ht
      exact List.mem_append_left _ (wl.cl j t (by omega) ht h1 z hz)
theorem Wl.skip {n : Nat} {gs : List (List Nat)} {T : List Nat} {x : Nat} {F : List Nat} {at' s : Nat} (wl : Wl n gs T x F at') (hs : F[at']? = some s) (h : ¬ (s = x ∨ s ∈ T)) : Wl n gs T x F (at' + 1) := by
  have hat : at' < F.length := (List.getElem?_eq_some_iff.1 hs).1
  refine ⟨wl.nd, wl.ok, wl.xin, fun j t hj ht h1 z hz => ?_, by omega⟩
  by_cases e : j = at'
  · subst e
    rw [hs] at ht
    cases ht
    exact absurd h1 h
  · exact wl.cl j t (by omega) ht h1 z hz
theorem q1_law_bag {Q : Sl → Env' → Prop} {s0 s1 s2 s4 s6 : Sl} {F l : List Nat} (hl : l.length ≤ 100) (hQ : ∀ a, Q (.lst a (nD (l.filter fun z => !decide (z ∈ F)))) [s0, s1, s2, .ext (.lst (nD F)), s4, .un, s6]) :
    lcD (gSet 5) (dTest (dOp (fIn true) (dVar 5) (dVar 3))) e1_law_bag [5] (fun _ => True) Q (nD l) [] [s0, s1, s2, .ext (.lst (nD F)), s4, .un, s6] := by
  refine lc_filter (fun s : Nat => D.int (s : Nat)) (fun s => .int (s : Nat)) (fun s => !decide (s ∈ F)) True.intro l (Nat.le_trans hl (by decide)) (fun s hs R hR => ?_) fun b => hQ b
  unfold e1_law_bag
  trivial
  rw [isIn_nat]
  exact ⟨rfl, flat_nD _, R_if rfl hR⟩
theorem m_law_bag : Meets t_law_bag 3 4 sp_law_bag := by
  rintro args Qd Xd ⟨n, gs, T, Z, x, rfl, hZ, h24, hx, hxT, hQ⟩
  show t_law_bag _ _ [_, _, _, .un, .un, .un, .un]
  unfold t_law_bag
  and_intros
  refine ⟨by decide, ?_⟩
  refine ⟨fun m env => ∃ (F : List Nat) (at' : Nat), env = [.ext (tiD n gs), .ext Z, dI (x : Nat), .ext (.lst (nD F)), dI (at' : Nat), .un, .un] ∧ Wl n gs T x F at' ∧ m = 100 - at', ⟨_, [x], 0, rfl, ⟨by simp, fun s hs => by rw [List.mem_singleton.1 hs]; exact ⟨hx, .base⟩, by simp, fun j s hj => absurd hj (Nat.not_lt_zero _), Nat.zero_le _⟩, rfl⟩, ?_⟩
  rintro m env ⟨F, at', rfl, wl, rfl⟩
  have hF := nodup_le wl.nd fun s hs => (wl.ok s hs).1
  trivial
  rw [nD_len]
  by_cases hat : at' < F.length
  · rw [if_pos (by omega)]
    unfold b3_law_bag
    and_intros
    have hget : F[at']? = some (F[at']) := List.getElem?_eq_getElem hat
    have hgetD : (nD F)[at']? = some (.int ((F[at'] : Nat) : Int)) := by rw [List.getElem?_map, hget]; rfl
    generalize hs : F[at'] = s at hget hgetD
    have hsF : s ∈ F := List.mem_of_getElem? hget
    obtain ⟨hsn, hsr⟩ := wl.ok s hsF
    have hF2 : ∀ F2 : List Nat, Wl n gs T x F2 (at' + 1) → k2_law_bag (exOf [.ext (tiD n gs), .ext Z, dI (x : Nat)] Xd) { endsOf [.ext (tiD n gs), .ext Z, dI (x : Nat)] Qd with nx := fun env' => ∃ m', m' < 100 - at' ∧ ∃ F at', env' = [.ext (tiD n gs), .ext Z, dI (x : Nat), .ext (.lst (nD F)), dI (at' : Nat), .un, .un] ∧ Wl n gs T x F at' ∧ m' = 100 - at', ct := fun env' => ∃ m', m' < 100 - at' ∧ ∃ F at', env' = [.ext (tiD n gs), .ext Z, dI (x : Nat), .ext (.lst (nD F)), dI (at' : Nat), .un, .un] ∧ Wl n gs T x F at' ∧ m' = 100 - at', bk := fun env1 => k5_law_bag (exOf [.ext (tiD n gs), .ext Z, dI (x : Nat)] Xd) (endsOf [.ext (tiD n gs), .ext Z, dI (x : Nat)] Qd) env1 } [.ext (tiD n gs), .ext Z, dI (x : Nat), .ext (.lst (nD F2)), dI (at' : Nat), .un, .un] := fun F2 w2 => by
      unfold k2_law_bag
      and_intros
      exact ⟨100 - (at' + 1), by omega, F2, at' + 1, by rw [Int.natCast_add]; rfl, w2, rfl⟩
    have hnbl : (nb n gs s).length ≤ 100 := by
      unfold nb
      have := List.length_filter_le (tieB gs s) (List.range n)
      rw [List.length_range] at this
      omega
    have hix : atI (tiDs n gs) (s : Int) = some (D.lst (nD (nb n gs s))) := atN (by rw [List.getElem?_map, List.getElem?_range hsn]; rfl)
    refine ⟨_, atN hgetD, ?_⟩
    trivial
    by_cases hsx : s = x
    · rw [if_pos (by simp [hsx])]
      refine ⟨_, atN hgetD, ?_⟩
      trivial
      refine ⟨_, hix, ?_⟩
      trivial
      refine q1_law_bag hnbl fun b => ?_
      trivial
      have w2 := wl.grow hget (.inl hsx)
      have hl2 := nodup_le w2.nd fun s hs => (w2.ok s hs).1
      rw [List.length_append] at hl2
      refine ⟨by rw [nD_len, nD_len]; exact Nat.le_trans (by omega : _ ≤ 1000) (by decide), ?_⟩
      rw [← nD_app]
      exact hF2 _ w2
    · rw [if_neg (by simpa using fun z : (s : Int) = x => hsx (by omega))]
      refine ⟨_, atN hgetD, ?_⟩
      rcases hZ with rfl | rfl
      all_goals
        trivial
        rw [isIn_nat]
        refine ⟨rfl, flat_nD _, ?_⟩
        by_cases hsT : s ∈ T
        · rw [if_pos (by simpa using hsT)]
          refine ⟨_, atN hgetD, ?_⟩
          trivial
          refine ⟨_, hix, ?_⟩
          trivial
          refine q1_law_bag hnbl fun b => ?_
          trivial
          have w2 := wl.grow hget (.inr hsT)
          have hl2 := nodup_le w2.nd fun s hs => (w2.ok s hs).1
          rw [List.length_append] at hl2
          refine ⟨by rw [nD_len, nD_len]; exact Nat.le_trans (by omega : _ ≤ 1000) (by decide), ?_⟩
          rw [← nD_app]
          exact hF2 _ w2
        · rw [if_neg (by simpa using hsT)]
          exact hF2 _ (wl.skip hget (fun h => h.elim hsx hsT))
  · rw [if_neg (by omega)]
    unfold k5_law_bag
    and_intros
    have hall : ∀ z, Rch n gs T x z → z ∈ F := fun z hz => hz.closed (P := (· ∈ F)) wl.xin fun y hy h1 => by
      obtain ⟨j, hj, e⟩ := List.getElem_of_mem hy
      exact wl.cl j y (by omega) (by rw [List.getElem?_eq_getElem hj, e]) h1
    refine lc_filter (fun s : Nat => D.int (s : Nat)) (fun s => .int (s : Nat)) (fun s => decide (s = x) || !decide (s ∈ T)) True.intro F (Nat.le_trans (by omega : F.length ≤ 100) (by decide)) (fun s hs R hR => ?_) fun b => ?_
    · unfold e4_law_bag
      have fin : if ((s : Int) == (x : Int)) = true then R (some (.int (s : Nat))) [.ext (tiD n gs), .ext Z, dI (x : Nat), .ext (.lst (nD F)), dI (at' : Nat), .un, .un] else if (!(D.int (s : Int)).isIn (nD T)) = true then R (some (.int (s : Nat))) [.ext (tiD n gs), .ext Z, dI (x : Nat), .ext (.lst (nD F)), dI (at' : Nat), .un, .un] else R none [.ext (tiD n gs), .ext Z, dI (x : Nat), .ext (.lst (nD F)), dI (at' : Nat), .un, .un] := by
        rw [isIn_nat]
        by_cases e : s = x
        · rw [if_pos (by simp [e])]
          rw [if_pos (by simp [e])] at hR
          exact hR
        · rw [if_neg (by simpa using fun z : (s : Int) = x => e (by omega))]
          exact R_if (by simp [e]) hR
      rcases hZ with rfl | rfl
      all_goals
        trivial
        by_cases e : s = x
        · rw [if_pos (by simp [e])] at fin
          rw [if_pos (by simp [e])]
          exact fin
        · rw [if_neg (by simpa using fun z : (s : Int) = x => e (by omega))] at fin
          rw [if_neg (by simpa using fun z : (s : Int) = x => e (by omega))]
          exact ⟨rfl, flat_nD _, fin⟩
    trivial
    refine ⟨cI (F.filter fun s => decide (s = x) || !decide (s ∈ T)), by rw [List.map_map]; rfl, fun ns' hp hs => ?_⟩
    obtain ⟨l', rfl, hr, hm⟩ := sorted_nats (wl.nd.filter _) hp hs
    have e : l' = bagN n gs T x := rising_ext hr (bag_rising ..) fun z => by
      rw [hm, List.mem_filter, mem_bag]
      constructor
      · rintro ⟨h1, h2⟩
        refine ⟨(wl.ok z h1).1, ?_, (wl.ok z h1).2⟩
        rcases Bool.or_eq_true_iff.1 h2 with h | h
        · rw [of_decide_eq_true h]; exact hxT
        · simpa using h
      · rintro ⟨_, h2, h3⟩
        exact ⟨hall z h3, by simp [h2]⟩
    subst e
    rw [cI, List.map_map]
    exact hQ _
theorem erase_map {α β : Type} (f : α → β) : ∀ (l : List α) (i : Nat), (l.map f).eraseIdx i = (l.eraseIdx i).map f
  | [], _ => rfl
  | _ :: _, 0 => rfl
  | x :: l, i + 1 => by
    show f x :: (l.map f).eraseIdx i = f x :: (l.eraseIdx i).map f
    rw [erase_map f l i]
def sp_law_order : DSpec := fun args Q _ => ∃ (n : Nat) (a : Addr) (ds : List D) (ns : List Nat) (Z : D), args = [.lst a ds, .ext Z] ∧ SqN ns Z ∧ JarOk n ds ∧ n + 64 < 4294967296 ∧ ns.length ≤ 60 ∧
  ∀ (o : List Nat) ds' fin, o.Perm ns → JarOk (n + 64) ds' → Q (.ext (.tup (nD o))) (.lst a ds' :: fin)
def e1_law_order : DT :=
    (dPopAt 2 (dCallJ sp_law_dip 0 (dCons (dCB fLen (dCons (dVar 2) dNil)) dNil)))
def t_law_order : DTS :=
    (sSeq (sSet 2 (dCB fList (dCons (dVar 1) dNil)))
    (sRet (dCB fTuple (dCons (dLc (dRange1 (dCons (dCB fLen (dCons (dVar 1) dNil)) dNil)) (gSet 3) dYes e1_law_order [3]) dNil))))
theorem q1_law_order {Q : Sl → Env' → Prop} {n : Nat} {a a2 : Addr} {ds : List D} {ns : List Nat} {s1 : Sl} (hj : JarOk n ds) (hn : n + 64 < 4294967296) (hl : ns.length ≤ 60) (hQ : ∀ b (o l : List Nat) ds', o.Perm ns → JarOk (n + 64) ds' → Q (.lst b (nD o)) [.lst a ds', s1, .lst a2 (nD l), .un]) :
    lcD (gSet 3) dYes e1_law_order [3] (fun _ => True) Q (nD (List.range ns.length)) [] [.lst a ds, s1, .lst a2 (nD ns), .un] := by
  refine lc_ind (fun k : Nat => D.int (k : Int)) (fun xs acc env => ∃ (m : Nat) (ds : List D) (o l : List Nat), env = [.lst a ds, s1, .lst a2 (nD l), .un] ∧ acc = nD o ∧ JarOk m ds ∧ m + xs.length ≤ n + 64 ∧ l.length = xs.length ∧ (o ++ l).Perm ns) ?_ ?_ (List.range ns.length) [] _
    ⟨n, ds, [], ns, rfl, rfl, hj, by rw [List.length_range]; omega, by rw [List.length_range], List.Perm.refl _⟩
  · rintro acc env ⟨m, ds4, o, l, rfl, rfl, hj4, hm4, hl4, hp⟩
    have e : l = [] := List.length_eq_zero_iff.1 hl4
    subst e
    refine ⟨True.intro, fun b => ?_⟩
    rw [List.append_nil] at hp
    exact hQ b o _ _ hp (hj4.up (by simpa using hm4))
  · rintro k xs acc env N ⟨m, ds4, o, l, rfl, rfl, hj4, hm4, hl4, hp⟩ hN
    rw [List.length_cons] at hm4 hl4
    have hol := hp.length_eq
    rw [List.length_append] at hol
    refine ⟨True.intro, by rw [nD_len]; exact Nat.lt_of_le_of_lt (by omega : o.length ≤ 100) (by decide), ?_⟩
    unfold e1_law_order
    trivial
    rw [nD_len]
    refine ⟨m, a, ds4, _, rfl, hj4, by omega, by omega, by omega, fun r ds5 fin r0 r1 hj5 => ?_⟩
    trivial
    obtain ⟨i, rfl⟩ := Int.eq_ofNat_of_zero_le r0
    have hi : i < l.length := by omega
    refine ⟨r0, by omega, _, (by rw [Int.toNat_natCast, List.getElem?_map, List.getElem?_eq_getElem hi]; rfl : (nD l)[((i : Nat) : Int).toNat]? = some (.int ((l[i] : Nat) : Int))), ?_⟩
    trivial
    have e1 : (nD l).eraseIdx ((i : Nat) : Int).toNat = nD (l.eraseIdx i) := by
      rw [Int.toNat_natCast]
      exact erase_map _ l i
    refine hN _ _ ⟨m + 1, ds5, o ++ [l[i]], l.eraseIdx i, by rw [e1], by rw [nD_app]; rfl, hj5, by omega, by rw [List.length_eraseIdx_of_lt hi]; omega, ?_⟩
    rw [List.append_assoc]
    refine (List.Perm.append_left o ?_).trans hp
    show (l[i] :: l.eraseIdx i).Perm l
    exact erase_perm l hi
theorem m_law_order : Meets t_law_order 2 2 sp_law_order := by
  rintro args Qd Xd ⟨n, a, ds, ns, Z, rfl, hZ, hj, hn, hl, hQ⟩
  show t_law_order _ _ [_, _, .un, .un]
  unfold t_law_order
  rcases hZ with rfl | rfl
  all_goals
    and_intros
    intro a2
    rw [nD_len, rgD_nat]
    refine ⟨⟨by omega, by omega⟩, ?_⟩
    refine q1_law_order hj hn hl fun b o l ds' hp hj' => ?_
    trivial
    exact hQ o _ _ hp hj'
structure WebOk (S : List Nat) (ps : List Part) : Prop where
  sz : SzOk S
  pos : 0 < S.length
  roof : prodN S ≤ 2000
  few : ps.length ≤ 24
  ok : ∀ p ∈ ps, p.Ok S ∧ ∀ x ∈ p.ws, x = 1
theorem WebOk.ns {S : List Nat} {ps : List Part} (h : WebOk S ps) : NsOk S ps := ⟨h.sz.few, by have := h.few; omega, fun p hp => ⟨(h.ok p hp).1.rise, (h.ok p hp).1.lt⟩⟩
structure GrOk (n : Nat) (gs : List (List Nat)) : Prop where
  len : gs.length ≤ 60
  ok : ∀ g ∈ gs, Rising g ∧ ∀ m ∈ g, m < n
def sp_law_web : DSpec := fun args Q _ => ∃ (n : Nat) (a : Addr) (ds : List D) (most : Nat), args = [.lst a ds, dI (most : Nat)] ∧ JarOk n ds ∧ n + 4000 < 4294967296 ∧ 0 < most ∧ most ≤ 12 ∧
  ∀ (S : List Nat) (ps : List Part) ds' fin, WebOk S ps → S.length ≤ most → JarOk (n + 4000) ds' → Q (.ext (dSh S ps)) (.lst a ds' :: fin)
def b1_law_web : DTS :=
    (sSeq (sSetE 6 (dOp fIx (dLst (dCons (dC (.int 2)) (dCons (dC (.int 1)) (dCons (dC (.int 3)) (dCons (dC (.int 2)) (dCons (dC (.int 4)) dNil)))))) (dCallJ sp_law_dip 0 (dCons (dC (.int 5)) dNil))))
    (sSetE 4 (dOp fAdd (dVar 4) (dTup (dCons (dIf (dTest (dOp (fCmp fun i j => decide (i ≤ j)) (dOp fMul (dCall sp_law_times (dCons (dVar 4) dNil)) (dVar 6)) (dC (.int 2000)))) (dVar 6) (dC (.int 1))) dNil)))))
def e2_law_web : DT :=
    (dCallJ sp_law_some 0 (dCons (dVar 2) (dCons (dC (.int 3)) dNil)))
def e3_law_web : DT :=
    (dCB fTuple (dCons (dCB fSorted (dCons (dLst (dCons (dVar 5) (dCons (dOp fMod (dOp fAdd (dVar 5) (dC (.int 1))) (dVar 2)) dNil))) dNil)) dNil))
def e4_law_web : DT :=
    (dTup (dCons (dVar 5) (dCons (dOp fAdd (dVar 5) (dC (.int 1))) dNil)))
def e5_law_web : DT :=
    (dCB fTuple (dCons (dCB fSorted (dCons (dLst (dCons (dVar 5) (dCons (dOp fMod (dOp fAdd (dVar 5) (dVar 8)) (dVar 2)) dNil))) dNil)) dNil))
def e6_law_web : DT :=
    (dOp fIx (dVar 4) (dVar 12))
def e7_law_web : DT :=
    (dCB fLen (dCons (dOp fIx (dVar 13) (dC (.int 1))) dNil))
def b8_law_web : DTS :=
    (sSeq (sSetE 11 (dOp fMulT (dTup (dCons (dC (.int 1)) dNil)) (dCall sp_law_times (dCons (dLc (dSeq (dVar 10)) (gSet 12) dYes e6_law_web [12]) dNil))))
    (sIf (dAnd (dTest (dOp (fCmp fun i j => decide (i < j)) (dCB fLen (dCons (dVar 9) dNil)) (dC (.int 24)))) (dTest (dOp (fCmp fun i j => decide (i ≤ j)) (dOp fAdd (dCB fSum (dCons (dLc (dSeq (dVar 9)) (gSet 13) dYes e7_law_web [13]) dNil)) (dCB fLen (dCons (dVar 11) dNil))) (dC (.int 2000))))) (sDrop (dAppend 9 (dTup (dCons (dVar 10) (dCons (dVar 11) dNil))))) sNext))
def k9_law_web : DTS :=
    (sRet (dTup (dCons (dVar 4) (dCons (dCB fTuple (dCons (dVar 9) dNil)) dNil))))
def k10_law_web : DTS :=
    (sSeq (sSet 9 (dLst dNil))
    (sSeq (sFor (dSeq (dVar 7)) (gSet 10) b8_law_web)
    k9_law_web))
def k11_law_web : DTS :=
    (sSeq (sIf (dAnd (dTest (dOp fEq (dVar 3) (dC (.int 3)))) (dTest (dOp (fCmp fun i j => decide (j < i)) (dVar 2) (dC (.int 2))))) (sSeq (sSetE 8 (dOp fAdd (dC (.int 1)) (dCallJ sp_law_dip 0 (dCons (dOp fSub (dVar 2) (dC (.int 1))) dNil))))
    (sSetE 7 (dOp fAdd (dLc (dRange1 (dCons (dVar 2) dNil)) (gSet 5) dYes e5_law_web [5]) (dSl (dVar 7) dNoPart (dPart (dC (.int 2))))))) sNext)
    k10_law_web)
def k12_law_web : DTS :=
    (sSeq (sIf (dTest (dOp fEq (dVar 3) (dC (.int 2)))) (sSetE 7 (dOp fAdd (dLst (dCons (dTupRg (dRg1 (dCB fMin (dCons (dVar 2) (dCons (dC (.int 4)) dNil))))) dNil)) (dSl (dVar 7) dNoPart (dPart (dC (.int 2)))))) sNext)
    k11_law_web)
def k13_law_web : DTS :=
    (sSeq (sIf (dTest (dOp fEq (dVar 3) (dC (.int 1)))) (sSetE 7 (dLc (dRange1 (dCons (dOp fSub (dVar 2) (dC (.int 1))) dNil)) (gSet 5) dYes e4_law_web [5])) sNext)
    k12_law_web)
def k14_law_web : DTS :=
    (sSeq (sSetE 7 (dLc (dRange1 (dCons (dCallJ sp_law_dip 0 (dCons (dOp fAdd (dOp fMul (dC (.int 2)) (dVar 2)) (dC (.int 1))) dNil)) dNil)) (gSet 5) dYes e2_law_web [5]))
    (sSeq (sIf (dAnd (dTest (dOp fEq (dVar 3) (dC (.int 0)))) (dTest (dOp (fCmp fun i j => decide (j < i)) (dVar 2) (dC (.int 2))))) (sSetE 7 (dOp fAdd (dLc (dRange1 (dCons (dVar 2) dNil)) (gSet 5) dYes e3_law_web [5]) (dSl (dVar 7) dNoPart (dPart (dC (.int 1)))))) sNext)
    k13_law_web))
def t_law_web : DTS :=
    (sSeq (sSetE 2 (dOp fAdd (dC (.int 1)) (dCallJ sp_law_dip 0 (dCons (dVar 1) dNil))))
    (sSeq (sSetE 3 (dCallJ sp_law_dip 0 (dCons (dC (.int 7)) dNil)))
    (sSeq (sSetE 4 (dTup dNil))
    (sSeq (sFor (dRange1 (dCons (dVar 2) dNil)) (gSet 5) b1_law_web)
    k14_law_web))))
theorem q1_law_web {Ex : DX} {E : DEnds} {a : Addr} {s1 s2 s3 s7 s8 s9 s10 s11 s12 s13 : Sl} (items : List D) : ∀ (n : Nat) (ds : List D) (S : List Nat) (s5 s6 : Sl), JarOk n ds → n + items.length < 4294967296 → (∀ s ∈ S, 0 < s ∧ s ≤ 4) → prodN S ≤ 2000 → S.length + items.length ≤ 24 →
    (∀ ds' S' u5 u6, JarOk (n + items.length) ds' → (∀ s ∈ S', 0 < s ∧ s ≤ 4) → prodN S' ≤ 2000 → S'.length = S.length + items.length → E.nx [.lst a ds', s1, s2, s3, .ext (.tup (nD S')), u5, u6, s7, s8, s9, s10, s11, s12, s13]) →
    forD (gSet 5) b1_law_web (fun _ => True) Ex E items [.lst a ds, s1, s2, s3, .ext (.tup (nD S)), s5, s6, s7, s8, s9, s10, s11, s12, s13] := by
  induction items with
  | nil =>
    intro n ds S s5 s6 hj hn hs hp hl hE
    exact ⟨True.intro, hE _ _ _ _ hj hs hp rfl⟩
  | cons x items ih =>
    intro n ds S s5 s6 hj hn hs hp hl hE
    rw [List.length_cons] at hn hl
    rw [forD]
    unfold b1_law_web
    and_intros
    refine ⟨by decide, fun b => ⟨n, a, ds, 5, rfl, hj, by omega, by decide, by decide, fun r ds' fin r0 r1 hj' => ?_⟩⟩
    trivial
    have fin' : ∀ s : Nat, 0 < s → s ≤ 4 → prodN S * s ≤ 2000 → ∀ u6, forD (gSet 5) b1_law_web (fun _ => True) Ex E items [.lst a ds', s1, s2, s3, .ext (.tup (nD (S ++ [s]))), .ext x, u6, s7, s8, s9, s10, s11, s12, s13] := by
      intro s h0 h4 hps u6
      refine ih (n + 1) ds' (S ++ [s]) _ _ hj' (by omega) ?_ ?_ (by rw [List.length_append, List.length_singleton]; omega) ?_
      · intro y hy
        rcases List.mem_append.1 hy with h | h
        · exact hs y h
        · rw [List.mem_singleton.1 h]; exact ⟨h0, h4⟩
      · rw [prodN_append]; simpa [prodN] using hps
      · intro ds'' S' u5 u6' hj2 hs2 hp2 hl2
        refine hE _ _ _ _ (by rw [List.length_cons]; exact hj2.up (by omega)) hs2 hp2 ?_
        rw [hl2, List.length_append, List.length_singleton, List.length_cons]; omega
    obtain ⟨z, h0, h4, hz⟩ : ∃ z : Nat, 0 < z ∧ z ≤ 4 ∧ atI [D.int 2, D.int 1, D.int 3, D.int 2, D.int 4] r = some (D.int (z : Nat)) := by
      have h : r = 0 ∨ r = 1 ∨ r = 2 ∨ r = 3 ∨ r = 4 := by omega
      rcases h with rfl | rfl | rfl | rfl | rfl
      · exact ⟨2, by decide, by decide, rfl⟩
      · exact ⟨1, by decide, by decide, rfl⟩
      · exact ⟨3, by decide, by decide, rfl⟩
      · exact ⟨2, by decide, by decide, rfl⟩
      · exact ⟨4, by decide, by decide, rfl⟩
    refine ⟨_, hz, ?_⟩
    trivial
    refine ⟨S, .inr rfl, fun y hy => (hs y hy).1, by omega, fun fin2 => ?_⟩
    trivial
    refine ⟨cmulN (a := 60) (b := 60) (by rw [Int.natAbs_natCast]; omega) (by rw [Int.natAbs_natCast]; omega) (by decide), ?_⟩
    split
    · rename_i hle
      have := fin' z h0 h4 (by exact_mod_cast hle) (dI (z : Nat))
      rw [nD_app] at this
      exact ⟨by decide, by rw [nD_len]; exact Nat.le_trans (by omega : S.length + 1 ≤ 100) (by decide), this⟩
    · have := fin' 1 (by decide) (by decide) (by omega) (dI (z : Nat))
      rw [nD_app] at this
      exact ⟨by decide, by rw [nD_len]; exact Nat.le_trans (by omega : S.length + 1 ≤ 100) (by decide), this⟩
theorem q2_law_web {Ex : DX} {E : DEnds} {s0 s1 s2 s3 s5 s6 s8 : Sl} {S : List Nat} {gs : List (List Nat)} (hS : SzOk S) (hS0 : 0 < S.length) (hr : prodN S ≤ 2000) (hg : GrOk S.length gs) (hE : ∀ ps env, WebOk S ps → env[0]? = some s0 → E.rt (.ext (dSh S ps)) env) :
    k10_law_web Ex E [s0, s1, s2, s3, .ext (.tup (nD S)), s5, s6, .ext (.lst (fD gs)), s8, .un, .un, .un, .un, .un] := by
  unfold k10_law_web
  and_intros
  refine ⟨Nat.zero_le _, fun a9 => ?_⟩
  refine for_ind (fun g : List Nat => D.tup (nD g)) (fun hs env => ∃ (ps : List Part) (u10 u11 : Sl), env = [s0, s1, s2, s3, .ext (.tup (nD S)), s5, s6, .ext (.lst (fD gs)), s8, .lst a9 (ps.map dP), u10, u11, .un, .un] ∧ ps.length ≤ 24 ∧ (∀ p ∈ ps, p.Ok S ∧ ∀ x ∈ p.ws, x = 1) ∧ ∀ g ∈ hs, g ∈ gs) ?_ ?_ gs _ ⟨[], _, _, rfl, by decide, by simp, fun g hg => hg⟩
  · rintro env ⟨ps, u10, u11, rfl, h1, h2, _⟩
    refine ⟨True.intro, ?_⟩
    unfold k9_law_web
    and_intros
    exact ⟨by decide, hE ps _ ⟨hS, hS0, hr, h1, h2⟩ rfl⟩
  rintro g hs env N ⟨ps, u10, u11, rfl, h1, h2, h3⟩ hN
  obtain ⟨hgr, hgl⟩ := hg.ok g (h3 g List.mem_cons_self)
  have hglen := rising_len hgr hgl
  have h24 := hS.few
  refine ⟨True.intro, ?_⟩
  unfold b8_law_web
  and_intros
  refine ⟨by decide, lc_map (fun m : Nat => D.int (m : Nat)) (fun m => .int (sz S m : Nat)) True.intro g (Nat.le_trans (by omega : g.length ≤ 100) (by decide)) (fun m hm R hR => ?_) fun b => ?_⟩
  · unfold e6_law_web
    trivial
    refine ⟨_, atN (getD_at (hgl m hm)), ?_⟩
    trivial
    exact hR
  trivial
  have hpz := psz_le hS.pos hgr hgl
  have hpos : ∀ x ∈ g.map (sz S), 0 < x := fun x hx => by
    obtain ⟨m, hm, rfl⟩ := List.mem_map.1 hx
    exact hS.pos _ (sz_mem (hgl m hm))
  refine ⟨g.map (sz S), .inl (by rw [nD, List.map_map]; rfl), hpos, by show psz S g < _; omega, fun fin => ?_⟩
  trivial
  rw [show prodN (g.map (sz S)) = psz S g from rfl]
  refine ⟨by omega, by omega, by rw [Int.toNat_natCast]; exact Nat.le_trans (by simp; omega : _ ≤ 5000) (by decide), ?_⟩
  have hrep : (List.replicate ((psz S g : Nat) : Int).toNat [D.int 1]).flatten = iD (List.replicate (psz S g) 1) := by
    rw [Int.toNat_natCast]
    generalize psz S g = m
    induction m with
    | zero => rfl
    | succ m ih => rw [List.replicate_succ, List.flatten_cons, ih, List.replicate_succ]; rfl
  rw [hrep]
  rw [List.length_map]
  have next : ∀ ps2 : List Part, ps2.length ≤ 24 → (∀ p ∈ ps2, p.Ok S ∧ ∀ x ∈ p.ws, x = 1) → N [s0, s1, s2, s3, .ext (.tup (nD S)), s5, s6, .ext (.lst (fD gs)), s8, .lst a9 (ps2.map dP), .ext (.tup (nD g)), .ext (.tup (iD (List.replicate (psz S g) 1))), .un, .un] := fun ps2 g1 g2 => hN _ ⟨ps2, _, _, rfl, g1, g2, fun k hk => h3 k (List.mem_cons_of_mem _ hk)⟩
  by_cases hlt : ps.length < 24
  · rw [if_pos (by omega)]
    refine lc_map (keep := fun env' => env'[9]? = some (Sl.lst a9 (List.map dP ps))) (fun p : Part => dP p) (fun p => .int (p.ws.length : Nat)) rfl ps (Nat.le_trans (by omega : ps.length ≤ 100) (by decide)) (fun p hp R hR => ?_) fun b => ?_
    · unfold e7_law_web
      trivial
      rw [iD_len]
      exact hR
    trivial
    refine ⟨ps.map fun p => (p.ws.length : Int), by rw [List.map_map]; rfl, ?_⟩
    split
    · refine ⟨by decide, by rw [List.length_map]; exact Nat.lt_of_lt_of_le hlt (by decide), ?_⟩
      have := next (ps ++ [⟨g, List.replicate (psz S g) 1⟩]) (by rw [List.length_append, List.length_singleton]; omega) fun p hp => by
        rcases List.mem_append.1 hp with h | h
        · exact h2 p h
        · rw [List.mem_singleton.1 h]
          exact ⟨⟨hgr, hgl, List.length_replicate⟩, fun x hx => (List.mem_replicate.1 hx).2⟩
      rw [List.map_append] at this
      exact this
    · exact next ps h1 h2
  · rw [if_neg (by omega)]
    exact next ps h1 h2
theorem GrOk.take {n : Nat} {gs : List (List Nat)} (h : GrOk n gs) (k : Nat) : ∀ g ∈ gs.take k, Rising g ∧ ∀ m ∈ g, m < n := fun g hg => h.ok g (List.mem_of_mem_take hg)
theorem fD_take (gs : List (List Nat)) (k : Nat) : cutD (fD gs) none (some (k : Int)) = fD (gs.take k) := by
  unfold cutD
  rw [HT.sIx_none, HT.sIx_nat, List.drop_zero, Nat.sub_zero]
  rw [show fD (gs.take k) = (fD gs).take k from List.map_take]
  by_cases hk : k ≤ (fD gs).length
  · rw [Nat.min_eq_left hk]
  · rw [Nat.min_eq_right (by omega), List.take_of_length_le (Nat.le_refl _), List.take_of_length_le (by omega)]
theorem pair_sorted {k m many : Nat} {ns : List Int} (hk : k < many) (hm : m < many) (hne : k ≠ m) (hp : ns.Perm [(k : Int), (m : Int)]) (hs : ns.Pairwise (· ≤ ·)) : ∃ g : List Nat, ns = cI g ∧ Rising g ∧ ∀ x ∈ g, x < many := by
  obtain ⟨g, e, hr, hg⟩ := sorted_nats (l := [k, m]) (by simp [hne]) hp hs
  refine ⟨g, e, hr, fun x hx => ?_⟩
  rcases List.mem_cons.1 ((hg x).1 hx) with h | h
  · omega
  · rw [List.mem_singleton.1 h]; exact hm
theorem q3_law_web {Q : Sl → Env' → Prop} {s0 s1 s3 s4 s6 s7 s8 s9 s10 s11 s12 s13 : Sl} {many : Nat} (h2 : 1 < many) (h12 : many ≤ 12) (hQ : ∀ b (gs : List (List Nat)), gs.length = many → (∀ g ∈ gs, Rising g ∧ ∀ m ∈ g, m < many) → Q (.lst b (fD gs)) [s0, s1, dI (many : Nat), s3, s4, .un, s6, s7, s8, s9, s10, s11, s12, s13]) :
    lcD (gSet 5) dYes e3_law_web [5] (fun _ => True) Q (nD (List.range many)) [] [s0, s1, dI (many : Nat), s3, s4, .un, s6, s7, s8, s9, s10, s11, s12, s13] := by
  refine lc_ind (fun k : Nat => D.int (k : Int)) (fun xs acc env => ∃ gs : List (List Nat), env = [s0, s1, dI (many : Nat), s3, s4, .un, s6, s7, s8, s9, s10, s11, s12, s13] ∧ acc = fD gs ∧ gs.length + xs.length = many ∧ (∀ x ∈ xs, x < many) ∧ ∀ g ∈ gs, Rising g ∧ ∀ m ∈ g, m < many) ?_ ?_ (List.range many) [] _
    ⟨[], rfl, rfl, by rw [List.length_range]; simp, fun x hx => List.mem_range.1 hx, by intro p hp; simp at hp⟩
  · rintro acc env ⟨gs, rfl, rfl, hl, _, hg⟩
    exact ⟨True.intro, fun b => hQ b gs (by simpa using hl) hg⟩
  rintro k xs acc env N ⟨gs, rfl, rfl, hl, hx, hg⟩ hN
  rw [List.length_cons] at hl
  have hk := hx k List.mem_cons_self
  refine ⟨True.intro, by rw [List.length_map]; exact Nat.lt_of_le_of_lt (by omega : _ ≤ 1000) (by decide), ?_⟩
  unfold e3_law_web
  trivial
  refine ⟨by omega, by decide, ?_⟩
  have e : ((k : Int) + 1) % (many : Int) = (((k + 1) % many : Nat) : Int) := by rw [Int.natCast_emod, Int.natCast_add] <;> rfl
  have hlt : (k + 1) % many < many := Nat.mod_lt _ (by omega)
  have hne : k ≠ (k + 1) % many := by
    intro z
    by_cases hge : k + 1 < many
    · rw [Nat.mod_eq_of_lt hge] at z; omega
    · rw [Nat.mod_eq_sub_mod (by omega), Nat.mod_eq_of_lt (by omega)] at z; omega
  rw [e]
  refine ⟨[(k : Int), (((k + 1) % many : Nat) : Int)], rfl, fun ns' hp hs => ?_⟩
  obtain ⟨g, rfl, gr, gl⟩ := pair_sorted hk hlt hne hp hs
  refine hN _ _ ⟨gs ++ [g], rfl, by rw [fD, fD, List.map_append, cI, List.map_map]; rfl, by rw [List.length_append, List.length_singleton]; omega, fun x hx' => hx x (List.mem_cons_of_mem _ hx'), fun g' hg' => ?_⟩
  rcases List.mem_append.1 hg' with h | h
  · exact hg g' h
  · rw [List.mem_singleton.1 h]; exact ⟨gr, gl⟩
theorem q5_law_web {Q : Sl → Env' → Prop} {s0 s1 s3 s4 s6 s7 s9 s10 s11 s12 s13 : Sl} {many st : Nat} (h1 : 0 < st) (h2 : st < many) (h12 : many ≤ 12) (hQ : ∀ b (gs : List (List Nat)), gs.length = many → (∀ g ∈ gs, Rising g ∧ ∀ m ∈ g, m < many) → Q (.lst b (fD gs)) [s0, s1, dI (many : Nat), s3, s4, .un, s6, s7, dI (st : Nat), s9, s10, s11, s12, s13]) :
    lcD (gSet 5) dYes e5_law_web [5] (fun _ => True) Q (nD (List.range many)) [] [s0, s1, dI (many : Nat), s3, s4, .un, s6, s7, dI (st : Nat), s9, s10, s11, s12, s13] := by
  refine lc_ind (fun k : Nat => D.int (k : Int)) (fun xs acc env => ∃ gs : List (List Nat), env = [s0, s1, dI (many : Nat), s3, s4, .un, s6, s7, dI (st : Nat), s9, s10, s11, s12, s13] ∧ acc = fD gs ∧ gs.length + xs.length = many ∧ (∀ x ∈ xs, x < many) ∧ ∀ g ∈ gs, Rising g ∧ ∀ m ∈ g, m < many) ?_ ?_ (List.range many) [] _
    ⟨[], rfl, rfl, by rw [List.length_range]; simp, fun x hx => List.mem_range.1 hx, by intro p hp; simp at hp⟩
  · rintro acc env ⟨gs, rfl, rfl, hl, _, hg⟩
    exact ⟨True.intro, fun b => hQ b gs (by simpa using hl) hg⟩
  rintro k xs acc env N ⟨gs, rfl, rfl, hl, hx, hg⟩ hN
  rw [List.length_cons] at hl
  have hk := hx k List.mem_cons_self
  refine ⟨True.intro, by rw [List.length_map]; exact Nat.lt_of_le_of_lt (by omega : _ ≤ 1000) (by decide), ?_⟩
  unfold e5_law_web
  trivial
  refine ⟨by omega, by decide, ?_⟩
  have e : ((k : Int) + st) % (many : Int) = (((k + st) % many : Nat) : Int) := by rw [Int.natCast_emod, Int.natCast_add] <;> rfl
  have hlt : (k + st) % many < many := Nat.mod_lt _ (by omega)
  have hne : k ≠ (k + st) % many := by
    intro z
    by_cases hge : k + st < many
    · rw [Nat.mod_eq_of_lt hge] at z; omega
    · rw [Nat.mod_eq_sub_mod (by omega), Nat.mod_eq_of_lt (by omega)] at z; omega
  rw [e]
  refine ⟨[(k : Int), (((k + st) % many : Nat) : Int)], rfl, fun ns' hp hs => ?_⟩
  obtain ⟨g, rfl, gr, gl⟩ := pair_sorted hk hlt hne hp hs
  refine hN _ _ ⟨gs ++ [g], rfl, by rw [fD, fD, List.map_append, cI, List.map_map]; rfl, by rw [List.length_append, List.length_singleton]; omega, fun x hx' => hx x (List.mem_cons_of_mem _ hx'), fun g' hg' => ?_⟩
  rcases List.mem_append.1 hg' with h | h
  · exact hg g' h
  · rw [List.mem_singleton.1 h]; exact ⟨gr, gl⟩
theorem m_law_web : Meets t_law_web 2 12 sp_law_web := by
  rintro args Qd Xd ⟨n, a, ds, most, rfl, hj, hn, hm0, hm1, hQ⟩
  show t_law_web _ _ [_, _, .un, .un, .un, .un, .un, .un, .un, .un, .un, .un, .un, .un]
  unfold t_law_web
  and_intros
  refine ⟨n, a, ds, most, rfl, hj, by omega, by omega, by omega, fun r ds1 fin r0 r1 hj1 => ?_⟩
  trivial
  refine ⟨n + 1, a, ds1, 7, rfl, hj1, by omega, by omega, by omega, fun way ds2 fin w0 w1 hj2 => ?_⟩
  trivial
  obtain ⟨many, hmany⟩ : ∃ m : Nat, 1 + r = (m : Nat) := ⟨(1 + r).toNat, by omega⟩
  rw [hmany]
  have hm12 : many ≤ 12 := by omega
  have hm1' : 1 ≤ many := by omega
  refine ⟨Nat.zero_le _, ⟨by omega, by omega⟩, ?_⟩
  rw [rgD_nat]
  refine q1_law_web (nD (List.range many)) (n + 2) ds2 [] _ _ hj2 (by rw [nD_len, List.length_range]; omega) (by simp) (by show 1 ≤ 2000; decide) (by rw [nD_len, List.length_range]; simp; omega) fun ds3 S u5 u6 hj3 hs3 hp3 hl3 => ?_
  rw [nD_len, List.length_range] at hl3 hj3
  have hSl : S.length = many := by rw [hl3]; simp
  have hS : SzOk S := ⟨fun s hs => (hs3 s hs).1, by omega, by omega, fun s hs => (hs3 s hs).2⟩
  have fin10 : ∀ (gs : List (List Nat)) ds9 u5 u6 u8, GrOk many gs → JarOk (n + 4000) ds9 → k10_law_web (exOf [.lst a ds, dI (most : Nat)] Xd) (endsOf [.lst a ds, dI (most : Nat)] Qd) [.lst a ds9, dI (most : Nat), dI (many : Nat), dI way, .ext (.tup (nD S)), u5, u6, .ext (.lst (fD gs)), u8, .un, .un, .un, .un, .un] := fun gs ds9 u5 u6 u8 hg hj9 => by
    refine q2_law_web hS (by omega) hp3 (by rw [hSl]; exact hg) fun ps env hw h0 => ?_
    show Qd _ (finals [.lst a ds, dI (most : Nat)] env)
    rw [finals2, h0, fin1_lst]
    exact hQ S ps _ _ hw (by omega) hj9
  unfold k14_law_web
  and_intros
  refine ⟨cmulN (a := 60) (b := 60) (by decide) (by rw [Int.natAbs_natCast]; omega) (by decide), n + 2 + many, a, ds3, 2 * (many : Int) + 1, rfl, hj3, by omega, by omega, by omega, fun c ds4 fin c0 c1 hj4 => ?_⟩
  trivial
  refine ⟨⟨by omega, by omega⟩, ?_⟩
  have er : rgD 0 c = nD (List.range c.toNat) := by rw [← rgD_nat, Int.toNat_of_nonneg c0]
  rw [er]
  refine lc_ind (fun k : Nat => D.int (k : Int)) (fun xs acc env => ∃ (m : Nat) (ds : List D) (gs : List (List Nat)), env = [.lst a ds, dI (most : Nat), dI (many : Nat), dI way, .ext (.tup (nD S)), .un, u6, .un, .un, .un, .un, .un, .un, .un] ∧ acc = fD gs ∧ JarOk m ds ∧ m + 64 * xs.length ≤ n + 3900 ∧ gs.length + xs.length = c.toNat ∧ ∀ g ∈ gs, Rising g ∧ ∀ m ∈ g, m < many) ?_ ?_ (List.range c.toNat) [] _
    ⟨n + 2 + many + 1, ds4, [], rfl, rfl, hj4, by rw [List.length_range]; omega, by rw [List.length_range]; simp, by intro p hp; simp at hp⟩
  rotate_left
  · rintro k xs acc env N ⟨m, ds5, gs, rfl, rfl, hj5, hm5, hl5, hg5⟩ hN
    rw [List.length_cons] at hm5 hl5
    refine ⟨True.intro, by rw [List.length_map]; exact Nat.lt_of_le_of_lt (by omega : _ ≤ 100) (by decide), ?_⟩
    unfold e2_law_web
    trivial
    refine ⟨m, a, ds5, many, 3, rfl, hj5, by omega, by omega, by omega, fun ns ds6 fin h1 h2 h3 hj6 => ?_⟩
    trivial
    refine hN _ _ ⟨m + 64, ds6, gs ++ [ns], rfl, by rw [fD, fD, List.map_append]; rfl, hj6, by omega, by rw [List.length_append, List.length_singleton]; omega, fun g hg => ?_⟩
    rcases List.mem_append.1 hg with h | h
    · exact hg5 g h
    · rw [List.mem_singleton.1 h]; exact ⟨h1, h2⟩
  rintro acc env ⟨m, ds5, gs, rfl, rfl, hj5, hm5, hl5, hg5⟩
  rw [List.length_nil, Nat.add_zero] at hl5
  refine ⟨True.intro, fun b => ?_⟩
  have hgr : GrOk many gs := ⟨by omega, hg5⟩
  have fin11 : ∀ (gs : List (List Nat)) ds9 u5 u6, GrOk many gs → JarOk (n + 3900) ds9 → k11_law_web (exOf [.lst a ds, dI (most : Nat)] Xd) (endsOf [.lst a ds, dI (most : Nat)] Qd) [.lst a ds9, dI (most : Nat), dI (many : Nat), dI way, .ext (.tup (nD S)), u5, u6, .ext (.lst (fD gs)), .un, .un, .un, .un, .un, .un] := fun gs ds9 u5 u6 hg hj9 => by
    unfold k11_law_web
    and_intros
    by_cases hw : way = 3
    · subst hw
      rw [if_pos (by decide)]
      by_cases h2 : 2 < many
      · rw [if_pos (by omega)]
        trivial
        refine ⟨n + 3900, a, ds9, (many : Int) - 1, rfl, hj9, by omega, by omega, by omega, fun q ds10 fin q0 q1 hj10 => ?_⟩
        trivial
        obtain ⟨st, hst⟩ : ∃ m : Nat, 1 + q = (m : Nat) := ⟨(1 + q).toNat, by omega⟩
        rw [hst, rgD_nat]
        refine ⟨⟨by omega, by omega⟩, ?_⟩
        refine q5_law_web (by omega) (by omega) (by omega) fun b gs2 g1 g2 => ?_
        trivial
        rw [show (2 : Int) = ((2 : Nat) : Int) from rfl, fD_take]
        have ht := List.length_take_le 2 gs
        refine ⟨by rw [List.length_map, List.length_map]; exact Nat.le_trans (by omega : _ ≤ 100) (by decide), ?_⟩
        have := fin10 (gs2 ++ gs.take 2) ds10 .un u6 (dI (st : Nat)) ⟨by rw [List.length_append]; omega, fun g hgm => (List.mem_append.1 hgm).elim (g2 g) (hg.take 2 g)⟩ (hj10.up (by omega))
        rw [fD, List.map_append] at this
        exact this
      · rw [if_neg (by omega)]
        exact fin10 gs ds9 u5 u6 _ hg (hj9.up (by omega))
    · rw [if_neg (by simpa using hw)]
      exact fin10 gs ds9 u5 u6 _ hg (hj9.up (by omega))
  have fin12 : ∀ (gs : List (List Nat)) ds9 u5 u6, GrOk many gs → JarOk (n + 3900) ds9 → k12_law_web (exOf [.lst a ds, dI (most : Nat)] Xd) (endsOf [.lst a ds, dI (most : Nat)] Qd) [.lst a ds9, dI (most : Nat), dI (many : Nat), dI way, .ext (.tup (nD S)), u5, u6, .ext (.lst (fD gs)), .un, .un, .un, .un, .un, .un] := fun gs ds9 u5 u6 hg hj9 => by
    unfold k12_law_web
    and_intros
    by_cases hw : way = 2
    · subst hw
      rw [if_pos (by decide)]
      obtain ⟨mm, hmm, hmm4⟩ : ∃ mm : Nat, (if (4 : Int) < (many : Int) then 4 else (many : Int)) = (mm : Nat) ∧ mm ≤ many := by
        by_cases h : (4 : Int) < many
        · exact ⟨4, by rw [if_pos h]; rfl, by omega⟩
        · exact ⟨many, by rw [if_neg h], Nat.le_refl _⟩
      rw [hmm, rgD_nat, show (2 : Int) = ((2 : Nat) : Int) from rfl, fD_take]
      refine ⟨RgOk.of_le (by omega) (by omega) (by omega) (by omega), by decide, by rw [List.length_map]; exact Nat.le_trans (by have := List.length_take_le 2 gs; omega : _ ≤ 100) (by decide), ?_⟩
      refine fin11 (List.range mm :: gs.take 2) ds9 u5 u6 ⟨by rw [List.length_cons]; have := List.length_take_le 2 gs; omega, fun g hgm => ?_⟩ hj9
      rcases List.mem_cons.1 hgm with h | h
      · rw [h]; exact ⟨rising_range _, fun m hm => by have := List.mem_range.1 hm; omega⟩
      · exact hg.take 2 g h
    · rw [if_neg (by simpa using hw)]
      exact fin11 gs ds9 u5 u6 hg hj9
  have fin13 : ∀ (gs : List (List Nat)) ds9 u6, GrOk many gs → JarOk (n + 3900) ds9 → k13_law_web (exOf [.lst a ds, dI (most : Nat)] Xd) (endsOf [.lst a ds, dI (most : Nat)] Qd) [.lst a ds9, dI (most : Nat), dI (many : Nat), dI way, .ext (.tup (nD S)), .un, u6, .ext (.lst (fD gs)), .un, .un, .un, .un, .un, .un] := fun gs ds9 u6 hg hj9 => by
    unfold k13_law_web
    and_intros
    by_cases hw : way = 1
    · subst hw
      rw [if_pos (by decide)]
      rw [show ((many : Int) - 1) = ((many - 1 : Nat) : Int) by omega, rgD_nat]
      refine ⟨⟨by omega, by omega⟩, ?_⟩
      refine lc_map (fun k : Nat => D.int (k : Int)) (fun k => .tup (nD [k, k + 1])) True.intro (List.range (many - 1)) (by rw [List.length_range]; exact Nat.le_trans (by omega : _ ≤ 100) (by decide)) (fun k hk R hR => ?_) fun b => ?_
      · unfold e4_law_web
        trivial
        exact ⟨by decide, hR⟩
      trivial
      have := fin12 ((List.range (many - 1)).map fun k => [k, k + 1]) ds9 .un u6 ⟨by rw [List.length_map, List.length_range]; omega, fun g hgm => ?_⟩ hj9
      · rw [fD, List.map_map] at this
        exact this
      · obtain ⟨k, hk, rfl⟩ := List.mem_map.1 hgm
        have := List.mem_range.1 hk
        refine ⟨by simp [Rising], fun m hm => ?_⟩
        rcases List.mem_cons.1 hm with h | h
        · omega
        · rw [List.mem_singleton.1 h]; omega
    · rw [if_neg (by simpa using hw)]
      exact fin12 gs ds9 _ u6 hg hj9
  trivial
  by_cases hw : way = 0
  · subst hw
    rw [if_pos (by decide)]
    by_cases h2 : 2 < many
    · rw [if_pos (by omega), rgD_nat]
      refine ⟨⟨by omega, by omega⟩, ?_⟩
      refine q3_law_web (by omega) (by omega) fun b gs2 g1 g2 => ?_
      trivial
      rw [show (1 : Int) = ((1 : Nat) : Int) from rfl, fD_take]
      have ht := List.length_take_le 1 gs
      refine ⟨by rw [List.length_map, List.length_map]; exact Nat.le_trans (by omega : _ ≤ 100) (by decide), ?_⟩
      have := fin13 (gs2 ++ gs.take 1) ds5 u6 ⟨by rw [List.length_append]; omega, fun g hgm => (List.mem_append.1 hgm).elim (g2 g) (hgr.take 1 g)⟩ (hj5.up (by omega))
      rw [fD, List.map_append] at this
      exact this
    · rw [if_neg (by omega)]
      exact fin13 gs ds5 u6 hgr (hj5.up (by omega))
  · rw [if_neg (by simpa using hw)]
    exact fin13 gs ds5 u6 hgr (hj5.up (by omega))
end LS
namespace HD
open PySem PyProof.Rows L2
def fSortT : List D → (Sl → Prop) → Prop
  | [.tup ds], Q => ∃ ns : List Int, ds = ns.map D.int ∧ ∀ (ns' : List Int) (a : Addr), ns'.Perm ns → ns'.Pairwise (· ≤ ·) → Q (.lst a (ns'.map D.int))
  | _, _ => False
end HD
namespace HD
open PySem PyProof.Rows L2
open PySem.W (AlikeAll minD dataLt min_list_data readsAll_at keyToks keyToksAll)
abbrev pD (p : Int × Int) : D := .tup [.int p.1, .int p.2]
def lxP (p q : Int × Int) : Prop := p.1 < q.1 ∨ (p.1 = q.1 ∧ p.2 ≤ q.2)
def fMinP : List D → (Sl → Prop) → Prop
  | [.lst ds], Q => ∃ ps : List (Int × Int), ds = ps.map pD ∧ ps ≠ [] ∧ ∀ p ∈ ps, (∀ q ∈ ps, lxP p q) → Q (.ext (pD p))
  | _, _ => False
end HD
namespace HD
open PySem PyProof.Rows L2
section
variable {G : GG} {N : List Str} {sc : SC} {k : Nat} {b : Expr} {tb : DT} {apos cpos py : Pos} {x : Str}
def dRemove (i : Nat) (t : DT) : DT := fun Ex env Q => (∃ a ds, env[i]? = some (.lst a ds)) ∧ t Ex env fun x env1 => ∃ (a : Addr) (ns : List Int) (n : Int) (j : Nat), x = .ext (.int n) ∧ env1[i]? = some (.lst a (ns.map D.int)) ∧ ns[j]? = some n ∧ (∀ m, m < j → ns[m]? ≠ some n) ∧ Q (.ext .non) (env1.set i (.lst a ((ns.eraseIdx j).map D.int)))
end
end HD
namespace PM.Gr
open Classical
section
variable (adj : Nat → Nat → Prop)
inductive Way (P : Nat → Prop) : Nat → Nat → Prop
  | one {a b : Nat} : adj a b → Way P a b
  | step {a b c : Nat} : Way P a b → P b → adj b c → Way P a c
def NoRing (V : List Nat) : Prop := ∀ v ∈ V, ∀ a ∈ V, ∀ b ∈ V, adj v a → adj v b → a ≠ b → ¬ adj a b → ¬ Way adj (fun x => x ∈ V ∧ x ≠ v ∧ ¬ adj v x) a b
def Simp (V : List Nat) (v : Nat) : Prop := v ∈ V ∧ ∀ a ∈ V, ∀ b ∈ V, adj v a → adj v b → a ≠ b → adj a b
inductive Comp (P : Nat → Prop) (x0 : Nat) : Nat → Prop
  | base : P x0 → Comp P x0 x0
  | step {b c : Nat} : Comp P x0 b → adj b c → P c → Comp P x0 c
variable {adj}
theorem Comp.mem {P : Nat → Prop} {x0 x : Nat} (h : Comp adj P x0 x) : P x := by
  cases h with
  | base h => exact h
  | step _ _ h => exact h
theorem Way.mono {P Q : Nat → Prop} (hPQ : ∀ x, P x → Q x) {a b : Nat} (h : Way adj P a b) : Way adj Q a b := by
  induction h with
  | one h => exact .one h
  | step _ hp ha ih => exact .step ih (hPQ _ hp) ha
theorem Way.comp {P : Nat → Prop} (sym : ∀ a b, adj a b → adj b a) {x0 a k1 k2 : Nat} (h1 : Comp adj P x0 k1) (h2 : Comp adj P x0 k2) (w : Way adj P a k1) : Way adj P a k2 := by
  have back : ∀ k, Comp adj P x0 k → Way adj P a k → Way adj P a x0 := fun k h => by
    induction h with
    | base _ => exact id
    | step hb hadj hp ih => exact fun w => ih (.step w hp (sym _ _ hadj))
  have w0 := back k1 h1 w
  clear h1 w
  induction h2 with
  | base _ => exact w0
  | step hb hadj hp ih => exact .step ih hb.mem hadj
theorem NoRing.sub {V V' : List Nat} (hs : ∀ x ∈ V', x ∈ V) (h : NoRing adj V) : NoRing adj V' := fun v hv a ha b hb h1 h2 h3 h4 w =>
  h v (hs v hv) a (hs a ha) b (hs b hb) h1 h2 h3 h4 (w.mono fun x ⟨x1, x2, x3⟩ => ⟨hs x x1, x2, x3⟩)
theorem filter_lt {V : List Nat} (p : Nat → Bool) {v : Nat} (hv : v ∈ V) (hp : p v = false) : (V.filter p).length < V.length := by
  induction V with
  | nil => cases hv
  | cons x r ih =>
    rcases List.mem_cons.1 hv with rfl | h
    · rw [List.filter_cons_of_neg (by simp [hp])]
      exact Nat.lt_succ_of_le (List.length_filter_le _ _)
    · have i := ih h
      rw [List.filter_cons]
      split
      · simp only [List.length_cons]; omega
      · simp only [List.length_cons]; omega
theorem simp_out (sym : ∀ a b, adj a b → adj b a) (irr : ∀ a, ¬ adj a a) : ∀ (n : Nat) (V : List Nat), V.length ≤ n → NoRing adj V → ∀ v ∈ V, ∀ x0 ∈ V, x0 ≠ v → ¬ adj v x0 → ∃ x, Simp adj V x ∧ x ≠ v ∧ ¬ adj v x
  | 0, V, hn, _, v, hv, _, _, _, _ => by
    cases V with
    | nil => cases hv
    | cons _ _ => simp at hn
  | n + 1, V, hn, nr, v, hv, x0, hx0, hne, hna => by
    let P : Nat → Prop := fun x => x ∈ V ∧ x ≠ v ∧ ¬ adj v x
    let K : Nat → Prop := Comp adj P x0
    let S : Nat → Prop := fun s => s ∈ V ∧ ¬ K s ∧ ∃ k, K k ∧ adj k s
    have kx : K x0 := .base ⟨hx0, hne, hna⟩
    have Sv : ∀ s, S s → adj v s := fun s ⟨s1, s2, k, hk, hks⟩ => by
      refine byContradiction fun z => s2 (.step hk hks ⟨s1, fun e => ?_, z⟩)
      subst e
      exact hk.mem.2.2 (sym _ _ hks)
    have Scl : ∀ a b, S a → S b → a ≠ b → adj a b := fun a b ha hb hab => by
      refine byContradiction fun z => ?_
      obtain ⟨ka, ha1, ha2⟩ := ha.2.2
      obtain ⟨kb, hb1, hb2⟩ := hb.2.2
      have w : Way adj P a kb := Way.comp sym ha1 hb1 (.one (sym _ _ ha2))
      exact nr v hv a ha.1 b hb.1 (Sv a ha) (Sv b hb) hab z (.step w hb1.mem hb2)
    let V' := V.filter fun x => decide (K x ∨ S x)
    have mV' : ∀ x, x ∈ V' ↔ x ∈ V ∧ (K x ∨ S x) := fun x => by simp [V', List.mem_filter]
    have sub : ∀ x ∈ V', x ∈ V := fun x hx => ((mV' x).1 hx).1
    have kV : ∀ k, K k → k ∈ V' := fun k hk => (mV' k).2 ⟨hk.mem.1, .inl hk⟩
    have vn : ¬ (K v ∨ S v) := fun z => by
      rcases z with z | z
      · exact z.mem.2.1 rfl
      · exact irr v (Sv v z)
    have hl : V'.length ≤ n := by
      have z : V'.length < V.length := filter_lt _ hv (by simpa using vn)
      omega
    have nr' := nr.sub sub
    -- a name of K that is as wanted in V' is so in V
    have up : ∀ x, K x → Simp adj V' x → ∃ x, Simp adj V x ∧ x ≠ v ∧ ¬ adj v x := fun x hx hs => by
      have nb : ∀ a ∈ V, adj x a → a ∈ V' := fun a ha hxa => (mV' a).2 ⟨ha, by
        by_cases ka : K a
        · exact .inl ka
        · exact .inr ⟨ha, ka, x, hx, hxa⟩⟩
      exact ⟨x, ⟨hx.mem.1, fun a ha b hb h1 h2 h3 => hs.2 a (nb a ha h1) b (nb b hb h2) h1 h2 h3⟩, hx.mem.2.1, hx.mem.2.2⟩
    by_cases c1 : ∃ s, S s ∧ ∃ y ∈ V', y ≠ s ∧ ¬ adj s y
    · obtain ⟨s, hs, y, hy, hys, hsy⟩ := c1
      obtain ⟨x, hx, hxs, hsx⟩ := simp_out sym irr n V' hl nr' s ((mV' s).2 ⟨hs.1, .inr hs⟩) y hy hys hsy
      refine up x ?_ hx
      rcases ((mV' x).1 hx.1).2 with z | z
      · exact z
      · exact absurd (Scl s x hs z (Ne.symm hxs)) hsx
    · have Sall : ∀ s, S s → ∀ y ∈ V', y ≠ s → adj s y := fun s hs y hy hys => byContradiction fun z => c1 ⟨s, hs, y, hy, hys, z⟩
      by_cases c2 : ∃ k, K k ∧ ∃ y ∈ V', y ≠ k ∧ ¬ adj k y
      · obtain ⟨k, hk, y, hy, hyk, hky⟩ := c2
        obtain ⟨x, hx, hxk, hkx⟩ := simp_out sym irr n V' hl nr' k (kV k hk) y hy hyk hky
        refine up x ?_ hx
        rcases ((mV' x).1 hx.1).2 with z | z
        · exact z
        · exact absurd (sym _ _ (Sall x z k (kV k hk) (Ne.symm hxk))) hkx
      · refine up x0 kx ⟨kV x0 kx, fun a ha b hb _ _ hab => ?_⟩
        rcases ((mV' a).1 ha).2 with z | z
        · exact byContradiction fun q => c2 ⟨a, z, b, hb, Ne.symm hab, q⟩
        · exact Sall a z b hb (Ne.symm hab)
theorem simp_some (sym : ∀ a b, adj a b → adj b a) (irr : ∀ a, ¬ adj a a) {V : List Nat} (hV : V ≠ []) (nr : NoRing adj V) : ∃ x, Simp adj V x := by
  by_cases c : ∃ v ∈ V, ∃ y ∈ V, y ≠ v ∧ ¬ adj v y
  · obtain ⟨v, hv, y, hy, h1, h2⟩ := c
    obtain ⟨x, hx, _⟩ := simp_out sym irr V.length V (Nat.le_refl _) nr v hv y hy h1 h2
    exact ⟨x, hx⟩
  · cases V with
    | nil => exact absurd rfl hV
    | cons v r => exact ⟨v, List.mem_cons_self, fun a ha b hb _ _ hab => byContradiction fun q => c ⟨a, ha, b, hb, Ne.symm hab, q⟩⟩
end
end PM.Gr
namespace PM.Gr
section
variable (adj : Nat → Nat → Prop)
structure Bfs (shut : List Nat) (first : Nat) (cs : List (Nat × Option Nat)) (at_ : Nat) : Prop where
  nd : (cs.map (·.1)).Nodup
  hd : cs[0]? = some (first, none)
  le : at_ ≤ cs.length
  par : ∀ j x o, cs[j]? = some (x, o) → 0 < j → ∃ p i q, o = some p ∧ cs[i]? = some (p, q) ∧ i < j ∧ i ≤ at_ ∧ adj p x ∧ x ∉ shut ∧ ∀ k y r, k < i → cs[k]? = some (y, r) → ¬ adj y x
  cl : ∀ i x o, i < at_ → cs[i]? = some (x, o) → ∀ z, adj x z → z ∈ shut ∨ z ∈ cs.map (·.1)
variable {adj} {shut : List Nat} {first : Nat} {cs : List (Nat × Option Nat)} {at_ : Nat}
theorem bfs_new (adj : Nat → Nat → Prop) (shut : List Nat) (first : Nat) : Bfs adj shut first [(first, none)] 0 := by
  refine ⟨by simp, rfl, by simp, fun j x o h hj => ?_, fun i x o hi => absurd hi (Nat.not_lt_zero _)⟩
  obtain ⟨j, rfl⟩ := Nat.exists_eq_succ_of_ne_zero (Nat.ne_of_gt hj)
  simp at h
theorem Bfs.add (B : Bfs adj shut first cs at_) {h : Nat} {o : Option Nat} (hh : cs[at_]? = some (h, o)) {x : Nat} (hx : x ∉ cs.map (·.1)) (hs : x ∉ shut) (ha : adj h x) : Bfs adj shut first (cs ++ [(x, some h)]) at_ := by
  have hlt : at_ < cs.length := (List.getElem?_eq_some_iff.1 hh).1
  have old : ∀ {i : Nat} {y : Nat} {r : Option Nat}, i < cs.length → (cs ++ [(x, some h)])[i]? = some (y, r) → cs[i]? = some (y, r) := fun hi e => by
    rw [List.getElem?_append_left hi] at e
    exact e
  refine ⟨?_, ?_, ?_, ?_, ?_⟩
  · rw [List.map_append, List.nodup_append]
    refine ⟨B.nd, by simp, fun a ha b hb => ?_⟩
    rw [List.map_cons, List.map_nil, List.mem_singleton] at hb
    rw [hb]
    intro e
    have e : a = x := e
    rw [e] at ha
    exact hx ha
  · rw [List.getElem?_append_left (by omega)]
    exact B.hd
  · rw [List.length_append]
    exact Nat.le_trans B.le (Nat.le_add_right _ _)
  · intro j y r e hj
    by_cases hjl : j < cs.length
    · obtain ⟨p, i, q, h1, h2, h3, h4, h5, h6, h7⟩ := B.par j y r (old hjl e) hj
      refine ⟨p, i, q, h1, ?_, h3, h4, h5, h6, fun k z s hk e2 => h7 k z s hk (old (by omega) e2)⟩
      rw [List.getElem?_append_left (by omega)]
      exact h2
    · rw [List.getElem?_append_right (by omega)] at e
      have hj0 : j - cs.length = 0 := by
        by_cases z : j - cs.length = 0
        · exact z
        · rw [List.getElem?_eq_none (by simp; omega)] at e
          cases e
      rw [hj0] at e
      cases e
      refine ⟨h, at_, o, rfl, ?_, by omega, Nat.le_refl _, ha, hs, fun k z s hk e2 hz => ?_⟩
      · rw [List.getElem?_append_left hlt]
        exact hh
      · rcases B.cl k z s hk (old (by omega) e2) x hz with w | w
        · exact hs w
        · exact hx w
  · intro i y r hi e z hz
    rcases B.cl i y r hi (old (by omega) e) z hz with w | w
    · exact .inl w
    · exact .inr (by rw [List.map_append]; exact List.mem_append_left _ w)
theorem Bfs.next (B : Bfs adj shut first cs at_) {h : Nat} {o : Option Nat} (hh : cs[at_]? = some (h, o)) (hc : ∀ z, adj h z → z ∈ shut ∨ z ∈ cs.map (·.1)) : Bfs adj shut first cs (at_ + 1) := by
  have hlt : at_ < cs.length := (List.getElem?_eq_some_iff.1 hh).1
  refine ⟨B.nd, B.hd, hlt, fun j x r e hj => ?_, fun i x r hi e => ?_⟩
  · obtain ⟨p, i, q, h1, h2, h3, h4, h5⟩ := B.par j x r e hj
    exact ⟨p, i, q, h1, h2, h3, by omega, h5⟩
  · by_cases z : i < at_
    · exact B.cl i x r z e
    · have : i = at_ := by omega
      subst this
      rw [hh] at e
      cases e
      exact hc
theorem Bfs.all (B : Bfs adj shut first cs cs.length) {P : Nat → Prop} (hP : ∀ x, P x → x ∉ shut) {z : Nat} (w : Way adj P first z) (hz : z ∉ shut) : z ∈ cs.map (·.1) := by
  have cl : ∀ x ∈ cs.map (·.1), ∀ z, adj x z → z ∈ shut ∨ z ∈ cs.map (·.1) := fun x hx z hz => by
    obtain ⟨i, hi⟩ := List.getElem?_of_mem hx
    rw [List.getElem?_map] at hi
    cases e : cs[i]? with
    | none => rw [e] at hi; cases hi
    | some p =>
      obtain ⟨y, r⟩ := p
      rw [e] at hi
      have hi : y = x := Option.some.inj hi
      subst hi
      exact B.cl i y r (List.getElem?_eq_some_iff.1 e).1 e z hz
  have h1 : first ∈ cs.map (·.1) := List.mem_map.2 ⟨_, List.mem_of_getElem? B.hd, rfl⟩
  induction w with
  | one h => exact (cl _ h1 _ h).resolve_left hz
  | step _ hp ha ih => exact (cl _ (ih (hP _ hp)) _ ha).resolve_left hz
theorem key_ix (nd : (cs.map (·.1)).Nodup) {i j x : Nat} {o r : Option Nat} (hi : cs[i]? = some (x, o)) (hj : cs[j]? = some (x, r)) : i = j := by
  have h1 : (cs.map (·.1))[i]? = some x := by rw [List.getElem?_map, hi]; rfl
  have h2 : (cs.map (·.1))[j]? = some x := by rw [List.getElem?_map, hj]; rfl
  exact (List.getElem?_inj (List.getElem?_eq_some_iff.1 h1).1 nd).1 (h1.trans h2.symm)
structure Back (cs : List (Nat × Option Nat)) (adj : Nat → Nat → Prop) (last h : Nat) (t : List Nat) (i : Nat) : Prop where
  hd : ∃ o, cs[i]? = some (h, o)
  ends : (h :: t).getLast? = some last
  out : ∀ (m x : Nat), t[m]? = some x → ∃ j y, i < j ∧ (h :: t)[m]? = some y ∧ cs[j]? = some (x, some y)
  free : ∀ (k m a b : Nat), k + 1 < m → (h :: t)[k]? = some a → (h :: t)[m]? = some b → ¬ adj a b
  nd : (h :: t).Nodup
theorem back_new {last i : Nat} {o : Option Nat} (h : cs[i]? = some (last, o)) : Back cs adj last last [] i :=
  ⟨⟨o, h⟩, rfl, (fun m x e => nomatch e), (fun k m a b hk _ e => by
    rw [List.getElem?_eq_none (by simp; omega)] at e
    cases e), by simp⟩
theorem Back.step {n : Nat} (B : Bfs adj shut first cs n) {last h i : Nat} {t : List Nat} (K : Back cs adj last h t i) {p : Nat} (hp : cs[i]? = some (h, some p)) : ∃ i', i' < i ∧ Back cs adj last p (h :: t) i' := by
  have hi0 : 0 < i := by
    rcases Nat.eq_zero_or_pos i with e | e
    · rw [e, B.hd] at hp
      cases hp
    · exact e
  obtain ⟨p', i', q, e1, e2, e3, _, e5, e6, e7⟩ := B.par i h _ hp hi0
  cases e1
  have out' : ∀ (m x : Nat), (h :: t)[m]? = some x → ∃ j y, i' < j ∧ (p :: h :: t)[m]? = some y ∧ cs[j]? = some (x, some y) := fun m x e => by
    cases m with
    | zero =>
      cases e
      exact ⟨i, p, e3, rfl, hp⟩
    | succ m =>
      obtain ⟨j, y, h1, h2, h3⟩ := K.out m x e
      exact ⟨j, y, by omega, h2, h3⟩
  refine ⟨i', e3, ⟨⟨q, e2⟩, ?_, out', ?_, ?_⟩⟩
  · have := K.ends
    rw [List.getLast?_cons_cons]
    exact this
  · intro k m a b hk ha hb
    cases k with
    | succ k =>
      cases m with
      | zero => omega
      | succ m => exact K.free k m a b (by omega) ha hb
    | zero =>
      cases ha
      obtain ⟨m, rfl⟩ : ∃ m', m = m' + 2 := ⟨m - 2, by omega⟩
      obtain ⟨j, y, h1, h2, h3⟩ := K.out m b hb
      obtain ⟨y', i2, q2, f1, f2, f3, _, _, _, f7⟩ := B.par j b _ h3 (by omega)
      cases f1
      refine f7 i' p q ?_ e2
      -- y stands at i or behind it
      cases m with
      | zero =>
        cases h2
        have := key_ix B.nd f2 hp
        omega
      | succ m =>
        obtain ⟨j3, y3, g1, g2, g3⟩ := K.out m y h2
        have := key_ix B.nd f2 g3
        omega
  · refine List.nodup_cons.2 ⟨fun hm => ?_, K.nd⟩
    rcases List.mem_cons.1 hm with e | hm
    · rw [e] at e2
      have := key_ix B.nd e2 hp
      omega
    · obtain ⟨m, hm⟩ := List.getElem?_of_mem hm
      obtain ⟨j, y, h1, h2, h3⟩ := K.out m p hm
      have := key_ix B.nd e2 h3
      omega
structure Road (adj : Nat → Nat → Prop) (shut : List Nat) (first last : Nat) (l : List Nat) : Prop where
  hd : l[0]? = some first
  ends : l.getLast? = some last
  nd : l.Nodup
  tied : ∀ (k a b : Nat), l[k]? = some a → l[k + 1]? = some b → adj a b
  free : ∀ (k m a b : Nat), k + 1 < m → l[k]? = some a → l[m]? = some b → ¬ adj a b
  open_ : ∀ (k a : Nat), l[k + 1]? = some a → a ∉ shut
theorem Back.done {n : Nat} (B : Bfs adj shut first cs n) {last h i : Nat} {t : List Nat} (K : Back cs adj last h t i) (hp : cs[i]? = some (h, none)) : Road adj shut first last (h :: t) := by
  have hi0 : i = 0 := by
    rcases Nat.eq_zero_or_pos i with e | e
    · exact e
    · obtain ⟨p', i', q, e1, _⟩ := B.par i h _ hp e
      cases e1
  subst hi0
  rw [B.hd] at hp
  cases hp
  refine ⟨rfl, K.ends, K.nd, fun k a b ha hb => ?_, K.free, fun k a ha => ?_⟩
  · obtain ⟨j, y, h1, h2, h3⟩ := K.out k b hb
    rw [ha] at h2
    cases h2
    obtain ⟨p', i', q, e1, _, _, _, e5, _⟩ := B.par j b _ h3 h1
    cases e1
    exact e5
  · obtain ⟨j, y, h1, h2, h3⟩ := K.out k a ha
    obtain ⟨p', i', q, e1, _, _, _, _, e6, _⟩ := B.par j a _ h3 h1
    exact e6
structure Ring (adj : Nat → Nat → Prop) (R : List Nat) : Prop where
  nd : R.Nodup
  four : 4 ≤ R.length
  tie : ∀ (i j a b : Nat), i < j → R[i]? = some a → R[j]? = some b → (adj a b ↔ j = i + 1 ∨ (i = 0 ∧ j + 1 = R.length))
theorem Road.ring {name one other : Nat} {l : List Nat} (irr : ∀ a, ¬ adj a a) (R : Road adj shut one other l) (h1 : adj name one) (h2 : adj name other) (hne : one ≠ other) (hn : ¬ adj one other) (hs : ∀ z, z = name ∨ (adj name z ∧ z ≠ one ∧ z ≠ other) → z ∈ shut) : Ring adj (name :: l) := by
  have hl : 3 ≤ l.length := by
    match l, R with
    | [], R => have := R.hd; cases this
    | [a], R =>
      have e1 := R.hd
      have e2 := R.ends
      simp at e1 e2
      exact absurd (e1.symm.trans e2) hne
    | [a, b], R =>
      have e1 := R.hd
      have e2 := R.ends
      simp at e1 e2
      exact absurd (by rw [← e1, ← e2]; exact R.tied 0 a b rfl rfl) hn
    | a :: b :: c :: r, _ => simp
  have e2 : l[l.length - 1]? = some other := by
    have := R.ends
    rwa [List.getLast?_eq_getElem?] at this
  refine ⟨List.nodup_cons.2 ⟨fun hm => ?_, R.nd⟩, by simp; omega, fun i j a b hij ha hb => ?_⟩
  · obtain ⟨m, hm⟩ := List.getElem?_of_mem hm
    cases m with
    | zero =>
      rw [R.hd] at hm
      cases hm
      exact irr _ h1
    | succ m => exact R.open_ m name hm (hs _ (.inl rfl))
  · obtain ⟨j, rfl⟩ : ∃ j', j = j' + 1 := ⟨j - 1, by omega⟩
    have hb : l[j]? = some b := hb
    have hjl : j < l.length := (List.getElem?_eq_some_iff.1 hb).1
    cases i with
    | succ i =>
      have ha : l[i]? = some a := ha
      constructor
      · intro h
        refine .inl ?_
        rcases Nat.lt_or_ge (i + 1) j with z | z
        · exact absurd h (R.free i j a b z ha hb)
        · omega
      · rintro (e | e)
        · have : j = i + 1 := by omega
          subst this
          exact R.tied i a b ha hb
        · omega
    | zero =>
      cases ha
      constructor
      · intro h
        have hb2 : b = one ∨ b = other := by
          by_cases z1 : b = one
          · exact .inl z1
          by_cases z2 : b = other
          · exact .inr z2
          cases j with
          | zero => rw [R.hd] at hb; cases hb; exact .inl rfl
          | succ j => exact absurd (hs b (.inr ⟨h, z1, z2⟩)) (R.open_ j b hb)
        rcases hb2 with rfl | rfl
        · have := (List.getElem?_inj hjl R.nd).1 (hb.trans R.hd.symm)
          omega
        · have := (List.getElem?_inj hjl R.nd).1 (hb.trans e2.symm)
          refine .inr ⟨rfl, ?_⟩
          simp
          omega
      · rintro (e | ⟨_, e⟩)
        · have : j = 0 := by omega
          subst this
          rw [R.hd] at hb
          cases hb
          exact h1
        · have : j = l.length - 1 := by simp at e; omega
          subst this
          rw [e2] at hb
          cases hb
          exact h2
def prv (N k : Nat) : Nat := if k = 0 then N - 1 else k - 1
def nxt (N k : Nat) : Nat := if k + 1 = N then 0 else k + 1
end
end PM.Gr
namespace PM
open Gr
theorem way_cons {adj : Nat → Nat → Prop} {P : Nat → Prop} {a b c : Nat} (h : adj a b) (hb : P b) (w : Way adj P b c) : Way adj P a c := by
  induction w with
  | one h2 => exact .step (.one h) hb h2
  | step _ hp ha ih => exact .step ih hp ha
theorem way_symm {adj : Nat → Nat → Prop} (sym : ∀ a b, adj a b → adj b a) {P : Nat → Prop} {a b : Nat} (w : Way adj P a b) : Way adj P b a := by
  induction w with
  | one h => exact .one (sym _ _ h)
  | step _ hp ha ih => exact way_cons (sym _ _ ha) hp ih
def adjN (n : Nat) (gs : List (List Nat)) (a b : Nat) : Prop := a < n ∧ b ∈ nb n gs a
theorem adjN_sym {n : Nat} {gs : List (List Nat)} (a b : Nat) (h : adjN n gs a b) : adjN n gs b a := by
  obtain ⟨h1, h2⟩ := h
  obtain ⟨h3, h4⟩ := mem_nb.1 h2
  exact ⟨h3, mem_nb.2 ⟨h1, by rw [tieB_comm]; exact h4⟩⟩
theorem adjN_irr {n : Nat} {gs : List (List Nat)} (a : Nat) : ¬ adjN n gs a a := fun h => (tieB_iff.1 (mem_nb.1 h.2).2).1 rfl
def AllT (n : Nat) (gs : List (List Nat)) (l : List Nat) : Prop := ∀ a ∈ l, ∀ b ∈ l, b ≠ a → b ∈ nb n gs a
def Peo (n : Nat) (gs : List (List Nat)) (ord : List Nat) : Prop := ∀ k x, ord[k]? = some x → AllT n gs ((nb n gs x).filter fun y => !decide (y ∈ ord.take k))
theorem ring_some {n : Nat} {gs : List (List Nat)} {left : List Nat} (hl : ∀ x ∈ left, x < n) (hne : left ≠ []) (h : ∀ x ∈ left, ¬ AllT n gs ((nb n gs x).filter fun y => decide (y ∈ left))) :
    ∃ v ∈ left, ∃ a b, a ∈ nb n gs v ∧ b ∈ nb n gs v ∧ a ≠ b ∧ b ∉ nb n gs a ∧ Way (adjN n gs) (fun x => x ≠ v ∧ x ∉ nb n gs v) a b := by
  apply Classical.byContradiction
  intro hno
  have nr : NoRing (adjN n gs) left := fun v hv a ha b hb h1 h2 h3 h4 w => hno ⟨v, hv, a, b, h1.2, h2.2, h3, fun z => h4 ⟨hl a ha, z⟩, w.mono fun x hx => ⟨hx.2.1, fun z => hx.2.2 ⟨hl v hv, z⟩⟩⟩
  obtain ⟨x, hx, hs⟩ := simp_some adjN_sym adjN_irr hne nr
  refine h x hx fun a ha b hb hab => ?_
  obtain ⟨a1, a2⟩ := List.mem_filter.1 ha
  obtain ⟨b1, b2⟩ := List.mem_filter.1 hb
  exact (hs a (by simpa using a2) b (by simpa using b2) ⟨hl x hx, a1⟩ ⟨hl x hx, b1⟩ (Ne.symm hab)).2
end PM
namespace PM
theorem nd_sub_len : ∀ {a b : List Nat}, a.Nodup → (∀ x ∈ a, x ∈ b) → a.length ≤ b.length := by
  intro a
  induction a with
  | nil => intro b _ _; exact Nat.zero_le _
  | cons x a ih =>
    intro b nd h
    obtain ⟨h1, h2⟩ := List.nodup_cons.1 nd
    have hx := h x List.mem_cons_self
    have := ih (b := b.erase x) h2 fun y hy => (List.mem_erase_of_ne (fun e => h1 (by rw [← e]; exact hy))).2 (h y (List.mem_cons_of_mem _ hy))
    rw [List.length_erase_of_mem hx] at this
    have h0 : 0 < b.length := List.length_pos_of_mem hx
    rw [List.length_cons]
    omega
end PM
namespace LS
open PySem L2 HD PM
local macro_rules | `(tactic| trivial) => `(tactic| try simp -dsimp only [↓sIf, ↓sRet, ↓retD_ext, ↓retD_lst, ↓retD_al, ↓sSet, ↓sSetE, ↓sAsg, ↓sDrop, ↓sNext, ↓sFor, ↓sRetN, ↓sCont, ↓sBreak, ↓dTest, ↓dOp, ↓dVar_w, ↓dC, ↓dCons, ↓dNil, ↓dTup, ↓dLst, ↓frzDs, ↓frzD_ext, ↓frzD_lst, ↓frzD_al, ↓wd_ext, ↓wd_lst, ↓wd_al, ↓wds, ↓AtS_ext, ↓AtS_lst, ↓AtL, ↓fAdd, ↓fSub, ↓fMul, ↓fDiv, ↓fMod, ↓fPow, ↓fCmp, ↓fIn, ↓fEq_ii, ↓fEq_ss, ↓fEq_bb, ↓fEq_tt, ↓fEq_ll, ↓fNe_ii, ↓fNe_ss, ↓fNe_bb, ↓fNe_tt, ↓fNe_ll, ↓fIx_l, ↓fIx_t, ↓fIx_k, ↓fIx_f, ↓GetS_some, ↓NatS_some, ↓fSl, ↓fIsN, ↓fNotN, ↓D.knN, ↓dNot, ↓dAnd, ↓dOr, ↓dAndV_w, ↓dOrV_w, ↓dNotV, ↓dIf, ↓dNeg, ↓dChain_w, ↓BlS_bl, ↓dCall_w, ↓dCallJ_w, ↓anyAl, ↓frozs, ↓froz, ↓gSet, ↓gTupD, ↓gsCons, ↓gsNil, ↓dSeq, ↓seqD_tup, ↓seqD_elst, ↓seqD_lst, ↓seqD_al, ↓dRange1, ↓dRange2, ↓dZip, ↓dCB, ↓dLc, ↓dYes, ↓dNoPart, ↓dPart, ↓dSl, ↓fLen, ↓fMin, ↓fMax, ↓fSum, ↓fAll, ↓fAny, ↓fSorted, ↓fTuple, ↓fList, ↓dRg1, ↓dRg2, ↓dLstRg, ↓dTupRg, ↓dIndex, ↓fIdx, ↓dAppend_w, ↓dExtend_w, ↓extD_lst, ↓dPopAt_w, ↓popD_int, ↓dPop_w, ↓mutD_w, ↓sSetItem_w, ↓setD_int, ↓dSortSet, ↓dTable_w, ↓wipeE, finals1, finals2, finals3, finals4, finals5, finals6, fin1_ext, fin1_lst, List.getElem?_cons_zero, List.getElem?_cons_succ, List.getElem?_nil, List.set_cons_zero, List.set_cons_succ, List.cons_append, List.nil_append, List.append_nil, List.replicate_succ, List.replicate_zero, List.map_cons, List.map_nil, List.length_cons, List.length_nil, true_and, and_true, ite_true, ite_false, if_true, if_false, Bool.false_eq_true, decide_eq_true_eq, Sl.plain, D.isSq, eq_self_iff_true, forall_const, reduceIte, true_or, or_true, atI_0, atI_1, atI_2, atI_3, ixN_0, ixN_1, ixN_2, AtS_ext, AtS_lst, FzS_lst, FzS_ext, GetS_some, NatS_some, ↓fIsi1, ↓fIsi2, BoolS_some, HD.kb_non_tuple, HD.kb_non_list, HD.kb_non_bool, HD.kb_non_int, HD.kb_non_str, HD.kb_bl_tuple, HD.kb_bl_list, HD.kb_bl_bool, HD.kb_bl_int, HD.kb_bl_str, HD.kb_int_tuple, HD.kb_int_list, HD.kb_int_bool, HD.kb_int_int, HD.kb_int_str, HD.kb_str_tuple, HD.kb_str_list, HD.kb_str_bool, HD.kb_str_int, HD.kb_str_str, HD.kb_lst_tuple, HD.kb_lst_list, HD.kb_lst_bool, HD.kb_lst_int, HD.kb_lst_str, HD.kb_tup_tuple, HD.kb_tup_list, HD.kb_tup_bool, HD.kb_tup_int, HD.kb_tup_str, ↓sFz_w, ↓FzS_lst, ↓FzS_ext, ↓dSortSetL, ↓fAbs, ↓fInt, ↓fRepr, ↓fLtT, ↓sRaise, ↓sTryKeep, ↓dCallV_w, ↓dMeth, ↓fCount, ↓fSplit, ↓seq_setE, ↓seq_set, ↓seq_drop, ↓seq_asg, ↓seq_if, ↓seq_for, ↓dStep, ↓fStep, ↓fMulT, ↓fIsB, ↓fNotB, ↓sPar, ↓dEnum, ↓dListZip, ↓dNest, ↓sSeal, ↓dNApp, ↓retD_reg, ↓dLenSet, ↓fSum2, ↓seq_putD, ↓seq_sealD, ↓dDIn, ↓dDGet, ↓sPutD, ↓dDNew, ↓dDOne, ↓sSealD, ↓dKeys, ↓keyS_dk, ↓dExtT, ↓fSortT, ↓fMinP, ↓dRemove])
local macro_rules | `(tactic| and_intros) => `(tactic| try simp -dsimp only [↓sIf, ↓sRet, ↓retD_ext, ↓retD_lst, ↓retD_al, ↓sSet, ↓sSetE, ↓sAsg, ↓sDrop, ↓sNext, ↓sFor, ↓sRetN, ↓sCont, ↓sBreak, ↓dTest, ↓dOp, ↓dC, ↓dCons, ↓dNil, ↓dTup, ↓dLst, ↓frzDs, ↓frzD_ext, ↓frzD_lst, ↓frzD_al, ↓wd_ext, ↓wd_lst, ↓wd_al, ↓wds, ↓AtS_ext, ↓AtS_lst, ↓AtL, ↓fAdd, ↓fSub, ↓fMul, ↓fDiv, ↓fMod, ↓fPow, ↓fCmp, ↓fIn, ↓fEq_ii, ↓fEq_ss, ↓fEq_bb, ↓fEq_tt, ↓fEq_ll, ↓fNe_ii, ↓fNe_ss, ↓fNe_bb, ↓fNe_tt, ↓fNe_ll, ↓fIx_l, ↓fIx_t, ↓fIx_k, ↓fIx_f, ↓GetS_some, ↓NatS_some, ↓fSl, ↓fIsN, ↓fNotN, ↓D.knN, ↓dNot, ↓dAnd, ↓dOr, ↓dAndV_w, ↓dOrV_w, ↓dNotV, ↓dIf, ↓dNeg, ↓dChain_w, ↓BlS_bl, ↓dCall_w, ↓dCallJ_w, ↓anyAl, ↓frozs, ↓froz, ↓gSet, ↓gTupD, ↓gsCons, ↓gsNil, ↓dSeq, ↓seqD_tup, ↓seqD_elst, ↓seqD_lst, ↓seqD_al, ↓dRange1, ↓dRange2, ↓dZip, ↓dCB, ↓dLc, ↓dYes, ↓dNoPart, ↓dPart, ↓dSl, ↓fLen, ↓fMin, ↓fMax, ↓fSum, ↓fAll, ↓fAny, ↓fSorted, ↓fTuple, ↓fList, ↓dRg1, ↓dRg2, ↓dLstRg, ↓dTupRg, ↓dIndex, ↓fIdx, ↓dAppend_w, ↓dExtend_w, ↓extD_lst, ↓dPopAt_w, ↓popD_int, ↓dPop_w, ↓mutD_w, ↓sSetItem_w, ↓setD_int, ↓dSortSet, ↓dTable_w, ↓wipeE, finals1, finals2, finals3, finals4, finals5, finals6, fin1_ext, fin1_lst, List.getElem?_cons_zero, List.getElem?_cons_succ, List.getElem?_nil, List.set_cons_zero, List.set_cons_succ, List.cons_append, List.nil_append, List.append_nil, List.replicate_succ, List.replicate_zero, List.map_cons, List.map_nil, List.length_cons, List.length_nil, true_and, and_true, ite_true, ite_false, if_true, if_false, Bool.false_eq_true, decide_eq_true_eq, Sl.plain, D.isSq, eq_self_iff_true, forall_const, reduceIte, true_or, or_true, atI_0, atI_1, atI_2, atI_3, ixN_0, ixN_1, ixN_2, AtS_ext, AtS_lst, FzS_lst, FzS_ext, GetS_some, NatS_some, ↓fIsi1, ↓fIsi2, BoolS_some, HD.kb_non_tuple, HD.kb_non_list, HD.kb_non_bool, HD.kb_non_int, HD.kb_non_str, HD.kb_bl_tuple, HD.kb_bl_list, HD.kb_bl_bool, HD.kb_bl_int, HD.kb_bl_str, HD.kb_int_tuple, HD.kb_int_list, HD.kb_int_bool, HD.kb_int_int, HD.kb_int_str, HD.kb_str_tuple, HD.kb_str_list, HD.kb_str_bool, HD.kb_str_int, HD.kb_str_str, HD.kb_lst_tuple, HD.kb_lst_list, HD.kb_lst_bool, HD.kb_lst_int, HD.kb_lst_str, HD.kb_tup_tuple, HD.kb_tup_list, HD.kb_tup_bool, HD.kb_tup_int, HD.kb_tup_str, ↓sFz_w, ↓FzS_lst, ↓FzS_ext, ↓dSortSetL, ↓fAbs, ↓fInt, ↓fRepr, ↓fLtT, ↓sRaise, ↓sTryKeep, ↓dCallV_w, ↓dMeth, ↓fCount, ↓fSplit, ↓seq_setE, ↓seq_set, ↓seq_drop, ↓seq_asg, ↓seq_if, ↓seq_for, ↓dStep, ↓fStep, ↓fMulT, ↓fIsB, ↓fNotB, ↓sPar, ↓dEnum, ↓dListZip, ↓dNest, ↓sSeal, ↓dNApp, ↓retD_reg, ↓dLenSet, ↓fSum2, ↓seq_putD, ↓seq_sealD, ↓dDIn, ↓dDGet, ↓sPutD, ↓dDNew, ↓dDOne, ↓sSealD, ↓dKeys, ↓keyS_dk, ↓dExtT, ↓fSortT, ↓fMinP, ↓dRemove, ↓dv0, ↓dw0, ↓dv1, ↓dw1, ↓dv2, ↓dw2, ↓dv3, ↓dw3, ↓dv4, ↓dw4, ↓dv5, ↓dw5, ↓dv6, ↓dw6, ↓dv7, ↓dw7, ↓dv8, ↓dw8, ↓dv9, ↓dw9, ↓dv10, ↓dw10, ↓dv11, ↓dw11, ↓dv12, ↓dw12, ↓dv13, ↓dw13, ↓dv14, ↓dw14, ↓dv15, ↓dw15, ↓dv16, ↓dw16, ↓dv17, ↓dw17, ↓dv18, ↓dw18, ↓dv19, ↓dw19])
def sp_all_tied : DSpec := fun args Q _ => ∃ (n : Nat) (gs : List (List Nat)) (l : List Nat) (Z : D), args = [.ext (tiD n gs), .ext Z] ∧ SqN l Z ∧ n ≤ 24 ∧ l.length ≤ 100 ∧ (∀ x ∈ l, x < n) ∧ ∀ (b : Bool) fin, (b = true ↔ AllT n gs l) → Q (.ext (.bl b)) fin
def e1_all_tied : DT :=
    (dC (.int 1))
def e2_all_tied : DT :=
    (dOp fEq (dCB fLen (dCons (dLc (dSeq (dVar 1)) (gSet 3) (dAnd (dTest (dOp fNe (dVar 3) (dVar 2))) (dTest (dOp (fIn true) (dVar 3) (dOp fIx (dVar 0) (dVar 2))))) e1_all_tied [3]) dNil)) (dC (.int 0)))
def t_all_tied : DTS :=
    (sRet (dCB fAll (dCons (dLc (dSeq (dVar 1)) (gSet 2) dYes e2_all_tied [2]) dNil)))
theorem allT_iff {n : Nat} {gs : List (List Nat)} {l : List Nat} : (l.map fun s => ((l.filter fun o => o != s && !decide (o ∈ nb n gs s)).length == 0)).all id = true ↔ AllT n gs l := by
  rw [List.all_map, List.all_eq_true]
  refine forall_congr' fun s => forall_congr' fun hs => ?_
  simp only [Function.comp, id, beq_iff_eq, List.length_eq_zero_iff, List.filter_eq_nil_iff, Bool.and_eq_true, bne_iff_ne, ne_eq, Bool.not_eq_true', decide_eq_false_iff_not, not_and, Classical.not_not]
theorem ib_nat (a b : Nat) : (((a : Nat) : Int) == ((b : Nat) : Int)) = (a == b) := by
  rw [Bool.eq_iff_iff, beq_iff_eq, beq_iff_eq]
  omega
theorem at_ti {n : Nat} {gs : List (List Nat)} {s : Nat} (h : s < n) : atI (tiDs n gs) ((s : Nat) : Int) = some (D.lst (nD (nb n gs s))) := atN (x := D.lst (nD (nb n gs s))) (by rw [List.getElem?_map, List.getElem?_range h]; rfl)
theorem m_all_tied : Meets t_all_tied 2 2 sp_all_tied := by
  rintro args Qd Xd ⟨n, gs, l, Z, rfl, hZ, h24, hl, hx, hQ⟩
  show t_all_tied _ _ [_, _, .un, .un]
  unfold t_all_tied
  rcases hZ with rfl | rfl
  all_goals
    and_intros
    refine lc_map (fun s : Nat => D.int (s : Nat)) (fun s => .bl ((l.filter fun o => o != s && !decide (o ∈ nb n gs s)).length == 0)) True.intro l (Nat.le_trans hl (by decide)) (fun s hs R hR => ?_) fun b => ?_
    · unfold e2_all_tied
      and_intros
      refine lc_filter (fun o : Nat => D.int (o : Nat)) (fun o => .int 1) (fun o => o != s && !decide (o ∈ nb n gs s)) True.intro l (Nat.le_trans hl (by decide)) (fun o ho R hR => ?_) fun b => ?_
      · unfold e1_all_tied
        and_intros
        rw [ib_nat]
        by_cases e : o = s
        · rw [if_neg (by simp [e])]
          simpa [e] using hR
        · rw [if_pos (by simp [e])]
          refine ⟨_, at_ti (hx s hs), ?_⟩
          and_intros
          rw [isIn_nat]
          exact ⟨rfl, flat_nD _, R_if (b' := o != s && !decide (o ∈ nb n gs s)) (by simp [e]) hR⟩
      · and_intros
        rw [List.length_map, show (((List.filter (fun o => o != s && !decide (o ∈ nb n gs s)) l).length : Int) == 0) = ((List.filter (fun o => o != s && !decide (o ∈ nb n gs s)) l).length == 0) from ib_nat _ 0]
        exact hR
    · and_intros
      refine ⟨l.map fun s => (l.filter fun o => o != s && !decide (o ∈ nb n gs s)).length == 0, by rw [List.map_map]; rfl, ?_⟩
      exact hQ _ _ allT_iff
open Gr
def parV : Option Nat → D
  | none => .non
  | some p => .int (p : Nat)
abbrev kvC (cs : List (Nat × Option Nat)) : List (Key × D) := cs.map fun p => ((.inl (p.1 : Int) : Key), parV p.2)
theorem kvC_has (cs : List (Nat × Option Nat)) (x : Nat) : (luK (kvC cs) (.inl (x : Int))).isSome = decide (x ∈ cs.map (·.1)) := by
  rw [luK_isSome, List.map_map, Bool.eq_iff_iff]
  simp only [decide_eq_true_eq, List.mem_map, Function.comp_apply]
  constructor
  · rintro ⟨s, hs, e⟩
    have e : (s.1 : Int) = x := Sum.inl.inj e
    exact ⟨s, hs, by omega⟩
  · rintro ⟨s, hs, e⟩
    exact ⟨s, hs, by rw [e]⟩
theorem kvC_put {cs : List (Nat × Option Nat)} {x : Nat} (o : Option Nat) (h : x ∉ cs.map (·.1)) : ptK (kvC cs) (.inl (x : Int)) (parV o) = kvC (cs ++ [(x, o)]) := by
  rw [ptK_new, kvC, kvC, List.map_append]
  · rfl
  · have := kvC_has cs x
    rw [decide_eq_false h] at this
    cases e : luK (kvC cs) (.inl (x : Int)) with
    | none => rfl
    | some b => rw [e] at this; cases this
theorem kvC_lu {cs : List (Nat × Option Nat)} (nd : (cs.map (·.1)).Nodup) {i x : Nat} {o : Option Nat} (h : cs[i]? = some (x, o)) : luK (kvC cs) (.inl (x : Int)) = some (parV o) := by
  induction cs generalizing i with
  | nil => cases h
  | cons p cs ih =>
    obtain ⟨y, r⟩ := p
    have e : luK (kvC ((y, r) :: cs)) (.inl (x : Int)) = if (.inl (y : Int) : Key) = .inl (x : Int) then some (parV r) else luK (kvC cs) (.inl (x : Int)) := luK_cons _ _ _
    rw [e]
    rw [List.map_cons] at nd
    obtain ⟨n1, n2⟩ := List.nodup_cons.1 nd
    cases i with
    | zero => cases h; rw [if_pos rfl]
    | succ i =>
      have h : cs[i]? = some (x, o) := h
      rw [if_neg fun z => n1 (by
        have z : (y : Int) = x := Sum.inl.inj z
        have : y = x := by omega
        show y ∈ _
        rw [this]
        exact List.mem_map.2 ⟨_, List.mem_of_getElem? h, rfl⟩)]
      exact ih n2 h
theorem eqv_nilN (l : List Nat) : D.eqv (.lst (nD l)) (.lst []) = l.isEmpty := by
  cases l with
  | nil => rfl
  | cons c l => rfl
def sp_road : DSpec := fun args Q _ => ∃ (n : Nat) (gs : List (List Nat)) (first last : Nat) (shut : List Nat), args = [.ext (tiD n gs), dI (first : Nat), dI (last : Nat), .ext (.lst (nD shut))] ∧ n ≤ 24 ∧ first < n ∧ last < n ∧ last ∉ shut ∧
  (∀ l fin, Road (adjN n gs) shut first last l → (∀ x ∈ l, x < n) → Q (.ext (.tup (nD l))) fin) ∧ (∀ fin, ¬ Way (adjN n gs) (fun x => x ∉ shut) first last → Q (.ext .non) fin)
def b1_road : DTS :=
    (sIf (dAnd (dTest (dDIn true 4 (dVar 7))) (dTest (dOp (fIn true) (dVar 7) (dVar 3)))) (sSeq (sPutD 4 (dVar 7) (dVar 6))
    (sDrop (dAppend 5 (dVar 7)))) sNext)
def b2_road : DTS :=
    (sSeq (sSetE 6 (dPopAt 5 (dC (.int 0))))
    (sFor (dSeq (dOp fIx (dVar 0) (dVar 6))) (gSet 7) b1_road))
def b3_road : DTS :=
    (sDrop (dAppend 8 (dDGet 4 (dOp fIx (dVar 8) (dNeg (dC (.int 1)))))))
def k4_road : DTS :=
    (sRet (dCB fTuple (dCons (dStep (dVar 8) (dPart (dNeg (dC (.int 1))))) dNil)))
def k5_road : DTS :=
    (sSeq (sIf (dTest (dDIn true 4 (dVar 2))) (sRet (dC .non)) sNext)
    (sSeq (sSet 8 (dLst (dCons (dVar 2) dNil)))
    (sSeq (sWhile (dTest (dOp fNotN (dDGet 4 (dOp fIx (dVar 8) (dNeg (dC (.int 1))))) (dC .non))) b3_road)
    k4_road)))
def t_road : DTS :=
    (sSeq (sSet 4 (dDOne (dVar 1) (dC .non)))
    (sSeq (sSet 5 (dLst (dCons (dVar 1) dNil)))
    (sSeq (sWhile (dTest (dOp fNe (dVar 5) (dLst dNil))) b2_road)
    k5_road)))
theorem k5_ok {n : Nat} {gs : List (List Nat)} {first last : Nat} {shut : List Nat} {cs : List (Nat × Option Nat)} {a3 : Addr} {Ex : DX} {E : DEnds} {u5 u6 u7 : Sl} (h24 : n ≤ 24) (B : Bfs (adjN n gs) shut first cs cs.length) (hlt : ∀ x ∈ cs.map (·.1), x < n) (hl : last < n) (hls : last ∉ shut)
    (hQ : ∀ l env, Road (adjN n gs) shut first last l → (∀ x ∈ l, x < n) → E.rt (.ext (.tup (nD l))) env) (hQ0 : ∀ env, ¬ Way (adjN n gs) (fun x => x ∉ shut) first last → E.rt (.ext .non) env) :
    k5_road Ex E [.ext (tiD n gs), dI (first : Nat), dI (last : Nat), .ext (.lst (nD shut)), dkS a3 (kvC cs), u5, u6, u7, .un] := by
  unfold k5_road
  and_intros
  refine ⟨.inl (last : Int), kvC cs, rfl, .inl ⟨a3, rfl⟩, ?_⟩
  rw [kvC_has]
  by_cases hk : last ∈ cs.map (·.1)
  rotate_left
  · rw [if_pos (by simpa using hk)]
    exact hQ0 _ fun w => hk (B.all (fun x h => h) w hls)
  rw [if_neg (by simpa using hk)]
  refine ⟨by decide, fun a8 => ?_⟩
  obtain ⟨i0, h0⟩ := List.getElem?_of_mem hk
  rw [List.getElem?_map] at h0
  obtain ⟨⟨l', o⟩, h1⟩ : ∃ p, cs[i0]? = some p := by
    cases e : cs[i0]? with
    | none => rw [e] at h0; cases h0
    | some p => exact ⟨p, rfl⟩
  rw [h1] at h0
  have h0 : l' = last := Option.some.inj h0
  subst h0
  refine ⟨fun m env => ∃ (h : Nat) (t : List Nat) (i : Nat), env = [.ext (tiD n gs), dI (first : Nat), dI (l' : Nat), .ext (.lst (nD shut)), dkS a3 (kvC cs), u5, u6, u7, .lst a8 (nD (t.reverse ++ [h]))] ∧ Back cs (adjN n gs) l' h t i ∧ m = i, ⟨_, l', [], i0, rfl, back_new h1, rfl⟩, ?_⟩
  rintro m env ⟨h, t, i, rfl, K, rfl⟩
  obtain ⟨o, ho⟩ := K.hd
  have hnl : nD (t.reverse ++ [h]) = nD t.reverse ++ [D.int (h : Nat)] := nD_app _ _
  have htl : ∀ x ∈ h :: t, x < n := fun x hx => by
    rcases List.mem_cons.1 hx with rfl | hx
    · exact hlt _ (List.mem_map.2 ⟨_, List.mem_of_getElem? ho, rfl⟩)
    · obtain ⟨k, hk⟩ := List.getElem?_of_mem hx
      obtain ⟨j, y, _, _, e⟩ := K.out k x hk
      exact hlt _ (List.mem_map.2 ⟨_, List.mem_of_getElem? e, rfl⟩)
  have hfew := nodup_le K.nd htl
  rw [List.length_cons] at hfew
  and_intros
  rw [hnl]
  refine ⟨⟨kvC cs, .inl ⟨a3, rfl⟩⟩, _, at_last _ _, ?_⟩
  and_intros
  refine ⟨.inl (h : Int), kvC cs, _, rfl, .inl ⟨a3, rfl⟩, kvC_lu B.nd ho, ?_⟩
  cases o with
  | none =>
    unfold parV
    and_intros
    rw [if_neg (by decide)]
    unfold k4_road
    and_intros
    refine ⟨by decide, ?_⟩
    rw [stepL_rev]
    have e : (nD t.reverse ++ [D.int (h : Nat)]).reverse = nD (h :: t) := by
      rw [← hnl]
      unfold nD
      rw [← List.map_reverse, List.reverse_append, List.reverse_reverse]
      rfl
    rw [e]
    exact hQ _ _ (K.done B ho) htl
  | some p =>
    unfold parV
    and_intros
    rw [if_pos (by rfl)]
    unfold b3_road
    and_intros
    refine ⟨⟨kvC cs, .inl ⟨a3, rfl⟩⟩, _, at_last _ _, ?_⟩
    and_intros
    refine ⟨.inl (h : Int), kvC cs, _, rfl, .inl ⟨a3, rfl⟩, kvC_lu B.nd ho, ?_⟩
    unfold parV
    and_intros
    obtain ⟨i', hi', K'⟩ := K.step B ho
    refine ⟨by rw [List.length_append, nD_len, List.length_reverse, List.length_singleton]; exact Nat.lt_of_lt_of_le (by omega : t.length + 1 < 100) (by decide), ?_⟩
    refine ⟨i', hi', p, h :: t, i', ?_, K', rfl⟩
    rw [← hnl, List.reverse_cons, nD_app (t.reverse ++ [h])]
    rfl
theorem m_road : Meets t_road 4 5 sp_road := by
  rintro args Qd Xd ⟨n, gs, first, last, shut, rfl, h24, hf, hl, hls, hQ, hQ0⟩
  show t_road _ _ [_, _, _, _, .un, .un, .un, .un, .un]
  unfold t_road
  and_intros
  refine ⟨.inl (first : Int), rfl, fun a3 => ?_⟩
  and_intros
  refine ⟨by decide, fun a4 => ?_⟩
  refine ⟨fun m env => ∃ (cs : List (Nat × Option Nat)) (at' : Nat) (u6 u7 : Sl), env = [.ext (tiD n gs), dI (first : Nat), dI (last : Nat), .ext (.lst (nD shut)), dkS a3 (kvC cs), .lst a4 (nD ((cs.map (·.1)).drop at')), u6, u7, .un] ∧ Bfs (adjN n gs) shut first cs at' ∧ (∀ x ∈ cs.map (·.1), x < n) ∧ m = 100 - at', ⟨_, [(first, none)], 0, _, _, rfl, bfs_new _ _ _, by simpa using hf, rfl⟩, ?_⟩
  rintro m env ⟨cs, at', u6, u7, rfl, B, hlt, rfl⟩
  have hcl : cs.length ≤ n := by
    have := nodup_le B.nd hlt
    rwa [List.length_map] at this
  have hwl : (nD ((cs.map (·.1)).drop at')).length = cs.length - at' := by rw [nD_len, List.length_drop, List.length_map]
  and_intros
  refine ⟨Nat.zero_le _, cmp_natsL _, cmp_natsL [], ?_⟩
  rw [eqv_nilN]
  have hle := B.le
  by_cases hat : at' < cs.length
  rotate_left
  · have e : at' = cs.length := by omega
    subst e
    rw [if_neg (by rw [List.drop_eq_nil_of_le (by rw [List.length_map]; exact Nat.le_refl _)]; decide), List.drop_eq_nil_of_le (by rw [List.length_map]; exact Nat.le_refl _)]
    exact k5_ok h24 B hlt hl hls (fun l env R h => hQ l _ R h) (fun env h => hQ0 _ h)
  rw [if_pos (by
    cases e : (cs.map (·.1)).drop at' with
    | nil => rw [e] at hwl; have hwl : 0 = cs.length - at' := hwl; omega
    | cons a r => rfl)]
  obtain ⟨h, o, ho⟩ : ∃ h o, cs[at']? = some (h, o) := ⟨_, _, List.getElem?_eq_getElem hat⟩
  have hdr : (cs.map (·.1)).drop at' = h :: (cs.map (·.1)).drop (at' + 1) := by
    have e : (cs.map (·.1))[at']? = some h := by rw [List.getElem?_map, ho]; rfl
    rw [List.drop_eq_getElem_cons (by rw [List.length_map]; exact hat)]
    rw [List.getElem?_eq_getElem (by rw [List.length_map]; exact hat)] at e
    rw [Option.some.inj e]
  have hhn : h < n := hlt h (List.mem_map.2 ⟨_, List.mem_of_getElem? ho, rfl⟩)
  rw [hdr]
  unfold b2_road
  and_intros
  refine ⟨by decide, by decide, _, rfl, ?_⟩
  and_intros
  rw [show (Int.toNat 0) = 0 from rfl, List.eraseIdx_cons_zero, show (List.map (fun n : Nat => D.int (n : Int)) ((cs.map (·.1)).drop (at' + 1))) = nD ((cs.map (·.1)).drop (at' + 1)) from rfl]
  refine ⟨_, at_ti hhn, ?_⟩
  and_intros
  refine for_ind (fun z : Nat => D.int (z : Nat)) (fun zs env => ∃ (cs' : List (Nat × Option Nat)) (u7 : Sl), env = [.ext (tiD n gs), dI (first : Nat), dI (last : Nat), .ext (.lst (nD shut)), dkS a3 (kvC cs'), .lst a4 (nD ((cs'.map (·.1)).drop (at' + 1))), dI (h : Nat), u7, .un] ∧ Bfs (adjN n gs) shut first cs' at' ∧ (∀ x ∈ cs'.map (·.1), x < n) ∧ cs'[at']? = some (h, o) ∧ (∀ z ∈ nb n gs h, z ∈ shut ∨ z ∈ cs'.map (·.1) ∨ z ∈ zs) ∧ ∀ z ∈ zs, z ∈ nb n gs h) ?_ ?_ (nb n gs h) _ ⟨cs, u7, rfl, B, hlt, ho, fun z hz => .inr (.inr hz), fun z hz => hz⟩
  · rintro env ⟨cs', u7, rfl, B', hlt', ho', hc, _⟩
    refine ⟨True.intro, ?_⟩
    have hcl' : cs'.length ≤ n := by
      have := nodup_le B'.nd hlt'
      rwa [List.length_map] at this
    have := (List.getElem?_eq_some_iff.1 ho').1
    exact ⟨100 - (at' + 1), by omega, cs', at' + 1, _, _, rfl, B'.next ho' fun z hz => (hc z hz.2).imp id fun q => q.resolve_right (by simp), hlt', rfl⟩
  rintro z zs env N ⟨cs', u7, rfl, B', hlt', ho', hc, hzs⟩ hN
  refine ⟨True.intro, ?_⟩
  have hcl' : cs'.length ≤ n := by
    have := nodup_le B'.nd hlt'
    rwa [List.length_map] at this
  have hznb := hzs z List.mem_cons_self
  have hzn := (mem_nb.1 hznb).1
  have hzs2 : ∀ w ∈ zs, w ∈ nb n gs h := fun w hw => hzs w (List.mem_cons_of_mem _ hw)
  unfold b1_road
  and_intros
  refine ⟨.inl (z : Int), kvC cs', rfl, .inl ⟨a3, rfl⟩, ?_⟩
  rw [kvC_has]
  by_cases hzm : z ∈ cs'.map (·.1)
  · rw [if_neg (by simpa using hzm)]
    exact hN _ ⟨cs', _, rfl, B', hlt', ho', fun w hw => (hc w hw).imp id fun q => q.elim .inl fun q => (List.mem_cons.1 q).elim (fun e => .inl (by rw [e]; exact hzm)) .inr, hzs2⟩
  rw [if_pos (by simpa using hzm)]
  trivial
  refine ⟨rfl, flat_nD _, ?_⟩
  rw [isIn_nat]
  by_cases hzs' : z ∈ shut
  · rw [if_neg (by simpa using hzs')]
    exact hN _ ⟨cs', _, rfl, B', hlt', ho', fun w hw => (hc w hw).elim .inl fun q => q.elim (fun e => .inr (.inl e)) fun q => (List.mem_cons.1 q).elim (fun e => .inl (by rw [e]; exact hzs')) fun e => .inr (.inr e), hzs2⟩
  rw [if_pos (by simpa using hzs')]
  refine ⟨⟨a3, _, rfl⟩, a3, _, .inl (z : Int), rfl, rfl, by rw [List.length_map]; exact Nat.lt_of_lt_of_le (by omega : cs'.length < 100) (by decide), by rw [nD_len, List.length_drop, List.length_map]; exact Nat.lt_of_lt_of_le (by omega : cs'.length - (at' + 1) < 100) (by decide), ?_⟩
  rw [show D.int (h : Int) = parV (some h) from rfl, kvC_put _ hzm]
  have hat' := (List.getElem?_eq_some_iff.1 ho').1
  refine hN _ ⟨cs' ++ [(z, some h)], .ext (.int (z : Nat)), ?_, B'.add ho' hzm hzs' ⟨hhn, hznb⟩, fun x hx => ?_, by rw [List.getElem?_append_left hat']; exact ho', fun w hw => ?_, hzs2⟩
  · rw [List.map_append, List.drop_append_of_le_length (by rw [List.length_map]; omega), nD_app]
    rfl
  · rw [List.map_append] at hx
    rcases List.mem_append.1 hx with e | e
    · exact hlt' x e
    · rw [List.mem_singleton.1 e]; exact hzn
  · refine (hc w hw).imp id fun q => q.elim (fun e => .inl (by rw [List.map_append]; exact List.mem_append_left _ e)) fun q => (List.mem_cons.1 q).elim (fun e => .inl (by rw [e, List.map_append]; simp)) .inr
def sp_ring_at : DSpec := fun args Q _ => ∃ (n : Nat) (gs : List (List Nat)) (v : Nat), args = [.ext (tiD n gs), dI (v : Nat)] ∧ n ≤ 24 ∧ v < n ∧
  (∀ R fin, Ring (adjN n gs) R → (∀ x ∈ R, x < n) → Q (.ext (.tup (nD R))) fin) ∧ (∀ fin, (∀ a b, a ∈ nb n gs v → b ∈ nb n gs v → a ≠ b → b ∉ nb n gs a → ¬ Way (adjN n gs) (fun x => x ≠ v ∧ x ∉ nb n gs v) a b) → Q (.ext .non) fin)
def e1_ring_at : DT :=
    (dVar 5)
def i2_ring_at : DTS :=
    (sSeq (sSetE 4 (dOp fAdd (dLst (dCons (dVar 1) dNil)) (dLc (dSeq (dOp fIx (dVar 0) (dVar 1))) (gSet 5) (dTest (dOp (fIn true) (dVar 5) (dTup (dCons (dVar 2) (dCons (dVar 3) dNil))))) e1_ring_at [5])))
    (sSeq (sSetE 6 (dCall sp_road (dCons (dVar 0) (dCons (dVar 2) (dCons (dVar 3) (dCons (dVar 4) dNil))))))
    (sIf (dTest (dOp fNotN (dVar 6) (dC .non))) (sRet (dOp fAdd (dTup (dCons (dVar 1) dNil)) (dVar 6))) sNext)))
def b3_ring_at : DTS :=
    (sIf (dAnd (dTest (dOp (fCmp fun i j => decide (i < j)) (dVar 2) (dVar 3))) (dTest (dOp (fIn true) (dVar 3) (dOp fIx (dVar 0) (dVar 2))))) i2_ring_at sNext)
def b4_ring_at : DTS :=
    (sFor (dSeq (dOp fIx (dVar 0) (dVar 1))) (gSet 3) b3_ring_at)
def k5_ring_at : DTS :=
    (sRet (dC .non))
def t_ring_at : DTS :=
    (sSeq (sFor (dSeq (dOp fIx (dVar 0) (dVar 1))) (gSet 2) b4_ring_at)
    k5_ring_at)
theorem m_ring_at : Meets t_ring_at 2 5 sp_ring_at := by
  rintro args Qd Xd ⟨n, gs, v, rfl, h24, hv, hQ, hQ0⟩
  show t_ring_at _ _ [_, _, .un, .un, .un, .un, .un]
  unfold t_ring_at
  and_intros
  refine ⟨_, at_ti hv, ?_⟩
  and_intros
  refine for_ind (fun z : Nat => D.int (z : Nat)) (fun xs env => ∃ (pre : List Nat) (u2 u3 u4 u5 u6 : Sl), env = [.ext (tiD n gs), dI (v : Nat), u2, u3, u4, u5, u6] ∧ nb n gs v = pre ++ xs ∧ ∀ a ∈ pre, ∀ b ∈ nb n gs v, a < b → b ∉ nb n gs a → ¬ Way (adjN n gs) (fun x => x ≠ v ∧ x ∉ nb n gs v) a b) ?_ ?_ (nb n gs v) _ ⟨[], _, _, _, _, _, rfl, rfl, fun a ha => nomatch ha⟩
  · rintro env ⟨pre, u2, u3, u4, u5, u6, rfl, he, hno⟩
    rw [List.append_nil] at he
    refine ⟨True.intro, ?_⟩
    unfold k5_ring_at
    and_intros
    refine hQ0 _ fun a b ha hb hne hab w => ?_
    rcases Nat.lt_or_gt_of_ne hne with h | h
    · exact hno a (he ▸ ha) b hb h hab w
    · refine hno b (he ▸ hb) a ha h (fun z => hab ?_) (way_symm adjN_sym w)
      exact (adjN_sym _ _ ⟨(mem_nb.1 hb).1, z⟩).2
  rintro one xs env N ⟨pre, u2, u3, u4, u5, u6, rfl, he, hno⟩ hN
  refine ⟨True.intro, ?_⟩
  have hone : one ∈ nb n gs v := by rw [he]; simp
  have h1n := (mem_nb.1 hone).1
  unfold b4_ring_at
  and_intros
  refine ⟨_, at_ti hv, ?_⟩
  and_intros
  refine for_ind (fun z : Nat => D.int (z : Nat)) (fun ys env => ∃ (qre : List Nat) (u3 u4 u5 u6 : Sl), env = [.ext (tiD n gs), dI (v : Nat), dI (one : Nat), u3, u4, u5, u6] ∧ nb n gs v = qre ++ ys ∧ ∀ b ∈ qre, one < b → b ∉ nb n gs one → ¬ Way (adjN n gs) (fun x => x ≠ v ∧ x ∉ nb n gs v) one b) ?_ ?_ (nb n gs v) _ ⟨[], _, _, _, _, rfl, rfl, fun a ha => nomatch ha⟩
  · rintro env ⟨qre, u3, u4, u5, u6, rfl, he2, hno2⟩
    rw [List.append_nil] at he2
    refine ⟨True.intro, ?_⟩
    refine hN _ ⟨pre ++ [one], _, _, _, _, _, rfl, by rw [List.append_assoc]; exact he, fun a ha b hb => ?_⟩
    rcases List.mem_append.1 ha with z | z
    · exact hno a z b hb
    · rw [List.mem_singleton.1 z]
      exact hno2 b (he2 ▸ hb)
  rintro other ys env N2 ⟨qre, u3, u4, u5, u6, rfl, he2, hno2⟩ hN2
  refine ⟨True.intro, ?_⟩
  have hoth : other ∈ nb n gs v := by rw [he2]; simp
  have h2n := (mem_nb.1 hoth).1
  have skip : ∀ u4 u5 u6, (one < other → other ∉ nb n gs one → ¬ Way (adjN n gs) (fun x => x ≠ v ∧ x ∉ nb n gs v) one other) → N2 [.ext (tiD n gs), dI (v : Nat), dI (one : Nat), dI (other : Nat), u4, u5, u6] := fun u4 u5 u6 h =>
    hN2 _ ⟨qre ++ [other], _, _, _, _, rfl, by rw [List.append_assoc]; exact he2, fun b hb => by
      rcases List.mem_append.1 hb with z | z
      · exact hno2 b z
      · rw [List.mem_singleton.1 z]
        exact h⟩
  unfold b3_ring_at
  and_intros
  by_cases hlt : one < other
  rotate_left
  · rw [if_neg (by simp; omega)]
    exact skip _ _ _ fun h => absurd h hlt
  rw [if_pos (by simp; omega)]
  refine ⟨_, at_ti h1n, ?_⟩
  and_intros
  refine ⟨rfl, flat_nD _, ?_⟩
  rw [isIn_nat]
  by_cases hnt : other ∈ nb n gs one
  · rw [if_neg (by simpa using hnt)]
    exact skip _ _ _ fun _ h => absurd hnt h
  rw [if_pos (by simpa using hnt)]
  unfold i2_ring_at
  and_intros
  refine ⟨by decide, fun a => ⟨_, at_ti hv, ?_⟩⟩
  and_intros
  refine lc_filter (fun s : Nat => D.int (s : Nat)) (fun s => .int (s : Nat)) (fun s => !decide (s ∈ [one, other])) True.intro (nb n gs v) (Nat.le_trans (show _ ≤ 100 from by unfold nb; exact Nat.le_trans (List.length_filter_le _ _) (by rw [List.length_range]; omega)) (by decide)) (fun s hs R hR => ?_) fun b => ?_
  · unfold e1_ring_at
    trivial
    rw [show (D.int (s : Nat)).isIn [D.int (one : Nat), D.int (other : Nat)] = decide (s ∈ [one, other]) from isIn_nat s [one, other]]
    exact ⟨by decide, rfl, by rfl, R_if rfl hR⟩
  have hfl : ((nb n gs v).filter fun s => !decide (s ∈ [one, other])).length ≤ 24 := Nat.le_trans (List.length_filter_le _ _) (by unfold nb; exact Nat.le_trans (List.length_filter_le _ _) (by rw [List.length_range]; exact h24))
  and_intros
  refine ⟨by rw [List.length_map]; exact Nat.le_trans (by omega : _ ≤ 100) (by decide), ?_⟩
  rw [show (D.int (v : Nat) :: List.map (fun s : Nat => D.int (s : Nat)) ((nb n gs v).filter fun s => !decide (s ∈ [one, other]))) = nD (v :: (nb n gs v).filter fun s => !decide (s ∈ [one, other])) from rfl]
  have hmem : ∀ z, z ∈ (v :: (nb n gs v).filter fun s => !decide (s ∈ [one, other])) ↔ z = v ∨ (z ∈ nb n gs v ∧ z ≠ one ∧ z ≠ other) := fun z => by
    rw [List.mem_cons, List.mem_filter]
    simp
  generalize (v :: (nb n gs v).filter fun s => !decide (s ∈ [one, other])) = shut at hmem
  have hov : other ≠ v := fun e => by rw [e] at hoth; exact adjN_irr v ⟨hv, hoth⟩
  refine ⟨n, gs, one, other, shut, rfl, h24, h1n, h2n, fun z => by rcases (hmem other).1 z with e | e; exact hov e; exact e.2.2 rfl, fun l fin R hl => ?_, fun fin hno3 => ?_⟩
  · and_intros
    have G : Ring (adjN n gs) (v :: l) := R.ring adjN_irr ⟨hv, hone⟩ ⟨hv, hoth⟩ (Nat.ne_of_lt hlt) (fun z => hnt z.2) fun z hz => (hmem z).2 (hz.imp id fun q => ⟨q.1.2, q.2⟩)
    have hll := nodup_le R.nd hl
    rw [if_pos (by rfl)]
    refine ⟨by decide, by rw [nD_len]; exact Nat.le_trans (by omega : _ ≤ 100) (by decide), ?_⟩
    rw [show (D.int (v : Nat) :: nD l) = nD (v :: l) from rfl]
    refine hQ _ _ G fun x hx => ?_
    rcases List.mem_cons.1 hx with e | e
    · rw [e]; exact hv
    · exact hl x e
  · and_intros
    rw [if_neg (by decide)]
    refine skip _ _ _ fun _ _ w => hno3 (w.mono fun x hx z => ?_)
    rcases (hmem x).1 z with e | e
    · exact hx.1 e
    · exact hx.2 e.1
def sp_no_new_ties : DSpec := fun args Q _ => ∃ (S : List Nat) (ps : List Part), args = [.ext (dSh S ps)] ∧ NsOk S ps ∧
  (∀ ord fin, ord.Nodup → ord.length = S.length → (∀ x ∈ ord, x < S.length) → Peo S.length (gsOf ps) ord → Q (.ext (.tup [.str "order", .tup (nD ord)])) fin) ∧
  (∀ R fin, Ring (adjN S.length (gsOf ps)) R → (∀ x ∈ R, x < S.length) → Q (.ext (.tup [.str "ring", .tup (nD R)])) fin)
def e1_no_new_ties : DT :=
    (dVar 4)
def e2_no_new_ties : DT :=
    (dVar 6)
def e3_no_new_ties : DT :=
    (dVar 4)
def e4_no_new_ties : DT :=
    (dCall sp_ring_at (dCons (dVar 1) (dCons (dVar 4) dNil)))
def e5_no_new_ties : DT :=
    (dVar 7)
def b6_no_new_ties : DTS :=
    (sSeq (sSetE 3 (dLc (dRange1 (dCons (dCB fLen (dCons (dVar 1) dNil)) dNil)) (gSet 4) (dTest (dOp (fIn true) (dVar 4) (dVar 2))) e1_no_new_ties [4]))
    (sSeq (sSetE 5 (dLc (dSeq (dVar 3)) (gSet 4) (dTest (dCall sp_all_tied (dCons (dVar 1) (dCons (dLc (dSeq (dOp fIx (dVar 1) (dVar 4))) (gSet 6) (dTest (dOp (fIn true) (dVar 6) (dVar 2))) e2_no_new_ties [6]) dNil)))) e3_no_new_ties [4]))
    (sSeq (sIf (dTest (dOp fEq (dVar 5) (dLst dNil))) (sRet (dTup (dCons (dC (.str (Str.ofString "ring"))) (dCons (dOp fIx (dLc (dSeq (dLc (dSeq (dVar 3)) (gSet 4) dYes e4_no_new_ties [4])) (gSet 7) (dTest (dOp fNotN (dVar 7) (dC .non))) e5_no_new_ties [7]) (dC (.int 0))) dNil)))) sNext)
    (sSetE 2 (dOp fAdd (dVar 2) (dTup (dCons (dOp fIx (dVar 5) (dC (.int 0))) dNil)))))))
def k7_no_new_ties : DTS :=
    (sRet (dTup (dCons (dC (.str (Str.ofString "order"))) (dCons (dVar 2) dNil))))
def t_no_new_ties : DTS :=
    (sSeq (sSetE 1 (dCall sp_ties_of (dCons (dVar 0) dNil)))
    (sSeq (sSetE 2 (dTup dNil))
    (sSeq (sWhile (dTest (dOp (fCmp fun i j => decide (i < j)) (dCB fLen (dCons (dVar 2) dNil)) (dCB fLen (dCons (dVar 1) dNil)))) b6_no_new_ties)
    k7_no_new_ties)))
open Classical in
theorem m_no_new_ties : Meets t_no_new_ties 1 7 sp_no_new_ties := by
  rintro args Qd Xd ⟨S, ps, rfl, ok, hQ1, hQ2⟩
  have h24 := ok.few
  show t_no_new_ties _ _ [_, .un, .un, .un, .un, .un, .un, .un]
  unfold t_no_new_ties
  and_intros
  refine ⟨S, ps, rfl, ok, fun a1 fin => ?_⟩
  generalize hg : gsOf ps = gs at hQ1 hQ2 ⊢
  generalize hn : S.length = n at hQ1 hQ2 h24 ⊢
  and_intros
  refine ⟨by decide, ?_⟩
  refine ⟨fun m env => ∃ (ord : List Nat) (u3 u4 u5 : Sl), env = [.ext (dSh S ps), .ext (tiD n gs), .ext (.tup (nD ord)), u3, u4, u5, .un, .un] ∧ ord.Nodup ∧ (∀ x ∈ ord, x < n) ∧ Peo n gs ord ∧ m = 100 - ord.length, ⟨_, [], _, _, _, rfl, List.nodup_nil, (fun x hx => nomatch hx), (fun k x h => nomatch h), rfl⟩, ?_⟩
  rintro m env ⟨ord, u3, u4, u5, rfl, nd, hlt, hp, rfl⟩
  have hol := nodup_le nd hlt
  have htl : (tiDs n gs).length = n := by rw [List.length_map, List.length_range]
  and_intros
  rw [nD_len, htl]
  by_cases hk : ord.length < n
  rotate_left
  · rw [if_neg (by omega)]
    unfold k7_no_new_ties
    and_intros
    exact ⟨by decide, hQ1 ord _ nd (by omega) hlt hp⟩
  rw [if_pos (by omega)]
  unfold b6_no_new_ties
  and_intros
  rw [htl, rgD_nat]
  refine ⟨⟨by omega, by omega⟩, ?_⟩
  refine lc_filter (fun s : Nat => D.int (s : Nat)) (fun s => .int (s : Nat)) (fun s => !decide (s ∈ ord)) True.intro (List.range n) (Nat.le_trans (show _ ≤ 100 by rw [List.length_range]; omega) (by decide)) (fun s hs R hR => ?_) fun b => ?_
  · unfold e1_no_new_ties
    trivial
    rw [isIn_nat]
    exact ⟨rfl, flat_nD _, R_if rfl hR⟩
  rw [show List.map (fun s : Nat => D.int (s : Nat)) ((List.range n).filter fun s => !decide (s ∈ ord)) = nD ((List.range n).filter fun s => !decide (s ∈ ord)) from rfl]
  have hmem : ∀ z, z ∈ ((List.range n).filter fun s => !decide (s ∈ ord)) ↔ z < n ∧ z ∉ ord := fun z => by
    rw [List.mem_filter, List.mem_range]
    simp
  have hll : ((List.range n).filter fun s => !decide (s ∈ ord)).length ≤ 24 := Nat.le_trans (List.length_filter_le _ _) (by rw [List.length_range]; exact h24)
  generalize ((List.range n).filter fun s => !decide (s ∈ ord)) = left at hmem hll ⊢
  and_intros
  refine lc_filter (fun s : Nat => D.int (s : Nat)) (fun s => .int (s : Nat)) (fun s => decide (AllT n gs ((nb n gs s).filter fun y => !decide (y ∈ ord)))) True.intro left (Nat.le_trans hll (by decide)) (fun s hs R hR => ?_) fun b => ?_
  · have hsn := ((hmem s).1 hs).1
    unfold e3_no_new_ties
    and_intros
    refine ⟨_, at_ti hsn, ?_⟩
    and_intros
    refine lc_filter (fun s : Nat => D.int (s : Nat)) (fun s => .int (s : Nat)) (fun y => !decide (y ∈ ord)) True.intro (nb n gs s) (Nat.le_trans (show _ ≤ 100 from by unfold nb; exact Nat.le_trans (List.length_filter_le _ _) (by rw [List.length_range]; omega)) (by decide)) (fun y hy R hR => ?_) fun b => ?_
    · unfold e2_no_new_ties
      trivial
      rw [isIn_nat]
      exact ⟨rfl, flat_nD _, R_if rfl hR⟩
    rw [show List.map (fun s : Nat => D.int (s : Nat)) ((nb n gs s).filter fun s => !decide (s ∈ ord)) = nD ((nb n gs s).filter fun s => !decide (s ∈ ord)) from rfl]
    and_intros
    refine ⟨n, gs, _, _, rfl, .inr rfl, h24, Nat.le_trans (List.length_filter_le _ _) (by unfold nb; exact Nat.le_trans (List.length_filter_le _ _) (by rw [List.length_range]; omega)), fun x hx => (mem_nb.1 (List.mem_filter.1 hx).1).1, fun b fin hb => ?_⟩
    and_intros
    refine R_if (b' := decide (AllT n gs ((nb n gs s).filter fun y => !decide (y ∈ ord)))) ?_ hR
    rw [Bool.eq_iff_iff, hb, decide_eq_true_eq]
  rw [show List.map (fun s : Nat => D.int (s : Nat)) (left.filter fun s => decide (AllT n gs ((nb n gs s).filter fun y => !decide (y ∈ ord)))) = nD (left.filter fun s => decide (AllT n gs ((nb n gs s).filter fun y => !decide (y ∈ ord)))) from rfl]
  have hgm : ∀ z, z ∈ (left.filter fun s => decide (AllT n gs ((nb n gs s).filter fun y => !decide (y ∈ ord)))) ↔ z ∈ left ∧ AllT n gs ((nb n gs z).filter fun y => !decide (y ∈ ord)) := fun z => by
    rw [List.mem_filter]
    simp
  generalize (left.filter fun s => decide (AllT n gs ((nb n gs s).filter fun y => !decide (y ∈ ord)))) = good at hgm ⊢
  and_intros
  refine ⟨Nat.zero_le _, cmp_natsL _, cmp_natsL [], ?_⟩
  rw [eqv_nilN]
  cases good with
  | cons g r =>
    rw [if_neg (by simp)]
    obtain ⟨g1, g2⟩ := (hgm g).1 List.mem_cons_self
    obtain ⟨g3, g4⟩ := (hmem g).1 g1
    refine ⟨_, atN (n := 0) rfl, ?_⟩
    and_intros
    refine ⟨by decide, by rw [nD_len]; exact Nat.le_trans (by omega : _ ≤ 100) (by decide), ?_⟩
    rw [show nD ord ++ [D.int (g : Nat)] = nD (ord ++ [g]) from (nD_app ord [g]).symm]
    refine ⟨100 - (ord.length + 1), by omega, ord ++ [g], _, _, _, rfl, ?_, ?_, ?_, ?_⟩
    · exact List.nodup_append.2 ⟨nd, by simp, fun a ha b hb e => g4 (by rw [← List.mem_singleton.1 hb, ← e]; exact ha)⟩
    · intro x hx
      rcases List.mem_append.1 hx with e | e
      · exact hlt x e
      · rw [List.mem_singleton.1 e]; exact g3
    · intro k x hkx
      rcases Nat.lt_or_ge k ord.length with z | z
      · rw [List.getElem?_append_left z] at hkx
        rw [List.take_append_of_le_length (by omega)]
        exact hp k x hkx
      · rw [List.getElem?_append_right z] at hkx
        have hk0 : k - ord.length = 0 := by
          by_cases w : k - ord.length = 0
          · exact w
          · rw [List.getElem?_eq_none (by simp; omega)] at hkx
            cases hkx
        rw [hk0] at hkx
        cases hkx
        have : k = ord.length := by omega
        subst this
        rw [List.take_append_of_le_length (Nat.le_refl _), List.take_length]
        exact g2
    · rw [List.length_append, List.length_singleton]
  | nil =>
    rw [if_pos (by rfl)]
    obtain ⟨v, hv, a, b', ha, hb, hab, hnab, w⟩ := ring_some (n := n) (gs := gs) (left := left) (fun x hx => ((hmem x).1 hx).1) (by
      intro e
      have hsub : ∀ x ∈ List.range n, x ∈ ord := fun x hx => Classical.byContradiction fun z => by
        have := (hmem x).2 ⟨List.mem_range.1 hx, z⟩
        rw [e] at this
        cases this
      have := nd_sub_len (a := List.range n) (b := ord) List.nodup_range hsub
      rw [List.length_range] at this
      omega) (fun x hx ht => by
      have := (hgm x).2 ⟨hx, fun a ha b hb hne => ht a ?_ b ?_ hne⟩
      · cases this
      · obtain ⟨q1, q2⟩ := List.mem_filter.1 ha
        exact List.mem_filter.2 ⟨q1, by simpa using (hmem a).2 ⟨(mem_nb.1 q1).1, by simpa using q2⟩⟩
      · obtain ⟨q1, q2⟩ := List.mem_filter.1 hb
        exact List.mem_filter.2 ⟨q1, by simpa using (hmem b).2 ⟨(mem_nb.1 q1).1, by simpa using q2⟩⟩)
    refine lc_ind (fun s : Nat => D.int (s : Nat)) (fun xs acc env => ∃ (pre : List Nat), env = [.ext (dSh S ps), .ext (tiD n gs), .ext (.tup (nD ord)), .ext (.lst (nD left)), .un, .ext (.lst (nD [])), .un, .un] ∧ left = pre ++ xs ∧ acc.length = pre.length ∧ (∀ d ∈ acc, d = .non ∨ ∃ R, d = .tup (nD R) ∧ Ring (adjN n gs) R ∧ ∀ x ∈ R, x < n) ∧ (v ∈ pre → ∃ d ∈ acc, d ≠ .non)) ?_ ?_ left [] _ ⟨[], rfl, rfl, rfl, (fun d hd => nomatch hd), fun z => nomatch z⟩
    · rintro acc env ⟨pre, rfl, he, hal, hac, hvv⟩
      rw [List.append_nil] at he
      refine ⟨True.intro, fun a => ?_⟩
      and_intros
      have hvl : v ∈ pre := he ▸ hv
      obtain ⟨d0, hd0, hd1⟩ := hvv hvl
      have hpl : pre.length ≤ 24 := by rw [← he]; exact hll
      refine K02.lc_filterD (fun d => d) (fun d => !d.isNon) True.intro acc (Nat.le_trans (show _ ≤ 100 by omega) (by decide)) (fun d hd R hR => ?_) fun b => ?_
      · unfold e5_no_new_ties
        rcases hac d hd with rfl | ⟨R', rfl, _, _⟩
        · and_intros
          exact R_if rfl hR
        · and_intros
          exact R_if rfl hR
      · and_intros
        rw [List.map_id']
        cases e : acc.filter fun d => !d.isNon with
        | nil =>
          have := List.filter_eq_nil_iff.1 e d0 hd0
          rcases hac d0 hd0 with rfl | ⟨R', rfl, _, _⟩
          · exact absurd rfl hd1
          · exact absurd rfl this
        | cons d1 r1 =>
          have hm := List.mem_filter.1 (show d1 ∈ acc.filter fun d => !d.isNon by rw [e]; simp)
          refine ⟨_, atN (n := 0) rfl, by decide, ?_⟩
          rcases hac d1 hm.1 with rfl | ⟨R', rfl, h1, h2⟩
          · cases hm.2
          · and_intros
            exact hQ2 R' _ h1 h2
    · rintro s xs acc env N ⟨pre, rfl, he, hal, hac, hvv⟩ hN
      have hpl : pre.length ≤ 24 := by
        rw [he, List.length_append] at hll
        omega
      refine ⟨True.intro, Nat.lt_of_lt_of_le (by omega : acc.length < 100) (by decide), ?_⟩
      have hsn := ((hmem s).1 (by rw [he]; simp)).1
      unfold e4_no_new_ties
      and_intros
      refine ⟨n, gs, s, rfl, h24, hsn, fun R fin hR hRn => ?_, fun fin hno => ?_⟩
      · and_intros
        refine hN _ _ ⟨pre ++ [s], rfl, by rw [List.append_assoc]; exact he, by simp [hal], fun d hd => ?_, fun _ => ⟨_, List.mem_append_right _ (List.mem_singleton.2 rfl), by simp⟩⟩
        rcases List.mem_append.1 hd with z | z
        · exact hac d z
        · exact .inr ⟨R, List.mem_singleton.1 z, hR, hRn⟩
      · and_intros
        refine hN _ _ ⟨pre ++ [s], rfl, by rw [List.append_assoc]; exact he, by simp [hal], fun d hd => ?_, fun hvp => ?_⟩
        · rcases List.mem_append.1 hd with z | z
          · exact hac d z
          · exact .inl (List.mem_singleton.1 z)
        · rcases List.mem_append.1 hvp with z | z
          · obtain ⟨d, hd, hd'⟩ := hvv z
            exact ⟨d, List.mem_append_left _ hd, hd'⟩
          · rw [List.mem_singleton.1 z] at ha hb w
            exact absurd w (hno a b' ha hb hab hnab)
end LS
namespace LS
open PySem L2 HD PM Gr
local macro_rules | `(tactic| trivial) => `(tactic| try simp -dsimp only [↓sIf, ↓sRet, ↓retD_ext, ↓retD_lst, ↓retD_al, ↓sSet, ↓sSetE, ↓sAsg, ↓sDrop, ↓sNext, ↓sFor, ↓sRetN, ↓sCont, ↓sBreak, ↓dTest, ↓dOp, ↓dVar_w, ↓dC, ↓dCons, ↓dNil, ↓dTup, ↓dLst, ↓frzDs, ↓frzD_ext, ↓frzD_lst, ↓frzD_al, ↓wd_ext, ↓wd_lst, ↓wd_al, ↓wds, ↓AtS_ext, ↓AtS_lst, ↓AtL, ↓fAdd, ↓fSub, ↓fMul, ↓fDiv, ↓fMod, ↓fPow, ↓fCmp, ↓fIn, ↓fEq_ii, ↓fEq_ss, ↓fEq_bb, ↓fEq_tt, ↓fEq_ll, ↓fNe_ii, ↓fNe_ss, ↓fNe_bb, ↓fNe_tt, ↓fNe_ll, ↓fIx_l, ↓fIx_t, ↓fIx_k, ↓fIx_f, ↓GetS_some, ↓NatS_some, ↓fSl, ↓fIsN, ↓fNotN, ↓D.knN, ↓dNot, ↓dAnd, ↓dOr, ↓dAndV_w, ↓dOrV_w, ↓dNotV, ↓dIf, ↓dNeg, ↓dChain_w, ↓BlS_bl, ↓dCall_w, ↓dCallJ_w, ↓anyAl, ↓frozs, ↓froz, ↓gSet, ↓gTupD, ↓gsCons, ↓gsNil, ↓dSeq, ↓seqD_tup, ↓seqD_elst, ↓seqD_lst, ↓seqD_al, ↓dRange1, ↓dRange2, ↓dZip, ↓dCB, ↓dLc, ↓dYes, ↓dNoPart, ↓dPart, ↓dSl, ↓fLen, ↓fMin, ↓fMax, ↓fSum, ↓fAll, ↓fAny, ↓fSorted, ↓fTuple, ↓fList, ↓dRg1, ↓dRg2, ↓dLstRg, ↓dTupRg, ↓dIndex, ↓fIdx, ↓dAppend_w, ↓dExtend_w, ↓extD_lst, ↓dPopAt_w, ↓popD_int, ↓dPop_w, ↓mutD_w, ↓sSetItem_w, ↓setD_int, ↓dSortSet, ↓dTable_w, ↓wipeE, finals1, finals2, finals3, finals4, finals5, finals6, fin1_ext, fin1_lst, List.getElem?_cons_zero, List.getElem?_cons_succ, List.getElem?_nil, List.set_cons_zero, List.set_cons_succ, List.cons_append, List.nil_append, List.append_nil, List.replicate_succ, List.replicate_zero, List.map_cons, List.map_nil, List.length_cons, List.length_nil, true_and, and_true, ite_true, ite_false, if_true, if_false, Bool.false_eq_true, decide_eq_true_eq, Sl.plain, D.isSq, eq_self_iff_true, forall_const, reduceIte, true_or, or_true, atI_0, atI_1, atI_2, atI_3, ixN_0, ixN_1, ixN_2, AtS_ext, AtS_lst, FzS_lst, FzS_ext, GetS_some, NatS_some, ↓fIsi1, ↓fIsi2, BoolS_some, HD.kb_non_tuple, HD.kb_non_list, HD.kb_non_bool, HD.kb_non_int, HD.kb_non_str, HD.kb_bl_tuple, HD.kb_bl_list, HD.kb_bl_bool, HD.kb_bl_int, HD.kb_bl_str, HD.kb_int_tuple, HD.kb_int_list, HD.kb_int_bool, HD.kb_int_int, HD.kb_int_str, HD.kb_str_tuple, HD.kb_str_list, HD.kb_str_bool, HD.kb_str_int, HD.kb_str_str, HD.kb_lst_tuple, HD.kb_lst_list, HD.kb_lst_bool, HD.kb_lst_int, HD.kb_lst_str, HD.kb_tup_tuple, HD.kb_tup_list, HD.kb_tup_bool, HD.kb_tup_int, HD.kb_tup_str, ↓sFz_w, ↓FzS_lst, ↓FzS_ext, ↓dSortSetL, ↓fAbs, ↓fInt, ↓fRepr, ↓fLtT, ↓sRaise, ↓sTryKeep, ↓dCallV_w, ↓dMeth, ↓fCount, ↓fSplit, ↓seq_setE, ↓seq_set, ↓seq_drop, ↓seq_asg, ↓seq_if, ↓seq_for, ↓dStep, ↓fStep, ↓fMulT, ↓fIsB, ↓fNotB, ↓sPar, ↓dEnum, ↓dListZip, ↓dNest, ↓sSeal, ↓dNApp, ↓retD_reg, ↓dLenSet, ↓fSum2, ↓seq_putD, ↓seq_sealD, ↓dDIn, ↓dDGet, ↓sPutD, ↓dDNew, ↓dDOne, ↓sSealD, ↓dKeys, ↓keyS_dk, ↓dExtT, ↓fSortT, ↓fMinP, ↓dRemove])
local macro_rules | `(tactic| and_intros) => `(tactic| try simp -dsimp only [↓sIf, ↓sRet, ↓retD_ext, ↓retD_lst, ↓retD_al, ↓sSet, ↓sSetE, ↓sAsg, ↓sDrop, ↓sNext, ↓sFor, ↓sRetN, ↓sCont, ↓sBreak, ↓dTest, ↓dOp, ↓dC, ↓dCons, ↓dNil, ↓dTup, ↓dLst, ↓frzDs, ↓frzD_ext, ↓frzD_lst, ↓frzD_al, ↓wd_ext, ↓wd_lst, ↓wd_al, ↓wds, ↓AtS_ext, ↓AtS_lst, ↓AtL, ↓fAdd, ↓fSub, ↓fMul, ↓fDiv, ↓fMod, ↓fPow, ↓fCmp, ↓fIn, ↓fEq_ii, ↓fEq_ss, ↓fEq_bb, ↓fEq_tt, ↓fEq_ll, ↓fNe_ii, ↓fNe_ss, ↓fNe_bb, ↓fNe_tt, ↓fNe_ll, ↓fIx_l, ↓fIx_t, ↓fIx_k, ↓fIx_f, ↓GetS_some, ↓NatS_some, ↓fSl, ↓fIsN, ↓fNotN, ↓D.knN, ↓dNot, ↓dAnd, ↓dOr, ↓dAndV_w, ↓dOrV_w, ↓dNotV, ↓dIf, ↓dNeg, ↓dChain_w, ↓BlS_bl, ↓dCall_w, ↓dCallJ_w, ↓anyAl, ↓frozs, ↓froz, ↓gSet, ↓gTupD, ↓gsCons, ↓gsNil, ↓dSeq, ↓seqD_tup, ↓seqD_elst, ↓seqD_lst, ↓seqD_al, ↓dRange1, ↓dRange2, ↓dZip, ↓dCB, ↓dLc, ↓dYes, ↓dNoPart, ↓dPart, ↓dSl, ↓fLen, ↓fMin, ↓fMax, ↓fSum, ↓fAll, ↓fAny, ↓fSorted, ↓fTuple, ↓fList, ↓dRg1, ↓dRg2, ↓dLstRg, ↓dTupRg, ↓dIndex, ↓fIdx, ↓dAppend_w, ↓dExtend_w, ↓extD_lst, ↓dPopAt_w, ↓popD_int, ↓dPop_w, ↓mutD_w, ↓sSetItem_w, ↓setD_int, ↓dSortSet, ↓dTable_w, ↓wipeE, finals1, finals2, finals3, finals4, finals5, finals6, fin1_ext, fin1_lst, List.getElem?_cons_zero, List.getElem?_cons_succ, List.getElem?_nil, List.set_cons_zero, List.set_cons_succ, List.cons_append, List.nil_append, List.append_nil, List.replicate_succ, List.replicate_zero, List.map_cons, List.map_nil, List.length_cons, List.length_nil, true_and, and_true, ite_true, ite_false, if_true, if_false, Bool.false_eq_true, decide_eq_true_eq, Sl.plain, D.isSq, eq_self_iff_true, forall_const, reduceIte, true_or, or_true, atI_0, atI_1, atI_2, atI_3, ixN_0, ixN_1, ixN_2, AtS_ext, AtS_lst, FzS_lst, FzS_ext, GetS_some, NatS_some, ↓fIsi1, ↓fIsi2, BoolS_some, HD.kb_non_tuple, HD.kb_non_list, HD.kb_non_bool, HD.kb_non_int, HD.kb_non_str, HD.kb_bl_tuple, HD.kb_bl_list, HD.kb_bl_bool, HD.kb_bl_int, HD.kb_bl_str, HD.kb_int_tuple, HD.kb_int_list, HD.kb_int_bool, HD.kb_int_int, HD.kb_int_str, HD.kb_str_tuple, HD.kb_str_list, HD.kb_str_bool, HD.kb_str_int, HD.kb_str_str, HD.kb_lst_tuple, HD.kb_lst_list, HD.kb_lst_bool, HD.kb_lst_int, HD.kb_lst_str, HD.kb_tup_tuple, HD.kb_tup_list, HD.kb_tup_bool, HD.kb_tup_int, HD.kb_tup_str, ↓sFz_w, ↓FzS_lst, ↓FzS_ext, ↓dSortSetL, ↓fAbs, ↓fInt, ↓fRepr, ↓fLtT, ↓sRaise, ↓sTryKeep, ↓dCallV_w, ↓dMeth, ↓fCount, ↓fSplit, ↓seq_setE, ↓seq_set, ↓seq_drop, ↓seq_asg, ↓seq_if, ↓seq_for, ↓dStep, ↓fStep, ↓fMulT, ↓fIsB, ↓fNotB, ↓sPar, ↓dEnum, ↓dListZip, ↓dNest, ↓sSeal, ↓dNApp, ↓retD_reg, ↓dLenSet, ↓fSum2, ↓seq_putD, ↓seq_sealD, ↓dDIn, ↓dDGet, ↓sPutD, ↓dDNew, ↓dDOne, ↓sSealD, ↓dKeys, ↓keyS_dk, ↓dExtT, ↓fSortT, ↓fMinP, ↓dRemove, ↓dv0, ↓dw0, ↓dv1, ↓dw1, ↓dv2, ↓dw2, ↓dv3, ↓dw3, ↓dv4, ↓dw4, ↓dv5, ↓dw5, ↓dv6, ↓dw6, ↓dv7, ↓dw7, ↓dv8, ↓dw8, ↓dv9, ↓dw9, ↓dv10, ↓dw10, ↓dv11, ↓dw11, ↓dv12, ↓dw12, ↓dv13, ↓dw13, ↓dv14, ↓dw14, ↓dv15, ↓dw15, ↓dv16, ↓dw16, ↓dv17, ↓dw17, ↓dv18, ↓dw18, ↓dv19, ↓dw19])
def NearAll (n : Nat) (gs : List (List Nat)) (R : List Nat) : Prop := ∀ (k x p q : Nat), R[k]? = some x → R[prv R.length k]? = some p → R[nxt R.length k]? = some q → (R.filter fun z => decide (z ∈ nb n gs x)).Perm [p, q]
def RingD (n : Nat) (gs : List (List Nat)) (d : D) : Prop := ∃ R : List Nat, d = .tup (nD R) ∧ R.Nodup ∧ (∀ x ∈ R, x < n) ∧ NearAll n gs R ∧ 4 ≤ R.length
theorem eqvAll_ints (l m : List Int) : PyData.eqvAll (D.pys (l.map D.int)) (D.pys (m.map D.int)) = decide (l = m) := by
  induction l generalizing m with
  | nil => cases m <;> simp [D.pys, PyData.eqvAll]
  | cons x l ih =>
    cases m with
    | nil => simp [D.pys, PyData.eqvAll]
    | cons y m =>
      simp only [List.map_cons, D.pys, D.py, PyData.eqvAll, PyData.eqv, ih]
      rw [Bool.eq_iff_iff]
      simp
theorem eqv_ints (l m : List Int) : D.eqv (.lst (l.map D.int)) (.lst (m.map D.int)) = decide (l = m) := by
  unfold D.eqv
  simp only [D.py, PyData.eqv]
  exact eqvAll_ints l m
theorem cmp_intsL (l : List Int) : (D.lst (l.map D.int)).cmp := pi_cmp (k := 1) (by decide) (by rw [D.pi]; exact pi_ints 0 l)
theorem sorted_same {a b c d : List Int} (h1 : a.Perm b) (h2 : a.Pairwise (· ≤ ·)) (h3 : c.Perm d) (h4 : c.Pairwise (· ≤ ·)) : D.eqv (.lst (a.map D.int)) (.lst (c.map D.int)) = decide (b.Perm d) := by
  rw [eqv_ints, Bool.eq_iff_iff, decide_eq_true_eq, decide_eq_true_eq]
  constructor
  · rintro rfl
    exact h1.symm.trans h3
  · intro h
    exact (h1.trans (h.trans h3.symm)).eq_of_pairwise (fun x y _ _ p q => Int.le_antisymm p q) h2 h4
theorem cI_perm {a b : List Nat} : (cI a).Perm (cI b) ↔ a.Perm b := by
  constructor
  · intro h
    have := h.map Int.toNat
    unfold cI at this
    rw [List.map_map, List.map_map] at this
    have e : (Int.toNat ∘ fun n : Nat => (n : Int)) = id := by funext x; simp
    rw [e, List.map_id, List.map_id] at this
    exact this
  · intro h
    exact h.map _
theorem cutT_nat (l : List Nat) (k : Nat) : cutD (nD l) none (some (k : Int)) = nD (l.take k) := by
  unfold cutD
  rw [HT.sIx_none, HT.sIx_nat, List.drop_zero, Nat.sub_zero]
  rw [show nD (l.take k) = (nD l).take k from List.map_take]
  by_cases hk : k ≤ (nD l).length
  · rw [Nat.min_eq_left hk]
  · rw [Nat.min_eq_right (by omega), List.take_of_length_le (Nat.le_refl _), List.take_of_length_le (by omega)]
theorem nth_at {l : List Nat} {i x : Nat} (h : l[i]? = some x) : (nD l)[i]? = some (.int (x : Nat)) := by rw [List.getElem?_map, h]; rfl
theorem at_prv {R : List Nat} {k p : Nat} (hk : k < R.length) (h : R[prv R.length k]? = some p) : atI (nD R) ((k : Int) - 1) = some (.int (p : Nat)) := by
  cases k with
  | zero =>
    have hn : R ≠ [] := fun e => by rw [e] at hk; cases hk
    have e1 := List.dropLast_concat_getLast hn
    have e2 : R.getLast hn = p := by
      have : R[R.length - 1]? = some p := h
      rw [← List.getLast?_eq_getElem?, List.getLast?_eq_some_getLast hn] at this
      exact Option.some.inj this
    rw [e2] at e1
    rw [← e1, nD_app]
    exact at_last _ _
  | succ k =>
    have h : R[k]? = some p := h
    rw [show (((k + 1 : Nat) : Int) - 1) = (k : Nat) by omega]
    exact atN (nth_at h)
theorem at_nxt {R : List Nat} {k p : Nat} (hk : k < R.length) (h : R[nxt R.length k]? = some p) : atI (nD R) (((k : Int) + 1) % (R.length : Nat)) = some (.int (p : Nat)) := by
  unfold nxt at h
  split at h
  · next e =>
    rw [show (((k : Int) + 1) % (R.length : Nat)) = ((0 : Nat) : Int) by rw [← e, show (((k + 1 : Nat)) : Int) = (k : Int) + 1 by omega, Int.emod_self]; rfl]
    exact atN (nth_at h)
  · next e =>
    rw [show (((k : Int) + 1) % (R.length : Nat)) = ((k + 1 : Nat) : Int) by rw [Int.emod_eq_of_lt (by omega) (by omega)]; omega]
    exact atN (nth_at h)
def sp_is_ring : DSpec := fun args Q _ => ∃ (n : Nat) (gs : List (List Nat)) (d : D) (k : Nat), args = [.ext (tiD n gs), .ext d] ∧ n ≤ 24 ∧ D.pl k d = true ∧ ShortT d ∧ ∀ (b : Bool) fin, (b = true ↔ RingD n gs d) → Q (.ext (.bl b)) fin
def e1_is_ring : DT :=
    (dVar 5)
def b2_is_ring : DTS :=
    (sSeq (sSetE 4 (dLc (dSeq (dVar 1)) (gSet 5) (dTest (dOp (fIn false) (dVar 5) (dOp fIx (dVar 0) (dOp fIx (dVar 1) (dVar 3))))) e1_is_ring [5]))
    (sIf (dTest (dOp fNe (dCB fSorted (dCons (dVar 4) dNil)) (dCB fSorted (dCons (dLst (dCons (dOp fIx (dVar 1) (dOp fSub (dVar 3) (dC (.int 1)))) (dCons (dOp fIx (dVar 1) (dOp fMod (dOp fAdd (dVar 3) (dC (.int 1))) (dVar 2))) dNil))) dNil)))) (sRet (dC (.bl false))) sNext))
def k3_is_ring : DTS :=
    (sRet (dC (.bl true)))
def k4_is_ring : DTS :=
    (sSeq (sSetE 2 (dCB fLen (dCons (dVar 1) dNil)))
    (sSeq (sFor (dRange1 (dCons (dVar 2) dNil)) (gSet 3) b2_is_ring)
    k3_is_ring))
def t_is_ring : DTS :=
    (sSeq (sIf (dOr (dNot (dTest (dCall sp_is_order (dCons (dCB fLen (dCons (dVar 0) dNil)) (dCons (dVar 1) dNil))))) (dTest (dOp (fCmp fun i j => decide (i < j)) (dCB fLen (dCons (dVar 1) dNil)) (dC (.int 4))))) (sRet (dC (.bl false))) sNext)
    k4_is_ring)
theorem m_is_ring : Meets t_is_ring 2 4 sp_is_ring := by
  rintro args Qd Xd ⟨n, gs, d, k, rfl, h24, hp, hsh, hQ⟩
  have htl : (tiDs n gs).length = n := by rw [List.length_map, List.length_range]
  show t_is_ring _ _ [_, _, .un, .un, .un, .un]
  unfold t_is_ring
  and_intros
  rw [htl]
  refine ⟨(n : Nat), d, k, rfl, hp, hsh, fun b fin hb => ?_⟩
  and_intros
  cases b with
  | false =>
    rw [if_pos (by decide)]
    and_intros
    refine hQ _ _ ⟨fun z => (by cases z), ?_⟩
    rintro ⟨R, rfl, nd, hl, _⟩
    exact hb.2 ⟨R, rfl, nd, fun x hx => by have := hl x hx; omega⟩
  | true =>
    obtain ⟨R, rfl, nd, hl⟩ := hb.1 rfl
    have hl : ∀ x ∈ R, x < n := fun x hx => by have := hl x hx; omega
    rw [if_neg (by decide)]
    and_intros
    rw [nD_len]
    have hRl := nodup_le nd hl
    by_cases h4 : R.length < 4
    · rw [if_pos (by omega)]
      refine hQ _ _ ⟨fun z => (by cases z), ?_⟩
      rintro ⟨R', e, _, _, _, h⟩
      have e : R = R' := nD_inj (D.tup.inj e)
      subst e
      omega
    rw [if_neg (by omega)]
    unfold k4_is_ring
    and_intros
    rw [nD_len, rgD_nat]
    refine ⟨⟨by omega, by omega⟩, ?_⟩
    refine for_ind (fun k : Nat => D.int (k : Int)) (fun xs env => ∃ (pre : List Nat) (u3 u4 : Sl), env = [.ext (tiD n gs), .ext (.tup (nD R)), dI (R.length : Nat), u3, u4, .un] ∧ List.range R.length = pre ++ xs ∧ ∀ k ∈ pre, ∀ x p q, R[k]? = some x → R[prv R.length k]? = some p → R[nxt R.length k]? = some q → (R.filter fun z => decide (z ∈ nb n gs x)).Perm [p, q]) ?_ ?_ (List.range R.length) _ ⟨[], _, _, rfl, rfl, fun k hk => nomatch hk⟩
    · rintro env ⟨pre, u3, u4, rfl, he, hpr⟩
      rw [List.append_nil] at he
      refine ⟨True.intro, ?_⟩
      unfold k3_is_ring
      and_intros
      refine hQ _ _ ⟨fun _ => ⟨R, rfl, nd, hl, fun k x p q hk hp hq => hpr k (by rw [← he]; exact List.mem_range.2 (List.getElem?_eq_some_iff.1 hk).1) x p q hk hp hq, by omega⟩, fun _ => rfl⟩
    rintro k xs env N ⟨pre, u3, u4, rfl, he, hpr⟩ hN
    have hk : k < R.length := List.mem_range.1 (by rw [he]; simp)
    refine ⟨True.intro, ?_⟩
    have hx := List.getElem?_eq_getElem hk
    generalize R[k] = x at hx
    have hxn := hl x (List.mem_of_getElem? hx)
    unfold b2_is_ring
    and_intros
    refine lc_filter (fun s : Nat => D.int (s : Nat)) (fun s => .int (s : Nat)) (fun s => decide (s ∈ nb n gs x)) True.intro R (Nat.le_trans (show _ ≤ 100 by omega) (by decide)) (fun s hs T hT => ?_) fun b => ?_
    · unfold e1_is_ring
      and_intros
      refine ⟨_, atN (nth_at hx), ?_⟩
      and_intros
      refine ⟨_, at_ti hxn, ?_⟩
      and_intros
      rw [isIn_nat]
      exact ⟨rfl, flat_nD _, R_if rfl hT⟩
    have hpl : prv R.length k < R.length := by unfold prv; split <;> omega
    have hnl : nxt R.length k < R.length := by unfold nxt; split <;> omega
    have hp := List.getElem?_eq_getElem hpl
    have hq := List.getElem?_eq_getElem hnl
    generalize R[prv R.length k] = p at hp
    generalize R[nxt R.length k] = q at hq
    and_intros
    refine ⟨cI (R.filter fun s => decide (s ∈ nb n gs x)), by rw [cI, List.map_map]; rfl, fun ns1 a1 h1 h2 => ⟨_, at_prv hk hp, ?_⟩⟩
    and_intros
    refine ⟨by omega, _, at_nxt hk hq, ?_⟩
    and_intros
    refine ⟨by decide, cI [p, q], rfl, fun ns2 h3 h4 => ?_⟩
    and_intros
    refine ⟨cmp_intsL _, cmp_intsL _, ?_⟩
    rw [sorted_same h1 h2 h3 h4]
    by_cases e : (R.filter fun s => decide (s ∈ nb n gs x)).Perm [p, q]
    · rw [if_neg (by simpa using cI_perm.2 e)]
      refine hN _ ⟨pre ++ [k], _, _, rfl, by rw [List.append_assoc]; exact he, fun j hj x' p' q' gx gp gq => ?_⟩
      rcases List.mem_append.1 hj with z | z
      · exact hpr j z x' p' q' gx gp gq
      · rw [List.mem_singleton.1 z] at gx gp gq
        rw [hx] at gx
        rw [hp] at gp
        rw [hq] at gq
        cases gx
        cases gp
        cases gq
        exact e
    · rw [if_pos (by simpa using fun z => e (cI_perm.1 z))]
      refine hQ _ _ ⟨fun z => (by cases z), ?_⟩
      rintro ⟨R', e', _, _, h, _⟩
      have e' : R = R' := nD_inj (D.tup.inj e')
      subst e'
      exact absurd (h k x p q hx hp hq) e
def FreeD (n : Nat) (gs : List (List Nat)) (d : D) : Prop := ∃ ord : List Nat, d = .tup (nD ord) ∧ ord.Nodup ∧ (∀ x ∈ ord, x < n) ∧ ord.length = n ∧ ∀ (k x : Nat), ord[k]? = some x → AllT n gs (bagN n gs (ord.take k) x)
def sp_ties_none : DSpec := fun args Q _ => ∃ (n : Nat) (gs : List (List Nat)) (d : D) (k : Nat), args = [.ext (tiD n gs), .ext d] ∧ n ≤ 24 ∧ D.pl k d = true ∧ ShortT d ∧ ∀ (b : Bool) fin, (b = true ↔ FreeD n gs d) → Q (.ext (.bl b)) fin
def e1_ties_none : DT :=
    (dCall sp_all_tied (dCons (dVar 0) (dCons (dCall sp_bag_by (dCons (dVar 0) (dCons (dSl (dVar 1) dNoPart (dPart (dVar 2))) (dCons (dOp fIx (dVar 1) (dVar 2)) dNil)))) dNil)))
def k2_ties_none : DTS :=
    (sRet (dCB fAll (dCons (dLc (dRange1 (dCons (dCB fLen (dCons (dVar 1) dNil)) dNil)) (gSet 2) dYes e1_ties_none [2]) dNil)))
def t_ties_none : DTS :=
    (sSeq (sIf (dOr (dNot (dTest (dCall sp_is_order (dCons (dCB fLen (dCons (dVar 0) dNil)) (dCons (dVar 1) dNil))))) (dTest (dOp fNe (dCB fLen (dCons (dVar 1) dNil)) (dCB fLen (dCons (dVar 0) dNil))))) (sRet (dC (.bl false))) sNext)
    k2_ties_none)
open Classical in
theorem m_ties_none : Meets t_ties_none 2 1 sp_ties_none := by
  rintro args Qd Xd ⟨n, gs, d, k, rfl, h24, hp, hsh, hQ⟩
  have htl : (tiDs n gs).length = n := by rw [List.length_map, List.length_range]
  show t_ties_none _ _ [_, _, .un]
  unfold t_ties_none
  and_intros
  rw [htl]
  refine ⟨(n : Nat), d, k, rfl, hp, hsh, fun b fin hb => ?_⟩
  and_intros
  cases b with
  | false =>
    rw [if_pos (by decide)]
    and_intros
    refine hQ _ _ ⟨fun z => (by cases z), ?_⟩
    rintro ⟨R, rfl, nd, hl, _⟩
    exact hb.2 ⟨R, rfl, nd, fun x hx => by have := hl x hx; omega⟩
  | true =>
    obtain ⟨R, rfl, nd, hl⟩ := hb.1 rfl
    have hl : ∀ x ∈ R, x < n := fun x hx => by have := hl x hx; omega
    have hRl := nodup_le nd hl
    rw [if_neg (by decide)]
    and_intros
    rw [nD_len, ib_nat]
    by_cases hn : R.length = n
    rotate_left
    · rw [if_pos (by simpa using hn)]
      refine hQ _ _ ⟨fun z => (by cases z), ?_⟩
      rintro ⟨R', e', _, _, h, _⟩
      have e' : R = R' := nD_inj (D.tup.inj e')
      subst e'
      exact absurd h hn
    rw [if_neg (by simpa using hn)]
    unfold k2_ties_none
    and_intros
    rw [nD_len, rgD_nat]
    refine ⟨⟨by omega, by omega⟩, ?_⟩
    have nin : ∀ {i x : Nat}, R[i]? = some x → x ∉ R.take i := fun {i x} hi hm => by
      obtain ⟨j, hj⟩ := List.getElem?_of_mem hm
      rw [List.getElem?_take] at hj
      split at hj
      · have := (List.getElem?_inj (List.getElem?_eq_some_iff.1 hi).1 nd).1 (hi.trans hj.symm)
        omega
      · cases hj
    refine lc_map (fun s : Nat => D.int (s : Nat)) (fun s => .bl (decide (AllT n gs (bagN n gs (R.take s) (R.getD s 0))))) True.intro (List.range R.length) (Nat.le_trans (show _ ≤ 100 by rw [List.length_range]; omega) (by decide)) (fun s hs T hT => ?_) fun b => ?_
    · have hsl := List.mem_range.1 hs
      have hx := List.getElem?_eq_getElem hsl
      rw [List.getD_eq_getElem?_getD, hx] at hT
      generalize R[s] = x at hx hT
      have hT : T (.bl (decide (AllT n gs (bagN n gs (R.take s) x)))) _ := hT
      have hxn := hl x (List.mem_of_getElem? hx)
      unfold e1_ties_none
      and_intros
      refine ⟨_, atN (nth_at hx), ?_⟩
      rw [cutT_nat]
      and_intros
      refine ⟨n, gs, R.take s, _, x, rfl, .inl rfl, h24, hxn, nin hx, fun fin => ?_⟩
      and_intros
      have hbl : (bagN n gs (R.take s) x).length ≤ 24 := Nat.le_trans (nodup_le (bag_rising ..).nd fun z hz => (mem_bag.1 hz).1) h24
      refine ⟨n, gs, _, _, rfl, .inl rfl, h24, by omega, fun z hz => (mem_bag.1 hz).1, fun b fin hb => ?_⟩
      and_intros
      rw [show b = decide (AllT n gs (bagN n gs (R.take s) x)) by rw [Bool.eq_iff_iff, hb, decide_eq_true_eq]]
      exact hT
    and_intros
    refine ⟨(List.range R.length).map fun s => decide (AllT n gs (bagN n gs (R.take s) (R.getD s 0))), by rw [List.map_map]; rfl, ?_⟩
    refine hQ _ _ ?_
    rw [List.all_map, List.all_eq_true]
    constructor
    · intro h
      refine ⟨R, rfl, nd, hl, hn, fun j x hj => ?_⟩
      have := h j (List.mem_range.2 (List.getElem?_eq_some_iff.1 hj).1)
      simp only [Function.comp, id, decide_eq_true_eq] at this
      rw [List.getD_eq_getElem?_getD, hj] at this
      exact this
    · rintro ⟨R', e', _, _, _, h⟩
      have e' : R = R' := nD_inj (D.tup.inj e')
      subst e'
      intro j hj
      have hx := List.getElem?_eq_getElem (List.mem_range.1 hj)
      simp only [Function.comp, id, decide_eq_true_eq]
      rw [List.getD_eq_getElem?_getD, hx]
      exact h j _ hx
def NoNewD (n : Nat) (gs : List (List Nat)) (d : D) : Prop := (∃ o, d = .tup [.str "order", o] ∧ FreeD n gs o) ∨ ∃ r, d = .tup [.str "ring", r] ∧ RingD n gs r
def sp_is_no_new : DSpec := fun args Q _ => ∃ (S : List Nat) (ps : List Part) (d : D) (k : Nat), args = [.ext (dSh S ps), .ext d] ∧ NsOk S ps ∧ D.pl k d = true ∧ (∀ a o, d = .tup [a, o] → ShortT o) ∧ ∀ (b : Bool) fin, (b = true ↔ NoNewD S.length (gsOf ps) d) → Q (.ext (.bl b)) fin
def k1_is_no_new : DTS :=
    (sSeq (sIf (dTest (dOp fEq (dOp fIx (dVar 1) (dC (.int 0))) (dC (.str (Str.ofString "order"))))) (sRet (dCall sp_ties_none (dCons (dCall sp_ties_of (dCons (dVar 0) dNil)) (dCons (dOp fIx (dVar 1) (dC (.int 1))) dNil)))) sNext)
    (sRet (dAndV (dOp fEq (dOp fIx (dVar 1) (dC (.int 0))) (dC (.str (Str.ofString "ring")))) (dCall sp_is_ring (dCons (dCall sp_ties_of (dCons (dVar 0) dNil)) (dCons (dOp fIx (dVar 1) (dC (.int 1))) dNil))))))
def t_is_no_new : DTS :=
    (sSeq (sIf (dOr (dNot (dTest (dCB fIsi (dCons (dVar 1) (dCons (dC (.val (.ty "tuple"))) dNil))))) (dOr (dTest (dOp fNe (dCB fLen (dCons (dVar 1) dNil)) (dC (.int 2)))) (dNot (dTest (dCB fIsi (dCons (dOp fIx (dVar 1) (dC (.int 0))) (dCons (dC (.val (.ty "str"))) dNil))))))) (sRet (dC (.bl false))) sNext)
    k1_is_no_new)
theorem m_is_no_new : Meets t_is_no_new 2 0 sp_is_no_new := by
  rintro args Qd Xd ⟨S, ps, d, k, rfl, ok, hp, hsh, hQ⟩
  have nv := pl_noVal k d hp
  have h24 := ok.few
  show t_is_no_new _ _ [_, _]
  unfold t_is_no_new
  cases d with
  | val _ => cases k <;> simp [D.pl] at hp
  | fz _ => cases k <;> simp [D.pl] at hp
  | tk _ => cases k <;> simp [D.pl] at hp
  | exc _ => cases k <;> simp [D.pl] at hp
  | glo _ => cases k <;> simp [D.pl] at hp
  | dk _ _ => cases k <;> simp [D.pl] at hp
  | dt _ _ => cases k <;> simp [D.pl] at hp
  | tup ds =>
    cases k with
    | zero => simp [D.pl] at hp
    | succ k =>
      have hp' := K01.pl_tup hp
      trivial
      refine ⟨nv, rfl, ?_⟩
      rw [if_neg (by decide)]
      have no : ds.length ≠ 2 → ¬ NoNewD S.length (gsOf ps) (.tup ds) := fun h => by
        rintro (⟨_, e, _⟩ | ⟨_, e, _⟩)
        · rw [D.tup.inj e] at h
          exact h rfl
        · rw [D.tup.inj e] at h
          exact h rfl
      by_cases h2 : ds.length = 2
      rotate_left
      · rw [if_pos (by rw [show (((ds.length : Nat) : Int) == 2) = (ds.length == 2) from ib_nat _ 2]; simpa using h2)]
        exact hQ _ _ ⟨fun z => by simp at z, fun z => absurd z (no h2)⟩
      rw [if_neg (by rw [show (((ds.length : Nat) : Int) == 2) = (ds.length == 2) from ib_nat _ 2]; simpa using h2)]
      match ds, h2 with
      | [a, o], _ =>
      refine ⟨a, rfl, ?_⟩
      have pa := hp'.2 a (by simp)
      have po := hp'.2 o (by simp)
      have nva := pl_noVal k a pa
      have hso := hsh a o rfl
      cases a with
      | val _ => cases k <;> simp [D.pl] at pa
      | fz _ => cases k <;> simp [D.pl] at pa
      | tk _ => cases k <;> simp [D.pl] at pa
      | exc _ => cases k <;> simp [D.pl] at pa
      | glo _ => cases k <;> simp [D.pl] at pa
      | dk _ _ => cases k <;> simp [D.pl] at pa
      | dt _ _ => cases k <;> simp [D.pl] at pa
      | str z =>
        trivial
        simp only [nva, D.isFz, true_and, Bool.not_true, Bool.false_eq_true, if_false]
        unfold k1_is_no_new
        trivial
        by_cases ez : z = Str.ofString "order"
        · subst ez
          rw [if_pos (by rfl)]
          refine ⟨S, ps, rfl, ok, fun a1 fin => ?_⟩
          and_intros
          refine ⟨S.length, gsOf ps, o, k, rfl, h24, po, hso, fun b fin hb => ?_⟩
          and_intros
          refine hQ _ _ (hb.trans ⟨fun h => .inl ⟨o, rfl, h⟩, ?_⟩)
          rintro (⟨o', e, h⟩ | ⟨o', e, h⟩)
          · have e := D.tup.inj e
            have e : o = o' := (List.cons.inj (List.cons.inj e).2).1
            rw [e]
            exact h
          · have e := D.tup.inj e
            exact absurd (D.str.inj (List.cons.inj e).1) (by decide)
        rw [if_neg (by simpa using ez)]
        by_cases ez2 : z = Str.ofString "ring"
        · subst ez2
          rw [if_pos (by rfl)]
          refine ⟨S, ps, rfl, ok, fun a1 fin => ?_⟩
          and_intros
          refine ⟨S.length, gsOf ps, o, k, rfl, h24, po, hso, fun b fin hb => ?_⟩
          and_intros
          refine hQ _ _ (hb.trans ⟨fun h => .inr ⟨o, rfl, h⟩, ?_⟩)
          rintro (⟨o', e, h⟩ | ⟨o', e, h⟩)
          · have e := D.tup.inj e
            exact absurd (D.str.inj (List.cons.inj e).1) (by decide)
          · have e := D.tup.inj e
            have e : o = o' := (List.cons.inj (List.cons.inj e).2).1
            rw [e]
            exact h
        · rw [if_neg (by simpa using ez2)]
          refine hQ _ _ ⟨fun z => by simp at z, ?_⟩
          rintro (⟨o', e, h⟩ | ⟨o', e, h⟩)
          · exact absurd (D.str.inj (List.cons.inj (D.tup.inj e)).1) ez
          · exact absurd (D.str.inj (List.cons.inj (D.tup.inj e)).1) ez2
      | _ =>
        trivial
        simp only [nva, D.isFz, true_and, Bool.not_false, if_true]
        exact hQ _ _ ⟨fun z => by simp at z, by rintro (⟨_, e, _⟩ | ⟨_, e, _⟩) <;> simp at e⟩
  | _ =>
    trivial
    simp only [nv, D.isFz, true_and, Bool.not_false, if_true]
    exact hQ _ _ ⟨fun z => by simp at z, by rintro (⟨_, e, _⟩ | ⟨_, e, _⟩) <;> simp at e⟩
end LS
namespace HD
open PySem PyProof.Rows L2
abbrev TabS := List (Str × Str)
def tabW (t : TabS) : List (Key × V) := t.map fun p => (Sum.inr p.1, V.str p.2)
theorem tab_valS : ∀ (t : TabS) (w : Str) (n : Str), t.lookup w = some n → valV (tabW t) (Sum.inr w) = some (.str n)
  | [], _, _, h => by cases h
  | (k, m) :: t, w, n, h => by
    unfold valV tabW
    rw [List.map_cons, List.find?_cons]
    rw [List.lookup_cons] at h
    by_cases e : w = k
    · subst e
      simp only [beq_self_eq_true] at h
      rw [decide_eq_true rfl]
      cases h
      rfl
    · have e1 : (w == k) = false := beq_eq_false_iff_ne.mpr e
      rw [e1] at h
      have e2 : decide ((Sum.inr k : Key) = Sum.inr w) = false := decide_eq_false fun z => e (Sum.inr.inj z).symm
      show Option.map _ (match decide ((Sum.inr k : Key) = Sum.inr w) with | true => some _ | false => _) = _
      rw [e2]
      exact tab_valS t w n h
def dTableS (tab : TabS) (i : Nat) : DT := fun _ env Q => match env[i]? with
  | some (.ext (.str w)) => ∃ n, tab.lookup w = some n ∧ Q (.ext (.str n)) env
  | _ => False
section
variable {G : GG} {N : List Str} {sc : SC} {k : Nat} {x : Str} {px pos dpos : Pos} {keys : List (Option Expr)} {values : List Expr} {trs : List (TE × TE)}
theorem de_tableS (tab : TabS) (i : Nat) (hp : ∀ X : Cx, PPs X dpos keys values trs) (hc : ∀ (σ : L2.St) (H : Hp) (Q : List (V × V) → Hp → Prop), Q (tab.map fun p => (V.str p.1, V.str p.2)) H → tPairs trs σ H Q)
    (hnd : (tab.map (·.1)).Nodup) (h15 : tab.length ≤ 15) (hall : keys.all (·.isSome) = true := by rfl) (hl : keys.length = values.length := by rfl) (h0 : keys ≠ [] := by intro z; cases z) (hk15 : keys.length ≤ 15 := by decide)
    (hv : VisV N sc i x := by exact ⟨rfl, by first | exact Or.inl rfl | exact Or.inr (Or.inl rfl) | exact Or.inr (Or.inr rfl), by decide, by decide⟩) (hs : NoSl (.Name x px) := by intro _ _; rfl) :
    DE G N sc k (.Subscript (.Dict keys values dpos) (.Name x px) pos) (dTableS tab i) := ⟨fun W => by
  refine ⟨tDGet (tDisp trs) (tVar i), fun X S => ?_, fun e Ex hl env T F σ H Q R hh ht hR => ?_⟩
  · exact pe_dget (Nat.lt_of_le_of_lt (Nat.add_le_add_left (by decide : 1 ≤ 64) _) S.units) (pe_disp (hp X) hall hl h0 hk15) (pe_var (by rw [S.nms]; exact hv.1) (S.vis hv.2.1) hv.2.2.1 hv.2.2.2) hs
  · unfold dTableS at ht
    split at ht
    · rename_i w hw
      obtain ⟨n, hn, q⟩ := ht
      rcases hh.slots i _ hw with z | ⟨v, hv', ok⟩
      · cases z
      · have ev : v = .str w := ok
        subst ev
        intro p hp'
        refine hc _ _ _ ⟨upd_same, tabW tab, ?_, by unfold tabW; rw [List.length_map]; exact h15, ?_⟩
        · unfold tabW
          rw [List.map_map]
          rfl
        · refine ⟨.str w, hv', p, .str n, rfl, ?_, ?_⟩
          · have nd : ((tabW tab).map (·.1)).Nodup := by
              unfold tabW
              rw [List.map_map]
              have z : (fun p : Str × Str => (Sum.inr p.1 : Key)) = (Sum.inr ∘ fun p : Str × Str => p.1) := rfl
              show (tab.map fun p => (Sum.inr p.1 : Key)).Nodup
              rw [z, ← List.map_map]
              exact List.Pairwise.map _ (fun a b h => fun e => h (Sum.inr.inj e)) hnd
            have z : valV (mergeK [] (tabW tab)) (Sum.inr w : Key) = some (.str n) := by
              rw [merge_fresh (tabW tab) [] (fun q _ p hp => nomatch hp) nd, List.nil_append]
              exact tab_valS tab w n hn
            have g : DGet (upd (upd H p (.dK [])) p (.dK (mergeK [] (tabW tab)))) p (kV (Sum.inr w)) (valV (mergeK [] (tabW tab)) (Sum.inr w)) := DGet.k upd_same
            rw [z] at g
            exact g
          · rw [upd_upd]
            have aft := (hh.done hR).more (o := .dK (mergeK [] (tabW tab))) hh.fh hp'
            exact aft.str (Grow.loose hh.fh hp').fh q
    · exact ht.elim⟩
end
theorem dTableS_w (tab : TabS) (i : Nat) (Ex : DX) (env : Env') (Q : Sl → Env' → Prop) : dTableS tab i Ex env Q = AtS env[i]? (fun d => match d with | .str w => ∃ n, tab.lookup w = some n ∧ Q (.ext (.str n)) env | _ => False) (fun _ _ => False) .mk .mk := by
  unfold dTableS AtS
  rcases env[i]? with _ | (_ | d | _ | _ | _) <;> try rfl
  cases d <;> rfl
end HD
namespace LS
namespace K46
open PySem L2 HD PM Gr
open K02 (t_law_whole_number m_law_whole_number sp_law_whole_number)
open K01 (isInt_all fil0 iD_inj pl_tup nD_iD)
local macro_rules | `(tactic| trivial) => `(tactic| try simp -dsimp only [↓sIf, ↓sRet, ↓retD_ext, ↓retD_lst, ↓retD_al, ↓sSet, ↓sSetE, ↓sAsg, ↓sDrop, ↓sNext, ↓sFor, ↓sRetN, ↓sCont, ↓sBreak, ↓dTest, ↓dOp, ↓dVar_w, ↓dC, ↓dCons, ↓dNil, ↓dTup, ↓dLst, ↓frzDs, ↓frzD_ext, ↓frzD_lst, ↓frzD_al, ↓wd_ext, ↓wd_lst, ↓wd_al, ↓wds, ↓AtS_ext, ↓AtS_lst, ↓AtL, ↓fAdd, ↓fSub, ↓fMul, ↓fDiv, ↓fMod, ↓fPow, ↓fCmp, ↓fIn, ↓fEq_ii, ↓fEq_ss, ↓fEq_bb, ↓fEq_tt, ↓fEq_ll, ↓fNe_ii, ↓fNe_ss, ↓fNe_bb, ↓fNe_tt, ↓fNe_ll, ↓fIx_l, ↓fIx_t, ↓fIx_k, ↓fIx_f, ↓GetS_some, ↓NatS_some, ↓fSl, ↓fIsN, ↓fNotN, ↓D.knN, ↓dNot, ↓dAnd, ↓dOr, ↓dAndV_w, ↓dOrV_w, ↓dNotV, ↓dIf, ↓dNeg, ↓dChain_w, ↓BlS_bl, ↓dCall_w, ↓dCallJ_w, ↓anyAl, ↓frozs, ↓froz, ↓gSet, ↓gTupD, ↓gsCons, ↓gsNil, ↓dSeq, ↓seqD_tup, ↓seqD_elst, ↓seqD_lst, ↓seqD_al, ↓dRange1, ↓dRange2, ↓dZip, ↓dCB, ↓dLc, ↓dYes, ↓dNoPart, ↓dPart, ↓dSl, ↓fLen, ↓fMin, ↓fMax, ↓fSum, ↓fAll, ↓fAny, ↓fSorted, ↓fTuple, ↓fList, ↓dRg1, ↓dRg2, ↓dLstRg, ↓dTupRg, ↓dIndex, ↓fIdx, ↓dAppend_w, ↓dExtend_w, ↓extD_lst, ↓dPopAt_w, ↓popD_int, ↓dPop_w, ↓mutD_w, ↓sSetItem_w, ↓setD_int, ↓dSortSet, ↓dTable_w, ↓wipeE, finals1, finals2, finals3, finals4, finals5, finals6, fin1_ext, fin1_lst, List.getElem?_cons_zero, List.getElem?_cons_succ, List.getElem?_nil, List.set_cons_zero, List.set_cons_succ, List.cons_append, List.nil_append, List.append_nil, List.replicate_succ, List.replicate_zero, List.map_cons, List.map_nil, List.length_cons, List.length_nil, true_and, and_true, ite_true, ite_false, if_true, if_false, Bool.false_eq_true, decide_eq_true_eq, Sl.plain, D.isSq, eq_self_iff_true, forall_const, reduceIte, true_or, or_true, atI_0, atI_1, atI_2, atI_3, ixN_0, ixN_1, ixN_2, AtS_ext, AtS_lst, FzS_lst, FzS_ext, GetS_some, NatS_some, ↓fIsi1, ↓fIsi2, BoolS_some, HD.kb_non_tuple, HD.kb_non_list, HD.kb_non_bool, HD.kb_non_int, HD.kb_non_str, HD.kb_bl_tuple, HD.kb_bl_list, HD.kb_bl_bool, HD.kb_bl_int, HD.kb_bl_str, HD.kb_int_tuple, HD.kb_int_list, HD.kb_int_bool, HD.kb_int_int, HD.kb_int_str, HD.kb_str_tuple, HD.kb_str_list, HD.kb_str_bool, HD.kb_str_int, HD.kb_str_str, HD.kb_lst_tuple, HD.kb_lst_list, HD.kb_lst_bool, HD.kb_lst_int, HD.kb_lst_str, HD.kb_tup_tuple, HD.kb_tup_list, HD.kb_tup_bool, HD.kb_tup_int, HD.kb_tup_str, ↓sFz_w, ↓FzS_lst, ↓FzS_ext, ↓dSortSetL, ↓fAbs, ↓fInt, ↓fRepr, ↓fLtT, ↓sRaise, ↓sTryKeep, ↓dCallV_w, ↓dMeth, ↓fCount, ↓fSplit, ↓seq_setE, ↓seq_set, ↓seq_drop, ↓seq_asg, ↓seq_if, ↓seq_for, ↓dStep, ↓fStep, ↓fMulT, ↓fIsB, ↓fNotB, ↓sPar, ↓dEnum, ↓dListZip, ↓dNest, ↓sSeal, ↓dNApp, ↓retD_reg, ↓dLenSet, ↓fSum2, ↓seq_putD, ↓seq_sealD, ↓dDIn, ↓dDGet, ↓sPutD, ↓dDNew, ↓dDOne, ↓sSealD, ↓dKeys, ↓keyS_dk, ↓dExtT, ↓fSortT, ↓fMinP, ↓dRemove, ↓dTableS_w])
local macro_rules | `(tactic| and_intros) => `(tactic| try simp -dsimp only [↓sIf, ↓sRet, ↓retD_ext, ↓retD_lst, ↓retD_al, ↓sSet, ↓sSetE, ↓sAsg, ↓sDrop, ↓sNext, ↓sFor, ↓sRetN, ↓sCont, ↓sBreak, ↓dTest, ↓dOp, ↓dC, ↓dCons, ↓dNil, ↓dTup, ↓dLst, ↓frzDs, ↓frzD_ext, ↓frzD_lst, ↓frzD_al, ↓wd_ext, ↓wd_lst, ↓wd_al, ↓wds, ↓AtS_ext, ↓AtS_lst, ↓AtL, ↓fAdd, ↓fSub, ↓fMul, ↓fDiv, ↓fMod, ↓fPow, ↓fCmp, ↓fIn, ↓fEq_ii, ↓fEq_ss, ↓fEq_bb, ↓fEq_tt, ↓fEq_ll, ↓fNe_ii, ↓fNe_ss, ↓fNe_bb, ↓fNe_tt, ↓fNe_ll, ↓fIx_l, ↓fIx_t, ↓fIx_k, ↓fIx_f, ↓GetS_some, ↓NatS_some, ↓fSl, ↓fIsN, ↓fNotN, ↓D.knN, ↓dNot, ↓dAnd, ↓dOr, ↓dAndV_w, ↓dOrV_w, ↓dNotV, ↓dIf, ↓dNeg, ↓dChain_w, ↓BlS_bl, ↓dCall_w, ↓dCallJ_w, ↓anyAl, ↓frozs, ↓froz, ↓gSet, ↓gTupD, ↓gsCons, ↓gsNil, ↓dSeq, ↓seqD_tup, ↓seqD_elst, ↓seqD_lst, ↓seqD_al, ↓dRange1, ↓dRange2, ↓dZip, ↓dCB, ↓dLc, ↓dYes, ↓dNoPart, ↓dPart, ↓dSl, ↓fLen, ↓fMin, ↓fMax, ↓fSum, ↓fAll, ↓fAny, ↓fSorted, ↓fTuple, ↓fList, ↓dRg1, ↓dRg2, ↓dLstRg, ↓dTupRg, ↓dIndex, ↓fIdx, ↓dAppend_w, ↓dExtend_w, ↓extD_lst, ↓dPopAt_w, ↓popD_int, ↓dPop_w, ↓mutD_w, ↓sSetItem_w, ↓setD_int, ↓dSortSet, ↓dTable_w, ↓wipeE, finals1, finals2, finals3, finals4, finals5, finals6, fin1_ext, fin1_lst, List.getElem?_cons_zero, List.getElem?_cons_succ, List.getElem?_nil, List.set_cons_zero, List.set_cons_succ, List.cons_append, List.nil_append, List.append_nil, List.replicate_succ, List.replicate_zero, List.map_cons, List.map_nil, List.length_cons, List.length_nil, true_and, and_true, ite_true, ite_false, if_true, if_false, Bool.false_eq_true, decide_eq_true_eq, Sl.plain, D.isSq, eq_self_iff_true, forall_const, reduceIte, true_or, or_true, atI_0, atI_1, atI_2, atI_3, ixN_0, ixN_1, ixN_2, AtS_ext, AtS_lst, FzS_lst, FzS_ext, GetS_some, NatS_some, ↓fIsi1, ↓fIsi2, BoolS_some, HD.kb_non_tuple, HD.kb_non_list, HD.kb_non_bool, HD.kb_non_int, HD.kb_non_str, HD.kb_bl_tuple, HD.kb_bl_list, HD.kb_bl_bool, HD.kb_bl_int, HD.kb_bl_str, HD.kb_int_tuple, HD.kb_int_list, HD.kb_int_bool, HD.kb_int_int, HD.kb_int_str, HD.kb_str_tuple, HD.kb_str_list, HD.kb_str_bool, HD.kb_str_int, HD.kb_str_str, HD.kb_lst_tuple, HD.kb_lst_list, HD.kb_lst_bool, HD.kb_lst_int, HD.kb_lst_str, HD.kb_tup_tuple, HD.kb_tup_list, HD.kb_tup_bool, HD.kb_tup_int, HD.kb_tup_str, ↓sFz_w, ↓FzS_lst, ↓FzS_ext, ↓dSortSetL, ↓fAbs, ↓fInt, ↓fRepr, ↓fLtT, ↓sRaise, ↓sTryKeep, ↓dCallV_w, ↓dMeth, ↓fCount, ↓fSplit, ↓seq_setE, ↓seq_set, ↓seq_drop, ↓seq_asg, ↓seq_if, ↓seq_for, ↓dStep, ↓fStep, ↓fMulT, ↓fIsB, ↓fNotB, ↓sPar, ↓dEnum, ↓dListZip, ↓dNest, ↓sSeal, ↓dNApp, ↓retD_reg, ↓dLenSet, ↓fSum2, ↓seq_putD, ↓seq_sealD, ↓dDIn, ↓dDGet, ↓sPutD, ↓dDNew, ↓dDOne, ↓sSealD, ↓dKeys, ↓keyS_dk, ↓dExtT, ↓fSortT, ↓fMinP, ↓dRemove, ↓dTableS_w, ↓dv0, ↓dw0, ↓dv1, ↓dw1, ↓dv2, ↓dw2, ↓dv3, ↓dw3, ↓dv4, ↓dw4, ↓dv5, ↓dw5, ↓dv6, ↓dw6, ↓dv7, ↓dw7, ↓dv8, ↓dw8, ↓dv9, ↓dw9, ↓dv10, ↓dw10, ↓dv11, ↓dw11, ↓dv12, ↓dw12, ↓dv13, ↓dw13, ↓dv14, ↓dw14, ↓dv15, ↓dw15, ↓dv16, ↓dw16, ↓dv17, ↓dw17, ↓dv18, ↓dw18, ↓dv19, ↓dw19])
def sp_law_unlike_names : DSpec := fun args Q _ => ∃ (many : Nat) (d : D) (k : Nat), args = [.ext d, dI (many : Nat)] ∧ D.pl k d = true ∧ ShortT d ∧ ∀ (b : Bool) fin, (b = true ↔ OrderD many d) → Q (.ext (.bl b)) fin
def e1_law_unlike_names : DT :=
    (dC (.int 1))
def e2_law_unlike_names : DT :=
    (dC (.int 1))
def k3_law_unlike_names : DTS :=
    (sRet (dAndV (dOp fEq (dCB fLen (dCons (dLc (dSeq (dVar 0)) (gSet 2) (dOr (dTest (dOp (fCmp fun i j => decide (i < j)) (dVar 2) (dC (.int 0)))) (dTest (dOp (fCmp fun i j => decide (j ≤ i)) (dVar 2) (dVar 1)))) e2_law_unlike_names [2]) dNil)) (dC (.int 0))) (dOp fEq (dLenSet (dVar 0)) (dCB fLen (dCons (dVar 0) dNil)))))
def t_law_unlike_names : DTS :=
    (sSeq (sIf (dOr (dNot (dTest (dCB fIsi (dCons (dVar 0) (dCons (dC (.val (.ty "tuple"))) dNil))))) (dTest (dOp (fCmp fun i j => decide (j < i)) (dCB fLen (dCons (dLc (dSeq (dVar 0)) (gSet 2) (dNot (dTest (dCall sp_law_whole_number (dCons (dVar 2) dNil)))) e1_law_unlike_names [2]) dNil)) (dC (.int 0))))) (sRet (dC (.bl false))) sNext)
    k3_law_unlike_names)
theorem m_law_unlike_names : Meets t_law_unlike_names 2 1 sp_law_unlike_names := by
  rintro args Qd Xd ⟨many, d, k, rfl, hp, hsh, hQ⟩
  have nv := pl_noVal k d hp
  show t_law_unlike_names _ _ [_, _, .un]
  unfold t_law_unlike_names
  cases d with
  | val _ => cases k <;> simp [D.pl] at hp
  | fz _ => cases k <;> simp [D.pl] at hp
  | tk _ => cases k <;> simp [D.pl] at hp
  | exc _ => cases k <;> simp [D.pl] at hp
  | glo _ => cases k <;> simp [D.pl] at hp
  | dk _ _ => cases k <;> simp [D.pl] at hp
  | dt _ _ => cases k <;> simp [D.pl] at hp
  | tup ds =>
    cases k with
    | zero => simp [D.pl] at hp
    | succ k =>
      have hp := K01.pl_tup hp
      have hl3 := hsh _ rfl
      trivial
      simp only [nv, D.isFz, true_and, Bool.not_true, Bool.false_eq_true, if_false]
      refine K02.lc_filterD (fun _ => .int 1) (fun d => !D.isInt d) True.intro ds (Nat.le_trans hp.1 (by decide)) (fun d hd R hR => ?_) fun b => ?_
      · have nvd := pl_noVal k d (hp.2 d hd)
        have hpd := hp.2 d hd
        unfold e1_law_unlike_names
        trivial
        refine ⟨d, k, rfl, hpd, fun fin => ?_⟩
        trivial
        exact R_if rfl hR
      trivial
      rw [List.length_map]
      by_cases hi : ∀ d ∈ ds, D.isInt d = true
      · have e0 : (ds.filter fun d => !D.isInt d).length = 0 := fil0.2 fun d hd => by simp [hi d hd]
        rw [e0, if_neg (by decide)]
        obtain ⟨l, rfl⟩ := isInt_all hi
        rw [iD_len] at hp hl3
        trivial
        refine lc_filter D.int (fun _ => .int 1) (fun i => decide (i < 0) || decide ((many : Int) ≤ i)) True.intro l (Nat.le_trans hp.1 (by decide)) (fun i hi' R hR => ?_) fun b => ?_
        · unfold e2_law_unlike_names
          trivial
          by_cases h1 : i < 0
          · rw [if_pos h1]
            rw [show (decide (i < 0) || decide ((many : Int) ≤ i)) = true by simp [h1], if_pos rfl] at hR
            exact hR
          · rw [if_neg h1]
            trivial
            refine R_ifP ?_ hR
            simp [h1]
        trivial
        rw [List.length_map]
        by_cases hr : ∀ i ∈ l, 0 ≤ i ∧ i < (many : Int)
        · have e1 : (l.filter fun i => decide (i < 0) || decide ((many : Int) ≤ i)).length = 0 := fil0.2 fun i hi' => by
            have := hr i hi'
            simp; omega
          rw [e1]
          show ∃ ns, iD l = List.map D.int ns ∧ _
          refine ⟨l, rfl, hl3, fun m hm => ?_⟩
          rw [iD_len]
          refine hQ _ _ ?_
          obtain ⟨ns, e, eS, hns⟩ := K01.iD_nat (l := l) fun i hi' => (hr i hi').1
          have el : l = ns.map fun n : Nat => (n : Int) := iD_inj (e.trans (nD_iD ns))
          rw [e]
          have hm' : ∀ n ∈ ns, (n : Int) < many := fun n hn => (hr _ (hns n hn)).2
          have hnd : l.Nodup ↔ ns.Nodup := by rw [el]; exact cI_nodup
          rw [hnd] at hm
          rw [beq_iff_eq]
          constructor
          · intro z
            exact ⟨ns, rfl, hm.1 (by omega), hm'⟩
          · rintro ⟨ns', e', nd, _⟩
            have := nD_inj (D.tup.inj e')
            subst this
            rw [hm.2 nd]
        · have e1 : ¬ (l.filter fun i => decide (i < 0) || decide ((many : Int) ≤ i)).length = 0 := fun h => hr fun i hi' => by
            have := fil0.1 h i hi'
            simp at this
            omega
          rw [show (((l.filter fun i => decide (i < 0) || decide ((many : Int) ≤ i)).length : Int) == 0) = false from beq_eq_false_iff_ne.2 fun z => e1 (by omega)]
          show Qd (.ext (.bl false)) _
          refine hQ _ _ ⟨fun z => by simp at z, ?_⟩
          rintro ⟨ns, e, _, hn⟩
          have := iD_inj ((D.tup.inj e).trans (nD_iD ns))
          subst this
          refine absurd (fun i hi' => ?_) hr
          obtain ⟨n, hn', rfl⟩ := List.mem_map.1 hi'
          exact ⟨by omega, hn n hn'⟩
      · have e0 : ¬ (ds.filter fun d => !D.isInt d).length = 0 := fun h => hi fun d hd => by simpa using fil0.1 h d hd
        rw [if_pos (by omega)]
        refine hQ _ _ ⟨fun z => by simp at z, ?_⟩
        rintro ⟨ns, e, _, hn⟩
        have := D.tup.inj e
        subst this
        refine absurd (fun d hd => ?_) hi
        obtain ⟨n, _, rfl⟩ := List.mem_map.1 hd
        rfl
  | _ =>
    trivial
    simp only [nv, D.isFz, true_and, Bool.not_false, if_true]
    exact hQ _ _ ⟨fun z => by simp at z, fun ⟨_, e, _⟩ => by simp at e⟩
def sp_law_due : DSpec := fun args Q _ => ∃ (n : Nat) (gs : List (List Nat)) (d : D) (k : Nat), args = [.ext (tiD n gs), .ext d] ∧ n ≤ 24 ∧ D.pl k d = true ∧ (∀ a o, d = .tup [a, o] → ShortT o) ∧ ∀ (b : Bool) fin, (b = true ↔ NoNewD n gs d) → Q (.ext (.bl b)) fin
def e1_law_due : DT :=
    (dVar 6)
def k2_law_due : DTS :=
    (sIf (dTest (dOp fNe (dCB fSorted (dCons (dVar 5) dNil)) (dCB fSorted (dCons (dLst (dCons (dOp fIx (dVar 3) (dOp fSub (dVar 4) (dC (.int 1)))) (dCons (dOp fIx (dVar 3) (dOp fMod (dOp fAdd (dVar 4) (dC (.int 1))) (dCB fLen (dCons (dVar 3) dNil)))) dNil))) dNil)))) (sRet (dC (.bl false))) sNext)
def b3_law_due : DTS :=
    (sSeq (sSetE 5 (dLc (dSeq (dVar 3)) (gSet 6) (dTest (dOp (fIn false) (dVar 6) (dOp fIx (dVar 0) (dOp fIx (dVar 3) (dVar 4))))) e1_law_due [6]))
    k2_law_due)
def k4_law_due : DTS :=
    (sRet (dOp (fCmp fun i j => decide (j < i)) (dCB fLen (dCons (dVar 3) dNil)) (dC (.int 3))))
def e5_law_due : DT :=
    (dVar 8)
def b6_law_due : DTS :=
    (sIf (dTest (dOp (fCmp fun i j => decide (j < i)) (dCB fLen (dCons (dLc (dSeq (dVar 7)) (gSet 8) (dAnd (dTest (dOp fNe (dVar 8) (dVar 6))) (dTest (dOp (fIn true) (dVar 8) (dOp fIx (dVar 0) (dVar 6))))) e5_law_due [8]) dNil)) (dC (.int 0)))) (sRet (dC (.bl false))) sNext)
def k7_law_due : DTS :=
    (sFor (dSeq (dVar 7)) (gSet 6) b6_law_due)
def b8_law_due : DTS :=
    (sSeq (sSetE 7 (dCall sp_law_bag (dCons (dVar 0) (dCons (dSl (dVar 3) dNoPart (dPart (dVar 4))) (dCons (dOp fIx (dVar 3) (dVar 4)) dNil)))))
    k7_law_due)
def k9_law_due : DTS :=
    (sRet (dOp fEq (dCB fLen (dCons (dVar 3) dNil)) (dCB fLen (dCons (dVar 0) dNil))))
def k10_law_due : DTS :=
    (sSeq (sFor (dRange1 (dCons (dCB fLen (dCons (dVar 3) dNil)) dNil)) (gSet 4) b8_law_due)
    k9_law_due)
def k11_law_due : DTS :=
    (sSeq (sIf (dTest (dOp fEq (dVar 2) (dC (.str (Str.ofString "ring"))))) (sSeq (sFor (dRange1 (dCons (dCB fLen (dCons (dVar 3) dNil)) dNil)) (gSet 4) b3_law_due)
    k4_law_due) sNext)
    k10_law_due)
def k12_law_due : DTS :=
    (sSeq (sIf (dOr (dTest (dOp (fIn true) (dVar 2) (dTup (dCons (dC (.str (Str.ofString "order"))) (dCons (dC (.str (Str.ofString "ring"))) dNil))))) (dNot (dTest (dCall sp_law_unlike_names (dCons (dVar 3) (dCons (dCB fLen (dCons (dVar 0) dNil)) dNil)))))) (sRet (dC (.bl false))) sNext)
    k11_law_due)
def k13_law_due : DTS :=
    (sSeq (sAsg (dVar 1) (gTupD 2 (gsCons (gSet 2) (gsCons (gSet 3) gsNil))))
    k12_law_due)
def t_law_due : DTS :=
    (sSeq (sIf (dOr (dNot (dTest (dCB fIsi (dCons (dVar 1) (dCons (dC (.val (.ty "tuple"))) dNil))))) (dOr (dTest (dOp fNe (dCB fLen (dCons (dVar 1) dNil)) (dC (.int 2)))) (dNot (dTest (dCB fIsi (dCons (dOp fIx (dVar 1) (dC (.int 0))) (dCons (dC (.val (.ty "str"))) dNil))))))) (sRet (dC (.bl false))) sNext)
    k13_law_due)
theorem isin_strs (z x y : Str) : (D.str z).isIn [D.str x, D.str y] = (decide (z = x) || decide (z = y)) := by
  have e : (D.str z).isIn [D.str x, D.str y] = (eqV (V.str x) (V.str z) || (eqV (V.str y) (V.str z) || false)) := rfl
  rw [e, Bool.or_false]
  simp only [eqV]
  rw [Bool.eq_iff_iff]
  simp only [Bool.or_eq_true, decide_eq_true_eq, beq_iff_eq]
  exact ⟨fun h => h.imp Eq.symm Eq.symm, fun h => h.imp Eq.symm Eq.symm⟩
theorem k10_ok {n : Nat} {gs : List (List Nat)} {R : List Nat} {Ex : DX} {E : DEnds} {d1 d2 : D} {u4 u5 u6 u7 : Sl} (h24 : n ≤ 24) (nd : R.Nodup) (hl : ∀ x ∈ R, x < n) (hT : ∀ env, FreeD n gs (.tup (nD R)) → E.rt (.ext (.bl true)) env) (hF : ∀ env, ¬ FreeD n gs (.tup (nD R)) → E.rt (.ext (.bl false)) env) :
    k10_law_due Ex E [.ext (tiD n gs), .ext d1, .ext d2, .ext (.tup (nD R)), u4, u5, u6, u7, .un] := by
  have hRl := nodup_le nd hl
  have nin : ∀ {i x : Nat}, R[i]? = some x → x ∉ R.take i := fun {i x} hi hm => by
    obtain ⟨j, hj⟩ := List.getElem?_of_mem hm
    rw [List.getElem?_take] at hj
    split at hj
    · have := (List.getElem?_inj (List.getElem?_eq_some_iff.1 hi).1 nd).1 (hi.trans hj.symm)
      omega
    · cases hj
  have inj : ∀ {R' : List Nat}, D.tup (nD R) = .tup (nD R') → R = R' := fun e => nD_inj (D.tup.inj e)
  unfold k10_law_due
  and_intros
  rw [nD_len, rgD_nat]
  refine ⟨⟨by omega, by omega⟩, ?_⟩
  refine for_ind (fun k : Nat => D.int (k : Int)) (fun xs env => ∃ (pre : List Nat) (u4 u6 u7 : Sl), env = [.ext (tiD n gs), .ext d1, .ext d2, .ext (.tup (nD R)), u4, u5, u6, u7, .un] ∧ List.range R.length = pre ++ xs ∧ ∀ k ∈ pre, ∀ x, R[k]? = some x → AllT n gs (bagN n gs (R.take k) x)) ?_ ?_ (List.range R.length) _ ⟨[], _, _, _, rfl, rfl, fun k hk => nomatch hk⟩
  · rintro env ⟨pre, u4, u6, u7, rfl, he, hpr⟩
    rw [List.append_nil] at he
    refine ⟨True.intro, ?_⟩
    unfold k9_law_due
    and_intros
    rw [nD_len, show (tiDs n gs).length = n by rw [List.length_map, List.length_range], ib_nat]
    by_cases hn : R.length = n
    · rw [show (R.length == n) = true by simp [hn]]
      exact hT _ ⟨R, rfl, nd, hl, hn, fun k x hk => hpr k (by rw [← he]; exact List.mem_range.2 (List.getElem?_eq_some_iff.1 hk).1) x hk⟩
    · rw [show (R.length == n) = false by simp [hn]]
      refine hF _ ?_
      rintro ⟨R', e, _, _, h, _⟩
      rw [← inj e] at h
      exact hn h
  rintro k xs env N ⟨pre, u4, u6, u7, rfl, he, hpr⟩ hN
  have hk : k < R.length := List.mem_range.1 (by rw [he]; simp)
  refine ⟨True.intro, ?_⟩
  have hx := List.getElem?_eq_getElem hk
  generalize R[k] = x at hx
  have hxn := hl x (List.mem_of_getElem? hx)
  unfold b8_law_due
  and_intros
  refine ⟨_, atN (nth_at hx), ?_⟩
  rw [cutT_nat]
  and_intros
  refine ⟨n, gs, R.take k, _, x, rfl, .inl rfl, h24, hxn, nin hx, fun fin => ?_⟩
  have hbad : ¬ AllT n gs (bagN n gs (R.take k) x) → ∀ env, E.rt (.ext (.bl false)) env := fun h env => hF env (by
    rintro ⟨R', e, _, _, _, h2⟩
    rw [← inj e] at h2
    exact h (h2 k x hx))
  have hgood : AllT n gs (bagN n gs (R.take k) x) → ∀ j ∈ pre ++ [k], ∀ y, R[j]? = some y → AllT n gs (bagN n gs (R.take j) y) := fun h j hj y hy => by
    rcases List.mem_append.1 hj with z | z
    · exact hpr j z y hy
    · rw [List.mem_singleton.1 z] at hy ⊢
      rw [hx] at hy
      cases hy
      exact h
  have hbn : ∀ z ∈ bagN n gs (R.take k) x, z < n := fun z hz => (mem_bag.1 hz).1
  have hbl : (bagN n gs (R.take k) x).length ≤ 24 := Nat.le_trans (nodup_le (bag_rising ..).nd hbn) h24
  generalize bagN n gs (R.take k) x = bag at hbad hgood hbn hbl
  and_intros
  unfold k7_law_due
  and_intros
  refine for_ind (fun s : Nat => D.int (s : Nat)) (fun ys env => ∃ (qre : List Nat) (u6 : Sl), env = [.ext (tiD n gs), .ext d1, .ext d2, .ext (.tup (nD R)), dI (k : Nat), u5, u6, .ext (.tup (nD bag)), .un] ∧ bag = qre ++ ys ∧ ∀ a ∈ qre, ∀ o ∈ bag, o ≠ a → o ∈ nb n gs a) ?_ ?_ bag _ ⟨[], _, rfl, rfl, fun a ha => nomatch ha⟩
  · rintro env ⟨qre, u6, rfl, hq, hall⟩
    rw [List.append_nil] at hq
    refine ⟨True.intro, hN _ ⟨pre ++ [k], _, _, _, rfl, by rw [List.append_assoc]; exact he, hgood fun a ha b hb hne => hall a (hq ▸ ha) b hb hne⟩⟩
  rintro a ys env N2 ⟨qre, u6, rfl, hq, hall⟩ hN2
  have ha : a ∈ bag := by rw [hq]; simp
  refine ⟨True.intro, ?_⟩
  unfold b6_law_due
  and_intros
  refine lc_filter (fun o : Nat => D.int (o : Nat)) (fun o => .int (o : Nat)) (fun o => o != a && !decide (o ∈ nb n gs a)) True.intro bag (Nat.le_trans (show _ ≤ 100 by omega) (by decide)) (fun o ho T hT => ?_) fun b => ?_
  · unfold e5_law_due
    and_intros
    rw [ib_nat]
    by_cases e : o = a
    · rw [if_neg (by simp [e])]
      simpa [e] using hT
    · rw [if_pos (by simp [e])]
      refine ⟨_, at_ti (hbn a ha), ?_⟩
      and_intros
      rw [isIn_nat]
      exact ⟨rfl, flat_nD _, R_if (b' := o != a && !decide (o ∈ nb n gs a)) (by simp [e]) hT⟩
  and_intros
  rw [List.length_map]
  by_cases hf : (bag.filter fun o => o != a && !decide (o ∈ nb n gs a)) = []
  · rw [hf, if_neg (by decide)]
    refine hN2 _ ⟨qre ++ [a], _, rfl, by rw [List.append_assoc]; exact hq, fun c hc o ho hne => ?_⟩
    rcases List.mem_append.1 hc with z | z
    · exact hall c z o ho hne
    · rw [List.mem_singleton.1 z] at hne ⊢
      have := List.filter_eq_nil_iff.1 hf o ho
      simpa [hne] using this
  · rw [if_pos (by have := List.length_pos_iff.2 hf; omega)]
    refine hbad (fun h => hf (List.filter_eq_nil_iff.2 fun o ho => ?_)) _
    rw [Bool.and_eq_true, bne_iff_ne, Bool.not_eq_true', decide_eq_false_iff_not]
    rintro ⟨h1, h2⟩
    exact h2 (h a ha o ho h1)
theorem f3_ok {n : Nat} {gs : List (List Nat)} {R : List Nat} {Ex : DX} {E : DEnds} {d1 d2 : D} {u4 u5 u7 u8 : Sl} (h24 : n ≤ 24) (nd : R.Nodup) (hl : ∀ x ∈ R, x < n) (hT : ∀ env, RingD n gs (.tup (nD R)) → E.rt (.ext (.bl true)) env) (hF : ∀ env, ¬ RingD n gs (.tup (nD R)) → E.rt (.ext (.bl false)) env) :
    sSeq (sFor (dRange1 (dCons (dCB fLen (dCons (dVar 3) dNil)) dNil)) (gSet 4) b3_law_due) k4_law_due Ex E [.ext (tiD n gs), .ext d1, .ext d2, .ext (.tup (nD R)), u4, u5, .un, u7, u8] := by
  have hRl := nodup_le nd hl
  have inj : ∀ {R' : List Nat}, D.tup (nD R) = .tup (nD R') → R = R' := fun e => nD_inj (D.tup.inj e)
  and_intros
  rw [nD_len, rgD_nat]
  refine ⟨⟨by omega, by omega⟩, ?_⟩
  refine for_ind (fun k : Nat => D.int (k : Int)) (fun xs env => ∃ (pre : List Nat) (u4 u5 : Sl), env = [.ext (tiD n gs), .ext d1, .ext d2, .ext (.tup (nD R)), u4, u5, .un, u7, u8] ∧ List.range R.length = pre ++ xs ∧ ∀ k ∈ pre, ∀ x p q, R[k]? = some x → R[prv R.length k]? = some p → R[nxt R.length k]? = some q → (R.filter fun z => decide (z ∈ nb n gs x)).Perm [p, q]) ?_ ?_ (List.range R.length) _ ⟨[], _, _, rfl, rfl, fun k hk => nomatch hk⟩
  · rintro env ⟨pre, u4, u5, rfl, he, hpr⟩
    rw [List.append_nil] at he
    refine ⟨True.intro, ?_⟩
    unfold k4_law_due
    and_intros
    rw [nD_len]
    by_cases h4 : 3 < R.length
    · rw [show decide ((3 : Int) < (R.length : Nat)) = true by simp; omega]
      exact hT _ ⟨R, rfl, nd, hl, fun k x p q hk hp hq => hpr k (by rw [← he]; exact List.mem_range.2 (List.getElem?_eq_some_iff.1 hk).1) x p q hk hp hq, h4⟩
    · rw [show decide ((3 : Int) < (R.length : Nat)) = false by simp; omega]
      refine hF _ ?_
      rintro ⟨R', e, _, _, _, h⟩
      rw [← inj e] at h
      exact h4 h
  rintro k xs env N ⟨pre, u4, u5, rfl, he, hpr⟩ hN
  have hk : k < R.length := List.mem_range.1 (by rw [he]; simp)
  refine ⟨True.intro, ?_⟩
  have hx := List.getElem?_eq_getElem hk
  generalize R[k] = x at hx
  have hxn := hl x (List.mem_of_getElem? hx)
  unfold b3_law_due
  and_intros
  refine lc_filter (fun s : Nat => D.int (s : Nat)) (fun s => .int (s : Nat)) (fun s => decide (s ∈ nb n gs x)) True.intro R (Nat.le_trans (show _ ≤ 100 by omega) (by decide)) (fun s hs T hT => ?_) fun b => ?_
  · unfold e1_law_due
    and_intros
    refine ⟨_, atN (nth_at hx), ?_⟩
    and_intros
    refine ⟨_, at_ti hxn, ?_⟩
    and_intros
    rw [isIn_nat]
    exact ⟨rfl, flat_nD _, R_if rfl hT⟩
  have hpl : prv R.length k < R.length := by unfold prv; split <;> omega
  have hnl : nxt R.length k < R.length := by unfold nxt; split <;> omega
  have hp := List.getElem?_eq_getElem hpl
  have hq := List.getElem?_eq_getElem hnl
  generalize R[prv R.length k] = p at hp
  generalize R[nxt R.length k] = q at hq
  and_intros
  unfold k2_law_due
  and_intros
  refine ⟨cI (R.filter fun s => decide (s ∈ nb n gs x)), by rw [cI, List.map_map]; rfl, fun ns1 a1 h1 h2 => ⟨_, at_prv hk hp, ?_⟩⟩
  and_intros
  rw [nD_len]
  refine ⟨by omega, _, at_nxt hk hq, ?_⟩
  and_intros
  refine ⟨by decide, cI [p, q], rfl, fun ns2 h3 h4 => ?_⟩
  and_intros
  refine ⟨cmp_intsL _, cmp_intsL _, ?_⟩
  rw [sorted_same h1 h2 h3 h4]
  by_cases e : (R.filter fun s => decide (s ∈ nb n gs x)).Perm [p, q]
  · rw [if_neg (by simpa using cI_perm.2 e)]
    refine hN _ ⟨pre ++ [k], _, _, rfl, by rw [List.append_assoc]; exact he, fun j hj x' p' q' gx gp gq => ?_⟩
    rcases List.mem_append.1 hj with z | z
    · exact hpr j z x' p' q' gx gp gq
    · rw [List.mem_singleton.1 z] at gx gp gq
      rw [hx] at gx
      rw [hp] at gp
      rw [hq] at gq
      cases gx
      cases gp
      cases gq
      exact e
  · rw [if_pos (by simpa using fun z => e (cI_perm.1 z))]
    refine hF _ ?_
    rintro ⟨R', e', _, _, h, _⟩
    rw [← inj e'] at h
    exact absurd (h k x p q hx hp hq) e
theorem m_law_due : Meets t_law_due 2 7 sp_law_due := by
  rintro args Qd Xd ⟨n, gs, d, k, rfl, h24, hp, hsh, hQ⟩
  have htl : (tiDs n gs).length = n := by rw [List.length_map, List.length_range]
  have nv := pl_noVal k d hp
  show t_law_due _ _ [_, _, .un, .un, .un, .un, .un, .un, .un]
  unfold t_law_due
  cases d with
  | val _ => cases k <;> simp [D.pl] at hp
  | fz _ => cases k <;> simp [D.pl] at hp
  | tk _ => cases k <;> simp [D.pl] at hp
  | exc _ => cases k <;> simp [D.pl] at hp
  | glo _ => cases k <;> simp [D.pl] at hp
  | dk _ _ => cases k <;> simp [D.pl] at hp
  | dt _ _ => cases k <;> simp [D.pl] at hp
  | tup ds =>
    cases k with
    | zero => simp [D.pl] at hp
    | succ k =>
      have hp' := K01.pl_tup hp
      trivial
      refine ⟨nv, rfl, ?_⟩
      rw [if_neg (by decide)]
      have no : ds.length ≠ 2 → ¬ NoNewD n gs (.tup ds) := fun h => by
        rintro (⟨_, e, _⟩ | ⟨_, e, _⟩)
        · rw [D.tup.inj e] at h
          exact h rfl
        · rw [D.tup.inj e] at h
          exact h rfl
      by_cases h2 : ds.length = 2
      rotate_left
      · rw [if_pos (by rw [show (((ds.length : Nat) : Int) == 2) = (ds.length == 2) from ib_nat _ 2]; simpa using h2)]
        exact hQ _ _ ⟨fun z => by simp at z, fun z => absurd z (no h2)⟩
      rw [if_neg (by rw [show (((ds.length : Nat) : Int) == 2) = (ds.length == 2) from ib_nat _ 2]; simpa using h2)]
      match ds, h2 with
      | [a, o], _ =>
      refine ⟨a, rfl, ?_⟩
      have pa := hp'.2 a (by simp)
      have po := hp'.2 o (by simp)
      have nva := pl_noVal k a pa
      have hso := hsh a o rfl
      cases a with
      | val _ => cases k <;> simp [D.pl] at pa
      | fz _ => cases k <;> simp [D.pl] at pa
      | tk _ => cases k <;> simp [D.pl] at pa
      | exc _ => cases k <;> simp [D.pl] at pa
      | glo _ => cases k <;> simp [D.pl] at pa
      | dk _ _ => cases k <;> simp [D.pl] at pa
      | dt _ _ => cases k <;> simp [D.pl] at pa
      | str z =>
        trivial
        simp only [nva, D.isFz, true_and, Bool.not_true, Bool.false_eq_true, if_false]
        unfold k13_law_due
        trivial
        unfold k12_law_due
        trivial
        refine ⟨by decide, rfl, rfl, ?_⟩
        have hin : (D.str z).isIn [D.str (Str.ofString "order"), D.str (Str.ofString "ring")] = (decide (z = Str.ofString "order") || decide (z = Str.ofString "ring")) := isin_strs z _ _
        rw [hin]
        by_cases hz : z = Str.ofString "order" ∨ z = Str.ofString "ring"
        rotate_left
        · rw [if_pos (by simpa using hz)]
          refine hQ _ _ ⟨fun z => by simp at z, ?_⟩
          rintro (⟨o', e, _⟩ | ⟨o', e, _⟩)
          · exact absurd (.inl (D.str.inj (List.cons.inj (D.tup.inj e)).1)) hz
          · exact absurd (.inr (D.str.inj (List.cons.inj (D.tup.inj e)).1)) hz
        rw [if_neg (by rcases hz with h | h <;> simp [h]), htl]
        refine ⟨n, o, k, rfl, po, hso, fun b fin hb => ?_⟩
        and_intros
        cases b with
        | false =>
          rw [if_pos (by decide)]
          refine hQ _ _ ⟨fun z => (by cases z), ?_⟩
          rintro (⟨o', e, ⟨R, e2, nd, hl, _⟩⟩ | ⟨o', e, ⟨R, e2, nd, hl, _⟩⟩)
          · have e := (List.cons.inj (List.cons.inj (D.tup.inj e)).2).1
            exact hb.2 ⟨R, e.trans e2, nd, fun x hx => by have := hl x hx; omega⟩
          · have e := (List.cons.inj (List.cons.inj (D.tup.inj e)).2).1
            exact hb.2 ⟨R, e.trans e2, nd, fun x hx => by have := hl x hx; omega⟩
        | true =>
          obtain ⟨R, rfl, nd, hl⟩ := hb.1 rfl
          have hl : ∀ x ∈ R, x < n := fun x hx => by have := hl x hx; omega
          rw [if_neg (by decide)]
          unfold k11_law_due
          trivial
          rcases hz with rfl | rfl
          · rw [if_neg (by decide)]
            refine k10_ok h24 nd hl ?_ ?_
            · intro env h
              refine hQ _ _ ⟨fun _ => .inl ⟨_, rfl, h⟩, fun _ => rfl⟩
            · intro env h
              refine hQ _ _ ⟨fun z => (by cases z), ?_⟩
              rintro (⟨o', e, h2⟩ | ⟨o', e, _⟩)
              · have e := (List.cons.inj (List.cons.inj (D.tup.inj e)).2).1
                subst e
                exact absurd h2 h
              · exact absurd (D.str.inj (List.cons.inj (D.tup.inj e)).1) (by decide)
          · rw [if_pos (by rfl)]
            refine f3_ok h24 nd hl ?_ ?_
            · intro env h
              refine hQ _ _ ⟨fun _ => .inr ⟨_, rfl, h⟩, fun _ => rfl⟩
            · intro env h
              refine hQ _ _ ⟨fun z => (by cases z), ?_⟩
              rintro (⟨o', e, _⟩ | ⟨o', e, h2⟩)
              · exact absurd (D.str.inj (List.cons.inj (D.tup.inj e)).1) (by decide)
              · have e := (List.cons.inj (List.cons.inj (D.tup.inj e)).2).1
                subst e
                exact absurd h2 h
      | _ =>
        trivial
        simp only [nva, D.isFz, true_and, Bool.not_false, if_true]
        exact hQ _ _ ⟨fun z => by simp at z, by rintro (⟨_, e, _⟩ | ⟨_, e, _⟩) <;> simp at e⟩
  | _ =>
    trivial
    simp only [nv, D.isFz, true_and, Bool.not_false, if_true]
    exact hQ _ _ ⟨fun z => by simp at z, by rintro (⟨_, e, _⟩ | ⟨_, e, _⟩) <;> simp at e⟩
def sp_law_bent : DSpec := fun args Q _ => ∃ (n : Nat) (a : Addr) (ds : List D) (w : Str) (o : List Nat) (many : Nat), args = [.lst a ds, .ext (.tup [.str w, .tup (nD o)]), dI (many : Nat)] ∧ (w = "order" ∨ w = "ring") ∧ JarOk n ds ∧ n + 4 < 4294967296 ∧ o.length ≤ 24 ∧ (∀ m ∈ o, m < 2 ^ 32) ∧ many < 2 ^ 32 ∧
  ∀ (d : D) ds' fin, Dc 4 200 d → JarOk (n + 4) ds' → Q (.ext d) (.lst a ds' :: fin)
def k1_law_bent : DTS :=
    (sRet (dTup (dCons (dVar 4) (dCons (dOp fIx (dVar 8) (dCallJ sp_law_dip 0 (dCons (dC (.int 5)) dNil))) dNil))))
def k2_law_bent : DTS :=
    (sRet (dTup (dCons (dOp fIx (dLst (dCons (dVar 9) (dCons (dC (.str (Str.ofString ""))) (dCons (dC .non) (dCons (dC (.str (Str.ofString "Order"))) (dCons (dC (.str (Str.ofString "rings"))) (dCons (dC (.int 5)) (dCons (dTup (dCons (dVar 4) dNil)) (dCons (dLst (dCons (dVar 4) dNil)) dNil))))))))) (dCallJ sp_law_dip 0 (dCons (dC (.int 8)) dNil))) (dCons (dVar 5) dNil))))
def k3_law_bent : DTS :=
    (sRet (dOp fIx (dVar 8) (dCallJ sp_law_dip 0 (dCons (dC (.int 9)) dNil))))
def k4_law_bent : DTS :=
    (sSetItem 10 (dVar 9) (dOp fIx (dVar 5) (dVar 11)))
def k5_law_bent : DTS :=
    (sSeq (sSetItem 10 (dVar 11) (dOp fIx (dVar 5) (dVar 9)))
    k4_law_bent)
def i6_law_bent : DTS :=
    (sSeq (sSetE 11 (dOp fMod (dVar 6) (dCB fLen (dCons (dVar 5) dNil))))
    k5_law_bent)
def k7_law_bent : DTS :=
    (sRet (dTup (dCons (dVar 4) (dCons (dCB fTuple (dCons (dVar 10) dNil)) dNil))))
def k8_law_bent : DTS :=
    (sSeq (sIf (dTest (dOp (fCmp fun i j => decide (j < i)) (dCB fLen (dCons (dVar 5) dNil)) (dC (.int 0)))) i6_law_bent sNext)
    k7_law_bent)
def k9_law_bent : DTS :=
    (sSeq (sSet 10 (dCB fList (dCons (dVar 5) dNil)))
    k8_law_bent)
def k10_law_bent : DTS :=
    (sSeq (sSetE 9 (dCallJ sp_law_dip 0 (dCons (dCB fMax (dCons (dC (.int 1)) (dCons (dCB fLen (dCons (dVar 5) dNil)) dNil))) dNil)))
    k9_law_bent)
def k11_law_bent : DTS :=
    (sSeq (sIf (dTest (dOp fEq (dVar 3) (dC (.int 5)))) (sSeq (sSetE 8 (dLst (dCons (dCB fList (dCons (dVar 1) dNil)) (dCons (dTup (dCons (dVar 4) dNil)) (dCons (dTup (dCons (dVar 4) (dCons (dVar 5) (dCons (dVar 5) dNil)))) (dCons (dTup (dCons (dVar 5) (dCons (dVar 4) dNil))) (dCons (dC .non) (dCons (dC (.int 5)) (dCons (dVar 4) (dCons (dTup (dCons (dVar 4) (dCons (dC .non) dNil))) (dCons (dTup dNil) dNil)))))))))))
    k3_law_bent) sNext)
    k10_law_bent)
def k12_law_bent : DTS :=
    (sSeq (sIf (dTest (dOp fEq (dVar 3) (dC (.int 4)))) (sSeq (sSetE 9 (dTableS [(Str.ofString "order", Str.ofString "ring"), (Str.ofString "ring", Str.ofString "order")] 4))
    k2_law_bent) sNext)
    k11_law_bent)
def k13_law_bent : DTS :=
    (sSeq (sIf (dTest (dOp fEq (dVar 3) (dC (.int 3)))) (sSeq (sSetE 8 (dLst (dCons (dCB fList (dCons (dVar 5) dNil)) (dCons (dOp fAdd (dSl (dVar 5) dNoPart (dPart (dVar 6))) (dSl (dVar 5) (dPart (dOp fAdd (dVar 6) (dC (.int 1)))) dNoPart)) (dCons (dOp fAdd (dVar 5) (dSl (dVar 5) dNoPart (dPart (dC (.int 1))))) (dCons (dStep (dVar 5) (dPart (dNeg (dC (.int 1))))) (dCons (dOp fAdd (dSl (dVar 5) (dPart (dVar 6)) dNoPart) (dSl (dVar 5) dNoPart (dPart (dVar 6)))) dNil)))))))
    k1_law_bent) sNext)
    k12_law_bent)
def k14_law_bent : DTS :=
    (sSeq (sIf (dTest (dOp (fCmp fun i j => decide (i < j)) (dVar 3) (dC (.int 3)))) (sRet (dTup (dCons (dVar 4) (dCons (dOp fAdd (dOp fAdd (dSl (dVar 5) dNoPart (dPart (dVar 6))) (dTup (dCons (dVar 7) dNil))) (dSl (dVar 5) (dPart (dOp fAdd (dVar 6) (dOp fMod (dVar 3) (dC (.int 2))))) dNoPart)) dNil)))) sNext)
    k13_law_bent)
def k15_law_bent : DTS :=
    (sSeq (sSetE 7 (dOp fIx (dLst (dCons (dVar 2) (dCons (dNeg (dC (.int 1))) (dCons (dC (.bl true)) (dCons (dC .non) (dCons (dC (.str (Str.ofString "0"))) (dCons (dTup (dCons (dC (.int 0)) dNil)) (dCons (dOp fPow (dC (.int 10)) (dC (.int 39))) (dCons (dC (.int 0)) (dCons (dC (.bl false)) (dCons (dOp fSub (dVar 2) (dC (.int 1))) (dCons (dLst (dCons (dC (.int 0)) dNil)) dNil)))))))))))) (dCallJ sp_law_dip 0 (dCons (dC (.int 11)) dNil))))
    k14_law_bent)
def k16_law_bent : DTS :=
    (sSeq (sSetE 6 (dCallJ sp_law_dip 0 (dCons (dOp fAdd (dCB fLen (dCons (dVar 5) dNil)) (dC (.int 1))) dNil)))
    k15_law_bent)
def k17_law_bent : DTS :=
    (sSeq (sAsg (dVar 1) (gTupD 2 (gsCons (gSet 4) (gsCons (gSet 5) gsNil))))
    k16_law_bent)
def t_law_bent : DTS :=
    (sSeq (sSetE 3 (dCallJ sp_law_dip 0 (dCons (dC (.int 8)) dNil)))
    k17_law_bent)
theorem m_law_bent : Meets t_law_bent 3 9 sp_law_bent := by
  rintro args Qd Xd ⟨n, a, ds, w, o, many, rfl, hw, hj, hn, hl, hs, hm, hQ⟩
  have hD : Dcs 1 24 (nD o) := (Dcs.nats fun m hm' => by have := hs m hm'; omega).mono hl
  have cl : ∀ lo hi, (cutD (nD o) lo hi).length ≤ 24 := fun lo hi => (hD.cut lo hi).len
  have s1 : ∀ k, k ≤ 100 → k ≤ sizeLine := fun k h => Nat.le_trans h (by decide)
  have hW : Dc 3 10 (.str w) := by rcases hw with rfl | rfl <;> exact Dc.str
  show t_law_bent _ _ [_, _, _, .un, .un, .un, .un, .un, .un, .un, .un, .un]
  unfold t_law_bent
  and_intros
  refine ⟨n, a, ds, 8, rfl, hj, by omega, by decide, by decide, fun way ds1 fin r0 r1 hj1 => ?_⟩
  and_intros
  unfold k17_law_bent
  and_intros
  unfold k16_law_bent
  and_intros
  rw [nD_len]
  refine ⟨n + 1, a, ds1, (o.length : Nat) + 1, rfl, hj1, by omega, by omega, by omega, fun at' ds2 fin w0 w1 hj2 => ?_⟩
  obtain ⟨at', rfl⟩ := Int.eq_ofNat_of_zero_le w0
  and_intros
  unfold k15_law_bent
  and_intros
  refine ⟨by decide, ⟨by decide, by decide, by decide⟩, by decide, by decide, fun b6 => ?_⟩
  refine ⟨n + 2, a, ds2, 11, rfl, hj2, by omega, by decide, by decide, fun r ds3 fin r0 r1 hj3 => ?_⟩
  have hodd : ∀ o ∈ [D.int (many : Nat), D.int (-1), D.bl true, D.non, D.str (Str.ofString "0"), D.tup [D.int 0], D.int (10 ^ Int.toNat 39), D.int 0, D.bl false, D.int ((many : Int) - 1), D.lst [D.int 0]], Dc 1 2 o :=
    allMem (Dc.nat (by omega)) <| allMem (Dc.int (by decide +kernel)) <| allMem Dc.bl <| allMem Dc.non <| allMem Dc.str <| allMem (Dc.t1 (Dc.int (n := 0) (i := 0) (by decide +kernel))) <| allMem (Dc.int e39) <| allMem (Dc.int (by decide +kernel)) <| allMem Dc.bl <| allMem (Dc.int (Nat.lt_of_lt_of_le (by omega : _ < 2 ^ 33) (by decide +kernel))) <| allMem (Dc.l1 (Dc.int (n := 0) (i := 0) (by decide +kernel))) allNil
  have hl11 : ([D.int (many : Nat), D.int (-1), D.bl true, D.non, D.str (Str.ofString "0"), D.tup [D.int 0], D.int (10 ^ Int.toNat 39), D.int 0, D.bl false, D.int ((many : Int) - 1), D.lst [D.int 0]]).length = 11 := rfl
  generalize [D.int (many : Nat), D.int (-1), D.bl true, D.non, D.str (Str.ofString "0"), D.tup [D.int 0], D.int (10 ^ Int.toNat 39), D.int 0, D.bl false, D.int ((many : Int) - 1), D.lst [D.int 0]] = odds at hodd hl11 ⊢
  and_intros
  obtain ⟨od, ho, hom⟩ := atI_mem (xs := odds) r0 (by omega)
  refine ⟨od, ho, ?_⟩
  and_intros
  have hdo := hodd od hom
  unfold k14_law_bent
  and_intros
  have hO : Dc 2 24 (.tup (nD o)) := Dc.tup hD
  have c1 := cl none (some (at' : Nat))
  have c2 := cl (some (at' : Nat)) none
  have c3 := cl (some ((at' : Nat) + way % 2)) none
  have c4 := cl (some ((at' : Nat) + 1)) none
  have c5 := cl none (some 1)
  have ec : ∀ (l : List D), (l ++ [od]).length = l.length + 1 := fun l => by simp
  by_cases h3 : way < 3
  · rw [if_pos h3]
    and_intros
    refine ⟨by decide, s1 _ (by omega), by decide, s1 _ (by rw [ec]; omega), by decide, ?_⟩
    exact hQ _ _ _ (Dc.t2 hW (Dc.up (Dc.tup (((hD.cut none (some (at' : Nat))).app (Dcs.one (m := 3) hdo)).app (hD.cut (some ((at' : Nat) + way % 2)) none))))) (hj3.up (by omega))
  rw [if_neg h3]
  unfold k13_law_bent
  and_intros
  by_cases h3 : way = 3
  · rw [if_pos (by simpa using h3)]
    refine ⟨s1 _ (by omega), s1 _ (by rw [nD_len]; omega), s1 _ (by omega), by decide, ?_⟩
    unfold k1_law_bent
    and_intros
    refine ⟨n + 3, a, ds3, 5, rfl, hj3, by omega, by decide, by decide, fun r ds4 fin r0 r1 hj4 => ?_⟩
    have hal : ∀ x ∈ [D.lst (nD o), D.tup (cutD (nD o) none (some (at' : Nat)) ++ cutD (nD o) (some ((at' : Nat) + 1)) none), D.tup (nD o ++ cutD (nD o) none (some 1)), D.tup (nD o).reverse, D.tup (cutD (nD o) (some (at' : Nat)) none ++ cutD (nD o) none (some (at' : Nat)))], Dc 2 60 x :=
      allMem ((Dc.lst hD).mono (by decide)) <| allMem ((Dc.tup ((hD.cut _ _).app (hD.cut _ _))).mono (by decide)) <| allMem ((Dc.tup (hD.app (hD.cut _ _))).mono (by decide)) <| allMem ((Dc.tup hD.rev).mono (by decide)) <| allMem ((Dc.tup ((hD.cut _ _).app (hD.cut _ _))).mono (by decide)) allNil
    have hl5 : [D.lst (nD o), D.tup (cutD (nD o) none (some (at' : Nat)) ++ cutD (nD o) (some ((at' : Nat) + 1)) none), D.tup (nD o ++ cutD (nD o) none (some 1)), D.tup (nD o).reverse, D.tup (cutD (nD o) (some (at' : Nat)) none ++ cutD (nD o) none (some (at' : Nat)))].length = 5 := rfl
    generalize [D.lst (nD o), D.tup (cutD (nD o) none (some (at' : Nat)) ++ cutD (nD o) (some ((at' : Nat) + 1)) none), D.tup (nD o ++ cutD (nD o) none (some 1)), D.tup (nD o).reverse, D.tup (cutD (nD o) (some (at' : Nat)) none ++ cutD (nD o) none (some (at' : Nat)))] = xs at hal hl5 ⊢
    and_intros
    obtain ⟨x, hx, hxm⟩ := atI_mem (xs := xs) r0 (by omega)
    refine ⟨x, hx, ?_⟩
    and_intros
    exact ⟨by decide, hQ _ _ _ (Dc.t2 hW (Dc.up (hal x hxm))) (hj4.up (by omega))⟩
  rw [if_neg (by simpa using h3)]
  unfold k12_law_bent
  and_intros
  by_cases h4 : way = 4
  · rw [if_pos (by simpa using h4)]
    obtain ⟨v, hv, hvW⟩ : ∃ v : Str, List.lookup w [(Str.ofString "order", Str.ofString "ring"), (Str.ofString "ring", Str.ofString "order")] = some v ∧ Dc 3 10 (.str v) := by
      rcases hw with rfl | rfl
      · exact ⟨Str.ofString "ring", rfl, Dc.str⟩
      · exact ⟨Str.ofString "order", rfl, Dc.str⟩
    refine ⟨v, hv, ?_⟩
    unfold k2_law_bent
    and_intros
    refine ⟨by decide, by decide, by decide, fun b8 => ?_⟩
    refine ⟨n + 3, a, ds3, 8, rfl, hj3, by omega, by decide, by decide, fun r ds4 fin r0 r1 hj4 => ?_⟩
    have hW2 : Dc 2 10 (.str w) := by rcases hw with rfl | rfl <;> exact Dc.str
    have hal : ∀ x ∈ [D.str v, D.str (Str.ofString ""), D.non, D.str (Str.ofString "Order"), D.str (Str.ofString "rings"), D.int 5, D.tup [D.str w], D.lst [D.str w]], Dc 3 20 x :=
      allMem (hvW.mono (by decide)) <| allMem Dc.str <| allMem Dc.non <| allMem Dc.str <| allMem Dc.str <| allMem (Dc.int (by decide +kernel)) <| allMem (Dc.t1 hW2) <| allMem (Dc.l1 hW2) allNil
    have hl8 : [D.str v, D.str (Str.ofString ""), D.non, D.str (Str.ofString "Order"), D.str (Str.ofString "rings"), D.int 5, D.tup [D.str w], D.lst [D.str w]].length = 8 := rfl
    generalize [D.str v, D.str (Str.ofString ""), D.non, D.str (Str.ofString "Order"), D.str (Str.ofString "rings"), D.int 5, D.tup [D.str w], D.lst [D.str w]] = xs at hal hl8 ⊢
    and_intros
    obtain ⟨x, hx, hxm⟩ := atI_mem (xs := xs) r0 (by omega)
    refine ⟨x, hx, ?_⟩
    and_intros
    exact ⟨by decide, hQ _ _ _ (Dc.t2 (hal x hxm) (Dc.up hO)) (hj4.up (by omega))⟩
  rw [if_neg (by simpa using h4)]
  unfold k11_law_bent
  and_intros
  by_cases h5 : way = 5
  · rw [if_pos (by simpa using h5)]
    refine ⟨by decide, by decide, by decide, by decide, by decide, by decide, ?_⟩
    unfold k3_law_bent
    and_intros
    refine ⟨n + 3, a, ds3, 9, rfl, hj3, by omega, by decide, by decide, fun r ds4 fin r0 r1 hj4 => ?_⟩
    have hO3 : Dc 3 24 (.tup (nD o)) := Dc.up hO
    have hal : ∀ x ∈ [D.lst [D.str w, D.tup (nD o)], D.tup [D.str w], D.tup [D.str w, D.tup (nD o), D.tup (nD o)], D.tup [D.tup (nD o), D.str w], D.non, D.int 5, D.str w, D.tup [D.str w, D.non], D.tup []], Dc 4 200 x :=
      allMem (Dc.l2 hW hO3) <| allMem (Dc.t1 hW) <| allMem (Dc.t3 hW hO3 hO3) <| allMem (Dc.t2 hO3 hW) <| allMem Dc.non <| allMem (Dc.int (by decide +kernel)) <| allMem ((Dc.up hW).mono (by decide)) <| allMem (Dc.t2 hW (Dc.non (n := 0))) <| allMem Dc.t0 allNil
    have hl9 : [D.lst [D.str w, D.tup (nD o)], D.tup [D.str w], D.tup [D.str w, D.tup (nD o), D.tup (nD o)], D.tup [D.tup (nD o), D.str w], D.non, D.int 5, D.str w, D.tup [D.str w, D.non], D.tup []].length = 9 := rfl
    generalize [D.lst [D.str w, D.tup (nD o)], D.tup [D.str w], D.tup [D.str w, D.tup (nD o), D.tup (nD o)], D.tup [D.tup (nD o), D.str w], D.non, D.int 5, D.str w, D.tup [D.str w, D.non], D.tup []] = xs at hal hl9 ⊢
    and_intros
    obtain ⟨x, hx, hxm⟩ := atI_mem (xs := xs) r0 (by omega)
    refine ⟨x, hx, ?_⟩
    and_intros
    exact hQ _ _ _ (hal x hxm) (hj4.up (by omega))
  rw [if_neg (by simpa using h5)]
  unfold k10_law_bent
  and_intros
  rw [nD_len]
  obtain ⟨q, hq, hq0, hq1⟩ : ∃ q : Nat, (if ((o.length : Nat) : Int) > 1 then ((o.length : Nat) : Int) else 1) = (q : Nat) ∧ 0 < q ∧ (0 < o.length → q = o.length) := by
    split
    · exact ⟨o.length, rfl, by omega, fun _ => rfl⟩
    · exact ⟨1, rfl, by decide, fun _ => by omega⟩
  have hq25 : q ≤ 25 := by
    rcases Nat.eq_zero_or_pos o.length with e | e
    · split at hq <;> omega
    · have := hq1 e; omega
  rw [hq]
  refine ⟨n + 3, a, ds3, (q : Nat), rfl, hj3, by omega, by omega, by omega, fun r ds4 fin r0 r1 hj4 => ?_⟩
  obtain ⟨r, rfl⟩ := Int.eq_ofNat_of_zero_le r0
  and_intros
  unfold k9_law_bent
  and_intros
  intro b10
  unfold k8_law_bent
  and_intros
  rw [nD_len]
  have fin7 : ∀ (bk : List Nat) u9 u11, bk.length = o.length → (∀ x ∈ bk, x ∈ o) → k7_law_bent (exOf [.lst a ds, .ext (.tup [.str w, .tup (nD o)]), dI (many : Nat)] Xd) (endsOf [.lst a ds, .ext (.tup [.str w, .tup (nD o)]), dI (many : Nat)] Qd) [.lst a ds4, .ext (.tup [.str w, .tup (nD o)]), .ext (.int (many : Nat)), .ext (.int way), .ext (.str w), .ext (.tup (nD o)), .ext (.int (at' : Nat)), .ext od, .un, u9, .lst b10 (nD bk), u11] := fun bk u9 u11 hbl hbm => by
    unfold k7_law_bent
    and_intros
    refine ⟨by decide, hQ _ _ _ (Dc.t2 hW (Dc.up (Dc.tup (n := 24) ((Dcs.nats fun m hm' => by have := hs m (hbm m hm'); omega).mono (by omega))))) (hj4.up (by omega))⟩
  by_cases h0 : 0 < o.length
  rotate_left
  · rw [if_neg (by omega)]
    exact fin7 o _ _ rfl fun x hx => hx
  rw [if_pos (by omega)]
  have hqo := hq1 h0
  unfold i6_law_bent
  and_intros
  rw [nD_len]
  refine ⟨by omega, ?_⟩
  have hro : r < o.length := by omega
  have hh : at' % o.length < o.length := Nat.mod_lt _ h0
  rw [show ((at' : Nat) : Int) % ((o.length : Nat) : Int) = ((at' % o.length : Nat) : Int) from (Int.natCast_emod _ _).symm]
  generalize at' % o.length = here at hh ⊢
  have g1 := List.getElem?_eq_getElem hro
  have g2 := List.getElem?_eq_getElem hh
  have m1 := List.getElem_mem hro
  have m2 := List.getElem_mem hh
  generalize o[r] = x at g1 m1
  generalize o[here] = y at g2 m2
  unfold k5_law_bent sSeq
  and_intros
  refine ⟨_, atN (nth_at g1), ?_⟩
  and_intros
  refine ⟨here, ixN_nat (by rw [nD_len]; exact hh), ?_⟩
  unfold k4_law_bent
  and_intros
  refine ⟨_, atN (nth_at g2), ?_⟩
  and_intros
  refine ⟨r, ixN_nat (by rw [List.length_set, nD_len]; exact hro), ?_⟩
  and_intros
  rw [show ((nD o).set here (D.int (x : Nat))).set r (D.int (y : Nat)) = nD ((o.set here x).set r y) by unfold nD; rw [List.map_set, List.map_set]]
  refine fin7 _ _ _ (by rw [List.length_set, List.length_set]) fun z hz => ?_
  rcases List.mem_or_eq_of_mem_set hz with h | h
  · rcases List.mem_or_eq_of_mem_set h with h | h
    · exact h
    · rw [h]; exact m1
  · rw [h]; exact m2
theorem short_of {d : D} (h : Dc 4 200 d) : ∀ a o, d = .tup [a, o] → ShortT o := fun a o e ds e2 => by
  subst e
  subst e2
  have hb := h.bk
  have this : ∀ l : List D, l.length ≤ PyData.bulkAll (D.pys l) := fun l => by
    induction l with
    | nil => exact Nat.zero_le _
    | cons d l ih => simp only [D.pys, PyData.bulkAll, List.length_cons]; omega
  have h1 := this ds
  have h2 : (D.tup [a, .tup ds]).py.bulk = PyData.bulkAll (D.pys [a, .tup ds]) := by simp only [D.py, PyData.bulk]
  rw [h2] at hb
  simp only [D.pys, D.py, PyData.bulkAll, PyData.bulk] at hb
  omega
def e1_law : DT :=
    (dOp fMod (dOp fAdd (dVar 8) (dOp fIx (dVar 6) (dC (.int 0)))) (dVar 5))
def k2_law : DTS :=
    (sIf (dOr (dNot (dTest (dCB fIsi (dCons (dVar 13) (dCons (dC (.val (.ty "bool"))) dNil))))) (dOr (dTest (dOp fNe (dVar 13) (dCall sp_law_due (dCons (dVar 4) (dCons (dVar 11) dNil))))) (dTest (dOp fNe (dCB fRepr (dCons (dVar 11) dNil)) (dVar 12))))) (sRet (dC (.bl false))) sNext)
def k3_law : DTS :=
    (sSeq (sSetE 13 (dCall sp_is_no_new (dCons (dVar 3) (dCons (dVar 11) dNil))))
    k2_law)
def k4_law : DTS :=
    (sSeq (sSetE 12 (dCB fRepr (dCons (dVar 11) dNil)))
    k3_law)
def b5_law : DTS :=
    (sSeq (sSetE 11 (dIf (dTest (dOp fEq (dVar 8) (dC (.int 0)))) (dVar 10) (dCallJ sp_law_bent 1 (dCons (dVar 10) (dCons (dVar 5) dNil)))))
    k4_law)
def b6_law : DTS :=
    (sFor (dRange1 (dCons (dC (.int 6)) dNil)) (gSet 8) b5_law)
def k7_law : DTS :=
    (sFor (dSeq (dLst (dCons (dCall sp_no_new_ties (dCons (dVar 3) dNil)) (dCons (dTup (dCons (dC (.str (Str.ofString "order"))) (dCons (dVar 6) dNil))) (dCons (dVar 9) (dCons (dVar 7) dNil)))))) (gSet 10) b6_law)
def k8_law : DTS :=
    (sSeq (sSetE 9 (dTup (dCons (dC (.str (Str.ofString "ring"))) (dCons (dSl (dVar 6) dNoPart (dPart (dCallJ sp_law_dip 1 (dCons (dOp fAdd (dVar 5) (dC (.int 1))) dNil)))) dNil))))
    k7_law)
def k9_law : DTS :=
    (sSeq (sSetE 7 (dTup (dCons (dC (.str (Str.ofString "ring"))) (dCons (dCB fTuple (dCons (dLc (dRange1 (dCons (dVar 5) dNil)) (gSet 8) dYes e1_law [8]) dNil)) dNil))))
    k8_law)
def k10_law : DTS :=
    (sSeq (sSetE 6 (dCallJ sp_law_order 1 (dCons (dLstRg (dRg1 (dVar 5))) dNil)))
    k9_law)
def k11_law : DTS :=
    (sSeq (sSetE 5 (dCB fLen (dCons (dVar 4) dNil)))
    k10_law)
def k12_law : DTS :=
    (sSeq (sSetE 4 (dCall sp_law_tied (dCons (dVar 3) dNil)))
    k11_law)
def b13_law : DTS :=
    (sSeq (sSetE 3 (dCallJ sp_law_web 1 (dCons (dOp fIx (dLst (dCons (dC (.int 8)) (dCons (dC (.int 12)) dNil))) (dOp fDiv (dVar 2) (dC (.int 3)))) dNil)))
    k12_law)
def k14_law : DTS :=
    (sRet (dC (.bl true)))
def k15_law : DTS :=
    (sSeq (sFor (dRange1 (dCons (dC (.int 4)) dNil)) (gSet 2) b13_law)
    k14_law)
def t_law : DTS :=
    (sSeq (sSet 1 (dCall sp_law_jar (dCons (dVar 0) dNil)))
    k15_law)
def RightT (d : D) : Prop := ∃ (w : Str) (o : List Nat), d = .tup [.str w, .tup (nD o)] ∧ (w = "order" ∨ w = "ring") ∧ o.length ≤ 24 ∧ ∀ m ∈ o, m < 24
theorem b5_ok {Ex : DX} {E : DEnds} {d0 : D} {a : Addr} {ds : List D} {u2 : Sl} {S : List Nat} {ps : List Part} {d6 d7 d9 d : D} {k : Nat} {u11 u12 u13 : Sl} {n : Nat} (hj : JarOk n ds) (hn : n + 10 < 4294967296) (ok : NsOk S ps) (hR : RightT d)
    (hE : ∀ ds' u11 u12 u13, JarOk (n + 4) ds' → E.nx [.ext d0, .lst a ds', u2, .ext (dSh S ps), .ext (tiD S.length (gsOf ps)), dI (S.length : Nat), .ext d6, .ext d7, dI (k : Nat), .ext d9, .ext d, u11, u12, u13]) :
    b5_law Ex E [.ext d0, .lst a ds, u2, .ext (dSh S ps), .ext (tiD S.length (gsOf ps)), dI (S.length : Nat), .ext d6, .ext d7, dI (k : Nat), .ext d9, .ext d, u11, u12, u13] := by
  obtain ⟨w, o, rfl, hw, hol, hom⟩ := hR
  have h24 := ok.few
  have k4 : ∀ (t : D) ds', Dc 4 200 t → JarOk (n + 4) ds' → k4_law Ex E [.ext d0, .lst a ds', u2, .ext (dSh S ps), .ext (tiD S.length (gsOf ps)), dI (S.length : Nat), .ext d6, .ext d7, dI (k : Nat), .ext d9, .ext (.tup [.str w, .tup (nD o)]), .ext t, u12, u13] := fun t ds' ht hj' => by
    have hsh := short_of ht
    unfold k4_law
    and_intros
    refine ⟨ht.sh (by decide) (by decide), ?_⟩
    unfold k3_law
    and_intros
    refine ⟨S, ps, t, 4, rfl, ok, ht.pl, hsh, fun b fin hb => ?_⟩
    and_intros
    unfold k2_law
    and_intros
    refine ⟨rfl, rfl, ?_⟩
    rw [if_neg (by decide)]
    refine ⟨S.length, gsOf ps, t, 4, rfl, h24, ht.pl, hsh, fun b2 fin2 hb2 => ?_⟩
    have hbb : b2 = b := by rw [Bool.eq_iff_iff, hb2, hb]
    subst hbb
    and_intros
    rw [if_neg (by cases b2 <;> decide)]
    refine ⟨ht.sh (by decide) (by decide), ?_⟩
    rw [if_neg (by simp)]
    exact hE _ _ _ _ hj'
  unfold b5_law
  and_intros
  by_cases hk : k = 0
  · rw [if_pos (by simp; omega)]
    exact k4 _ ds (Dc.t2 (k := 3) (n := 10) (n' := 24) (by rcases hw with rfl | rfl <;> exact Dc.str) (Dc.up (Dc.tup ((Dcs.nats fun m hm' => by have := hom m hm'; omega).mono hol)))) (hj.up (by omega))
  · rw [if_neg (by simp; omega)]
    refine ⟨n, a, ds, w, o, S.length, rfl, hw, hj, by omega, hol, fun m hm => by have := hom m hm; omega, by omega, fun t ds2 fin ht hj2 => ?_⟩
    and_intros
    exact k4 t ds2 ht hj2
theorem b6_ok {Ex : DX} {E : DEnds} {d0 : D} {a : Addr} {ds : List D} {u2 : Sl} {S : List Nat} {ps : List Part} {d6 d7 d9 d : D} {u8 u11 u12 u13 : Sl} {n : Nat} (hj : JarOk n ds) (hn : n + 100 < 4294967296) (ok : NsOk S ps) (hR : RightT d)
    (hE : ∀ ds' u8 u11 u12 u13, JarOk (n + 24) ds' → E.nx [.ext d0, .lst a ds', u2, .ext (dSh S ps), .ext (tiD S.length (gsOf ps)), dI (S.length : Nat), .ext d6, .ext d7, u8, .ext d9, .ext d, u11, u12, u13]) :
    b6_law Ex E [.ext d0, .lst a ds, u2, .ext (dSh S ps), .ext (tiD S.length (gsOf ps)), dI (S.length : Nat), .ext d6, .ext d7, u8, .ext d9, .ext d, u11, u12, u13] := by
  unfold b6_law
  and_intros
  refine ⟨⟨by decide, by decide⟩, ?_⟩
  rw [show rgD 0 6 = nD (List.range 6) from rgD_nat 6]
  refine for_ind (fun i : Nat => D.int (i : Nat)) (fun is env => ∃ (n' : Nat) (ds' : List D) (u8 u11 u12 u13 : Sl), env = [.ext d0, .lst a ds', u2, .ext (dSh S ps), .ext (tiD S.length (gsOf ps)), dI (S.length : Nat), .ext d6, .ext d7, u8, .ext d9, .ext d, u11, u12, u13] ∧ JarOk n' ds' ∧ n' + is.length * 4 ≤ n + 24) ?_ ?_ (List.range 6) _ ⟨n, ds, _, _, _, _, rfl, hj, by rw [List.length_range]; exact Nat.le_refl _⟩
  · rintro env ⟨n', ds', u8, u11, u12, u13, rfl, hj', hn'⟩
    exact ⟨True.intro, hE _ _ _ _ _ (hj'.up (by omega))⟩
  rintro q is env N ⟨n', ds', u8, u11, u12, u13, rfl, hj', hn'⟩ hN
  rw [List.length_cons] at hn'
  refine ⟨True.intro, ?_⟩
  exact b5_ok hj' (by omega) ok hR fun ds2 u11 u12 u13 hj2 => hN _ ⟨n' + 4, ds2, _, _, _, _, rfl, hj2, by omega⟩
theorem k7_ok {Ex : DX} {E : DEnds} {d0 : D} {a : Addr} {ds : List D} {u2 : Sl} {S : List Nat} {ps : List Part} {o r1 r2 : List Nat} {u8 u10 u11 u12 u13 : Sl} {n : Nat} (hj : JarOk n ds) (hn : n + 1000 < 4294967296) (ok : NsOk S ps) (h1 : RightT (.tup [.str (Str.ofString "order"), .tup (nD o)])) (h2 : RightT (.tup [.str (Str.ofString "ring"), .tup (nD r1)])) (h3 : RightT (.tup [.str (Str.ofString "ring"), .tup (nD r2)]))
    (hE : ∀ ds' u8 u10 u11 u12 u13, JarOk (n + 100) ds' → E.nx [.ext d0, .lst a ds', u2, .ext (dSh S ps), .ext (tiD S.length (gsOf ps)), dI (S.length : Nat), .ext (.tup (nD o)), .ext (.tup [.str (Str.ofString "ring"), .tup (nD r1)]), u8, .ext (.tup [.str (Str.ofString "ring"), .tup (nD r2)]), u10, u11, u12, u13]) :
    k7_law Ex E [.ext d0, .lst a ds, u2, .ext (dSh S ps), .ext (tiD S.length (gsOf ps)), dI (S.length : Nat), .ext (.tup (nD o)), .ext (.tup [.str (Str.ofString "ring"), .tup (nD r1)]), u8, .ext (.tup [.str (Str.ofString "ring"), .tup (nD r2)]), u10, u11, u12, u13] := by
  have h24 := ok.few
  have loop : ∀ d1 : D, RightT d1 → forD (gSet 10) b6_law (fun _ => True) Ex E [d1, .tup [.str (Str.ofString "order"), .tup (nD o)], .tup [.str (Str.ofString "ring"), .tup (nD r2)], .tup [.str (Str.ofString "ring"), .tup (nD r1)]] [.ext d0, .lst a ds, u2, .ext (dSh S ps), .ext (tiD S.length (gsOf ps)), dI (S.length : Nat), .ext (.tup (nD o)), .ext (.tup [.str (Str.ofString "ring"), .tup (nD r1)]), u8, .ext (.tup [.str (Str.ofString "ring"), .tup (nD r2)]), u10, u11, u12, u13] := fun d1 hd1 => by
    have hall : ∀ x ∈ [d1, D.tup [.str (Str.ofString "order"), .tup (nD o)], .tup [.str (Str.ofString "ring"), .tup (nD r2)], .tup [.str (Str.ofString "ring"), .tup (nD r1)]], RightT x := allMem hd1 <| allMem h1 <| allMem h3 <| allMem h2 allNil
    have hlen : [d1, D.tup [.str (Str.ofString "order"), .tup (nD o)], .tup [.str (Str.ofString "ring"), .tup (nD r2)], .tup [.str (Str.ofString "ring"), .tup (nD r1)]].length = 4 := rfl
    generalize [d1, D.tup [.str (Str.ofString "order"), .tup (nD o)], .tup [.str (Str.ofString "ring"), .tup (nD r2)], .tup [.str (Str.ofString "ring"), .tup (nD r1)]] = xs at hall hlen
    have := for_ind (g := gSet 10) (body := b6_law) (keep := fun _ => True) (Ex := Ex) (E := E) (fun d : D => d) (fun is env => ∃ (n' : Nat) (ds' : List D) (u8 u10 u11 u12 u13 : Sl), env = [.ext d0, .lst a ds', u2, .ext (dSh S ps), .ext (tiD S.length (gsOf ps)), dI (S.length : Nat), .ext (.tup (nD o)), .ext (.tup [.str (Str.ofString "ring"), .tup (nD r1)]), u8, .ext (.tup [.str (Str.ofString "ring"), .tup (nD r2)]), u10, u11, u12, u13] ∧ JarOk n' ds' ∧ n' + is.length * 24 ≤ n + 100 ∧ ∀ x ∈ is, RightT x) ?_ ?_ xs _ ⟨n, ds, u8, u10, u11, u12, u13, rfl, hj, by omega, hall⟩
    · rwa [List.map_id'] at this
    · rintro env ⟨n', ds', u8, u10, u11, u12, u13, rfl, hj', hn', _⟩
      exact ⟨True.intro, hE _ _ _ _ _ _ (hj'.up (by omega))⟩
    rintro q is env N ⟨n', ds', u8, u10, u11, u12, u13, rfl, hj', hn', hal⟩ hN
    rw [List.length_cons] at hn'
    refine ⟨True.intro, ?_⟩
    exact b6_ok hj' (by omega) ok (hal q List.mem_cons_self) fun ds2 u8 u11 u12 u13 hj2 => hN _ ⟨n' + 24, ds2, _, _, _, _, _, rfl, hj2, by omega, fun x hx => hal x (List.mem_cons_of_mem _ hx)⟩
  unfold k7_law
  and_intros
  refine ⟨S, ps, rfl, ok, fun ord fin nd ho hlt _ => ?_, fun R fin G hlt => ?_⟩
  · and_intros
    refine ⟨by decide, by decide, ?_⟩
    exact loop _ ⟨_, ord, rfl, .inl rfl, by omega, fun m hm => by have := hlt m hm; omega⟩
  · and_intros
    refine ⟨by decide, by decide, ?_⟩
    exact loop _ ⟨_, R, rfl, .inr rfl, by have := nodup_le G.nd hlt; omega, fun m hm => by have := hlt m hm; omega⟩
theorem k8_ok {Ex : DX} {E : DEnds} {d0 : D} {a : Addr} {ds : List D} {u2 : Sl} {S : List Nat} {ps : List Part} {o rg : List Nat} {u8 u9 u10 u11 u12 u13 : Sl} {n : Nat} (hj3 : JarOk n ds) (hn : n + 2000 < 4294967296) (ok : NsOk S ps) (hS0 : 0 < S.length) (hol : o.length = S.length) (hom : ∀ m ∈ o, m < S.length) (hrl : rg.length = S.length) (hrm : ∀ m ∈ rg, m < S.length)
    (hE : ∀ ds' u7 u8 u9 u10 u11 u12 u13, JarOk (n + 200) ds' → E.nx [.ext d0, .lst a ds', u2, .ext (dSh S ps), .ext (tiD S.length (gsOf ps)), dI (S.length : Nat), .ext (.tup (nD o)), u7, u8, u9, u10, u11, u12, u13]) :
    k8_law Ex E [.ext d0, .lst a ds, u2, .ext (dSh S ps), .ext (tiD S.length (gsOf ps)), dI (S.length : Nat), .ext (.tup (nD o)), .ext (.tup [.str (Str.ofString "ring"), .tup (nD rg)]), u8, u9, u10, u11, u12, u13] := by
  have h24 := ok.few
  unfold k8_law
  and_intros
  refine ⟨n, a, ds, (S.length : Nat) + 1, rfl, hj3, by omega, by omega, by omega, fun cut ds4 fin c0 c1 hj4 => ?_⟩
  obtain ⟨cut, rfl⟩ := Int.eq_ofNat_of_zero_le c0
  and_intros
  rw [cutT_nat]
  refine ⟨by decide, ?_⟩
  refine k7_ok hj4 (by omega) ok ⟨_, o, rfl, .inl rfl, by omega, fun m hm => by have := hom m hm; omega⟩ ⟨_, rg, rfl, .inr rfl, by omega, fun m hm => by have := hrm m hm; omega⟩ ⟨_, _, rfl, .inr rfl, Nat.le_trans (List.length_take_le' _ _) (by omega), fun m hm => by have := hom m (List.mem_of_mem_take hm); omega⟩ fun ds' u8 u10 u11 u12 u13 hj' => hE _ _ _ _ _ _ _ _ (hj'.up (by omega))
theorem tup_lc {ti : DTI} {g : DTG} {tt : DTT} {te : DT} {vs : List Nat} {z : Str} {Ex : DX} {env : Env'} {Q : Sl → Env' → Prop}
    (h : ti Ex env fun items keep env1 => lcD g tt te vs keep (fun x env1 => wds env1 [x] fun es => fTuple es fun sl => 0 + 1 + 1 ≤ sizeLine ∧ frzDs env1 [.ext (.str z), sl] fun ds env2 => Q (.ext (.tup ds)) env2) items [] (wipeE env1 vs)) :
    dTup (dCons (dC (.str z)) (dCons (dCB fTuple (dCons (dLc ti g tt te vs) dNil)) dNil)) Ex env Q := h
theorem k9_ok {Ex : DX} {E : DEnds} {d0 : D} {a : Addr} {ds : List D} {u2 : Sl} {S : List Nat} {ps : List Part} {o : List Nat} {u7 u8 u9 u10 u11 u12 u13 : Sl} {n : Nat} (hj3 : JarOk n ds) (hn : n + 2000 < 4294967296) (ok : NsOk S ps) (hS0 : 0 < S.length) (hol : o.length = S.length) (hom : ∀ m ∈ o, m < S.length)
    (hE : ∀ ds' u7 u8 u9 u10 u11 u12 u13, JarOk (n + 200) ds' → E.nx [.ext d0, .lst a ds', u2, .ext (dSh S ps), .ext (tiD S.length (gsOf ps)), dI (S.length : Nat), .ext (.tup (nD o)), u7, u8, u9, u10, u11, u12, u13]) :
    k9_law Ex E [.ext d0, .lst a ds, u2, .ext (dSh S ps), .ext (tiD S.length (gsOf ps)), dI (S.length : Nat), .ext (.tup (nD o)), u7, u8, u9, u10, u11, u12, u13] := by
  have h24 := ok.few
  unfold k9_law
  refine tup_lc (Q := fun x env1 => frzD env1 x fun d env2 => k8_law Ex E (env2.set 7 (.ext d))) ?_
  show small62 ((S.length : Nat) : Int) ∧ lcD (gSet 8) dYes e1_law [8] (fun _ => True) (fun x env1 => wds env1 [x] fun es => fTuple es fun sl => 0 + 1 + 1 ≤ sizeLine ∧ frzDs env1 [.ext (.str (Str.ofString "ring")), sl] fun ds env2 => frzD env2 (.ext (.tup ds)) fun d env2 => k8_law Ex E (env2.set 7 (.ext d))) (rgD 0 ((S.length : Nat) : Int)) [] [.ext d0, .lst a ds, u2, .ext (dSh S ps), .ext (tiD S.length (gsOf ps)), dI (S.length : Nat), .ext (.tup (nD o)), u7, .un, u9, u10, u11, u12, u13]
  rw [rgD_nat]
  refine ⟨⟨by omega, by omega⟩, ?_⟩
  obtain ⟨o0, ho0⟩ : ∃ o0, o[0]? = some o0 := ⟨_, List.getElem?_eq_getElem (by omega)⟩
  refine lc_map (fun s : Nat => D.int (s : Nat)) (fun s => .int (((s + o0) % S.length : Nat) : Int)) True.intro (List.range S.length) (Nat.le_trans (show _ ≤ 100 by rw [List.length_range]; omega) (by decide)) (fun s hs R hR => ?_) fun b => ?_
  · unfold e1_law
    and_intros
    refine ⟨_, atN (n := 0) (nth_at ho0), ?_⟩
    and_intros
    refine ⟨by omega, ?_⟩
    rw [show (((s : Nat) : Int) + (o0 : Nat)) % (S.length : Nat) = (((s + o0) % S.length : Nat) : Int) by rw [Int.natCast_emod, Int.natCast_add]]
    exact hR
  show 0 + 1 + 1 ≤ sizeLine ∧ k8_law Ex E [.ext d0, .lst a ds, u2, .ext (dSh S ps), .ext (tiD S.length (gsOf ps)), dI (S.length : Nat), .ext (.tup (nD o)), .ext (.tup [.str (Str.ofString "ring"), .tup (List.map (fun s : Nat => D.int (((s + o0) % S.length : Nat) : Int)) (List.range S.length))]), .un, u9, u10, u11, u12, u13]
  refine ⟨by decide, ?_⟩
  obtain ⟨rg, hrg, hrl, hrm⟩ : ∃ rg : List Nat, List.map (fun s : Nat => D.int (((s + o0) % S.length : Nat) : Int)) (List.range S.length) = nD rg ∧ rg.length = S.length ∧ ∀ m ∈ rg, m < S.length := by
    refine ⟨(List.range S.length).map fun s => (s + o0) % S.length, by unfold nD; rw [List.map_map]; rfl, by rw [List.length_map, List.length_range], fun m hm => ?_⟩
    obtain ⟨s, _, rfl⟩ := List.mem_map.1 hm
    exact Nat.mod_lt _ hS0
  rw [hrg]
  exact k8_ok hj3 hn ok hS0 hol hom hrl hrm hE
theorem m_law : Meets t_law 1 13 (lawSpec 63) := by
  rintro args Qd Xd ⟨ns, rfl, hl, hQ⟩
  show t_law _ _ [_, .un, .un, .un, .un, .un, .un, .un, .un, .un, .un, .un, .un, .un]
  unfold t_law
  and_intros
  refine ⟨ns, rfl, hl, fun a ds fin hj => ?_⟩
  trivial
  unfold k15_law
  and_intros
  refine ⟨⟨by decide, by decide⟩, ?_⟩
  rw [show rgD 0 4 = nD (List.range 4) from rgD_nat 4]
  refine for_ind (fun i : Nat => D.int (i : Nat)) (fun is env => ∃ (n : Nat) (ds : List D) (u2 u3 u4 u5 u6 u7 u8 u9 u10 u11 u12 u13 : Sl), env = [.ext (.fz (ns.map D.int)), .lst a ds, u2, u3, u4, u5, u6, u7, u8, u9, u10, u11, u12, u13] ∧ JarOk n ds ∧ n + is.length * 10000 ≤ 100000 ∧ ∀ i ∈ is, i < 4) ?_ ?_ (List.range 4) _ ⟨0, ds, _, _, _, _, _, _, _, _, _, _, _, _, rfl, hj, by decide, fun i hi => List.mem_range.1 hi⟩
  · rintro env ⟨n, ds, u2, u3, u4, u5, u6, u7, u8, u9, u10, u11, u12, u13, rfl, _⟩
    refine ⟨True.intro, ?_⟩
    unfold k14_law
    and_intros
    exact hQ _
  rintro i is env N ⟨n, ds, u2, u3, u4, u5, u6, u7, u8, u9, u10, u11, u12, u13, rfl, hj, hn, his⟩ hN
  rw [List.length_cons] at hn
  have hi := his i List.mem_cons_self
  have his' : ∀ j ∈ is, j < 4 := fun j hj => his j (List.mem_cons_of_mem _ hj)
  refine ⟨True.intro, ?_⟩
  unfold b13_law
  and_intros
  obtain ⟨most, hmo, hmo1, hmo2⟩ : ∃ most : Nat, atI [D.int 8, D.int 12] ((i : Int) / 3) = some (D.int (most : Nat)) ∧ 0 < most ∧ most ≤ 12 := by
    have h2 : (i : Int) / 3 = 0 ∨ (i : Int) / 3 = 1 := by omega
    rcases h2 with h | h <;> rw [h]
    · exact ⟨8, rfl, by decide, by decide⟩
    · exact ⟨12, rfl, by decide, by decide⟩
  refine ⟨by decide, ⟨by decide, by decide⟩, _, hmo, ?_⟩
  and_intros
  refine ⟨n, a, ds, most, rfl, hj, by omega, hmo1, hmo2, fun S ps ds2 fin hw hSm hj2 => ?_⟩
  and_intros
  have ok := hw.ns
  have h24 := ok.few
  have hS0 := hw.pos
  unfold k12_law
  and_intros
  refine ⟨S, ps, rfl, ok, fun b fin => ?_⟩
  and_intros
  unfold k11_law
  and_intros
  rw [show (tiDs S.length (gsOf ps)).length = S.length by rw [List.length_map, List.length_range]]
  unfold k10_law
  and_intros
  rw [rgD_nat]
  refine ⟨⟨by omega, by omega⟩, ?_⟩
  refine ⟨n + 4000, a, ds2, List.range S.length, _, rfl, .inr rfl, hj2, by omega, by rw [List.length_range]; omega, fun o ds3 fin hp hj3 => ?_⟩
  have hol : o.length = S.length := by rw [hp.length_eq, List.length_range]
  have hom : ∀ m ∈ o, m < S.length := fun m hm => List.mem_range.1 (hp.mem_iff.1 hm)
  and_intros
  exact k9_ok hj3 (by omega) ok hS0 hol hom fun ds' u7 u8 u9 u10 u11 u12 u13 hj' => hN _ ⟨n + 4264, ds', _, _, _, _, _, _, _, _, _, _, _, _, rfl, hj', by omega, his'⟩
end K46
end LS
namespace HD
open PySem L2
abbrev FnD (K : PySem.W.Frag) (x : Str) (st : Stmt) (f : Addr) (fd : FuncData) : Prop := FunD K x x (defArgs st) (defBody st) (defScope st) [] [] f fd
theorem Def.of {G : GG} {x : Str} {st : Stmt} {f : Addr} {fd : FuncData} {N ps : List Str} {k n m : Nat} {t : DTS} {sp : DSpec} (F : FnD G.K x st f fd) (hmg : G.mg x = some (.ref f)) (sc : FnScope N ps (defScope st)) (hb : DSs G N (fnS (defScope st)) k (defBody st) t) (hm : Meets t n m sp)
    (hn : ps.length = n) (hN : N.length = n + m) (len : ∀ ds Q X, sp ds Q X → ds.length = n) (bd : Binds G.K fd ps []) : Def G (k + 1) x n sp := by
  subst hn
  refine ⟨⟨f, fd, ps, fn_ok (He5.fun_of F) sc hb fun args Qd Xd h hl => ?_, hmg, F.kp, bd⟩, len⟩
  have e : N.length - args.length = m := by omega
  rw [e]
  exact hm args Qd Xd h
theorem Def.ok {G : GG} {k : Nat} {x : Str} {sp : DSpec} {fa : Addr} {st : Stmt} {fd : FuncData} {N : List Str} {m : Nat} {t : DTS} (F : FnD G.K x st fa fd) (sc : FnScope N ["script"] (defScope st)) (hb : DSs G N (fnS (defScope st)) k (defBody st) t) (hm : Meets t 1 m sp) (hN : N.length = 1 + m) :
    FnG G.P G.w G.K G.mg G.base (L2.CX G.P G.w) (k + 1) fa fd ["script"] (toSp G.K 1 sp) := by
  refine fn_ok (He5.fun_of F) sc hb fun args Qd Xd h hl => ?_
  have e : N.length - args.length = m := by
    have : args.length = 1 := hl
    omega
  rw [e]
  exact hm args Qd Xd h
theorem walkW {l : PySem.W.OpenLaw} {n k : Nat} {q : Program} {names : List Str} {XP : (Str → Option Value) → Heap → Prop} {YP : World → Heap → Prop} {d : DefRec} {CX : World → CXT} {x : Str}
    (hn : l.most = some n) (hz : n ≤ sizeLine) (hd0 : d.params.defaults = []) (room : Room k callerA)
    (F : ∀ (w : World) (mg : Str → Option Value) (f : Addr) (h : Heap), YP w h → h.Ns mainGlobals mg → mg d.name = some (.ref f) →
      ∃ (K : PySem.W.Frag) (fd : FuncData) (sp : Sp), K.In h ∧ (∀ (s : Shared) (v : Value), BindsTo s fd ⟨[v], []⟩ [(x, v)]) ∧
        (∀ (H : Hp) (a : Addr) (ns : List Int), ns.length ≤ n → SqL K H a (ns.map V.int) → sp [.ref a] H (fun v _ => v = .bl true) fun _ _ _ => False) ∧
        ∀ base : Heap, K.In base → base.Ns mainGlobals mg → FnG l.prog w K mg base (CX w) k f fd [x] sp)
    (no : ∀ (w : World) (H : Hp) (s : Shared) (e : Value) (s' : Shared), CX w [] H s (fun _ _ _ => False) e s' → False) :
    PySem.W.WalkO q names XP YP l.row.toRowW d [] (fun f vs => PySem.call f vs) := by
  refine Att.attach_call hn hd0 fun w s s1 mg mb f o pm cd doc a vs ns G Y h1 h2 h3 hm h4 h5 h6 h7 => ?_
  obtain ⟨K, fd, sp, hK, hb, hsp, hF⟩ := F w mg f _ Y G.T.g hm
  exact law_callG hK G.T.g G.T.b G.T.builtins G.T.nolimit h7 h4 h5 (Nat.le_trans h6 hz) room hF hb (fun H _ hS => hsp H a ns h6 hS) fun H e s' => no w H s1 e s'
end HD
namespace HD
open PySem L2
def dkW (oc : OC) (k : List (Key × D) → Prop) : Prop := match oc with
  | .dk kvs => k kvs
  | _ => False
end HD
namespace LS.K46.E
open PySem L2 HD PM
open K02 (t_law_whole_number m_law_whole_number sp_law_whole_number)
abbrev N_is_whole : List Str := ["thing"]
abbrev P_is_whole : List Str := ["thing"]
theorem sc_is_whole : FnScope N_is_whole P_is_whole (defScope s_is_whole) := ⟨rfl, rfl, rfl, by decide +kernel, rfl, by decide +kernel, by decide +kernel⟩
theorem d_is_whole {G : GG} (B : Blt G) : DSs G N_is_whole (fnS (defScope s_is_whole)) 0 (defBody s_is_whole) t_is_whole :=
    (dss_one (ds_ret (de_and (de_cb b_isi B.isinstance (da_cons (de_var 0) (da_cons (de_bltn (v := .ty "int") rfl B.int (by decide +kernel) rfl) da_nil))) (de_one (de_not (de_cb b_isi B.isinstance (da_cons (de_var 0) (da_cons (de_bltn (v := .ty "bool") rfl B.bool (by decide +kernel) rfl) da_nil))))))))
abbrev N_ties_of : List Str := ["sheet", "found", "name", "near", "part", "other"]
abbrev P_ties_of : List Str := ["sheet"]
theorem sc_ties_of : FnScope N_ties_of P_ties_of (defScope s_ties_of) := ⟨rfl, rfl, rfl, by decide +kernel, rfl, by decide +kernel, by decide +kernel⟩
theorem d_ties_of {G : GG} (B : Blt G) : DSs G N_ties_of (fnS (defScope s_ties_of)) 0 (defBody s_ties_of) t_ties_of :=
    (dss_cons (ds_set 1 (de_lst da_nil))
    (dss_cons (ds_for (di_range1 (da_cons (de_cb b_len B.len (da_cons (de_ix (de_var 0) de_int) da_nil)) da_nil) B.range) (dg_name 2) (dss_cons (ds_set 3 (de_lst da_nil))
    (dss_cons (ds_for (di_seq (de_ix (de_var 0) de_int)) (dg_name 4) (dss_one (ds_if (dt_cmp c_in (de_var 2) (de_ix (de_var 4) de_int)) (dss_one (ds_expr (de_extT 3 (de_ix (de_var 4) de_int)))) dss_nil)))
    (dss_one (ds_expr (de_append 1 (de_lc [(Str.ofString "other", 5)] (di_range1 (da_cons (de_cb b_len B.len (da_cons (de_ix (de_var 0) de_int) da_nil)) da_nil) B.range) (by decide +kernel) (dg_name 5) (dtl_one (DWe.te (dw_and (dt_cmp c_ne (de_var 5) (de_var 2)) (dw_and1 (dt_cmp c_in (de_var 5) (de_var 3)))))) (de_var 5))))))))
    (dss_one (ds_ret (de_var 1)))))
abbrev N_bag_by : List Str := ["ties", "taken", "name", "seen", "waiting", "here", "other", "one"]
abbrev P_bag_by : List Str := ["ties", "taken", "name"]
theorem sc_bag_by : FnScope N_bag_by P_bag_by (defScope s_bag_by) := ⟨rfl, rfl, rfl, by decide +kernel, rfl, by decide +kernel, by decide +kernel⟩
theorem d_bag_by {G : GG} (B : Blt G) : DSs G N_bag_by (fnS (defScope s_bag_by)) 0 (defBody s_bag_by) t_bag_by :=
    (dss_cons (ds_set 3 (de_done (de_var 2) de_bl))
    (dss_cons (ds_set 4 (de_lst (da_cons (de_var 2) da_nil)))
    (dss_cons (ds_while (dt_cmp c_ne (de_var 4) (de_lst da_nil)) (dss_cons (ds_setE 5 (de_pop 4))
    (dss_one (ds_for (di_seq (de_ix (de_var 0) (de_var 5))) (dg_name 6) (dss_one (ds_if (dt_dnotin 3 (de_var 6)) (dss_cons (ds_dput 3 (de_var 6) de_bl)
    (dss_one (ds_if (dt_cmp c_in (de_var 6) (de_var 1)) (dss_one (ds_expr (de_append 4 (de_var 6)))) dss_nil))) dss_nil))))))
    (dss_one (ds_sealD 3 (ds_ret (de_ct t_tuple B.tuple (da_cons (de_cb b_sorted B.sorted (da_cons (de_lc [(Str.ofString "one", 7)] (di_keys (de_var 3)) (by decide +kernel) (dg_name 7) (dtl_one (dt_cmp c_notin (de_var 7) (de_var 1))) (de_var 7)) da_nil)) da_nil))))))))
abbrev N_all_tied : List Str := ["ties", "names", "one", "other"]
abbrev P_all_tied : List Str := ["ties", "names"]
theorem sc_all_tied : FnScope N_all_tied P_all_tied (defScope s_all_tied) := ⟨rfl, rfl, rfl, by decide +kernel, rfl, by decide +kernel, by decide +kernel⟩
theorem d_all_tied {G : GG} (B : Blt G) : DSs G N_all_tied (fnS (defScope s_all_tied)) 0 (defBody s_all_tied) t_all_tied :=
    (dss_one (ds_ret (de_cb b_all B.all (da_cons (de_lc [(Str.ofString "one", 2)] (di_seq (de_var 1)) (by decide +kernel) (dg_name 2) dtl_nil (de_cmp c_eq (de_cb b_len B.len (da_cons (de_lc [(Str.ofString "other", 3)] (di_seq (de_var 1)) (by decide +kernel) (dg_name 3) (dtl_one (DWe.te (dw_and (dt_cmp c_ne (de_var 3) (de_var 2)) (dw_and1 (dt_cmp c_notin (de_var 3) (de_ix (de_var 0) (de_var 2))))))) de_int) da_nil)) de_int)) da_nil))))
abbrev N_road : List Str := ["ties", "first", "last", "shut", "came", "waiting", "here", "other", "found"]
abbrev P_road : List Str := ["ties", "first", "last", "shut"]
theorem sc_road : FnScope N_road P_road (defScope s_road) := ⟨rfl, rfl, rfl, by decide +kernel, rfl, by decide +kernel, by decide +kernel⟩
theorem d_road {G : GG} (B : Blt G) : DSs G N_road (fnS (defScope s_road)) 0 (defBody s_road) t_road :=
    (dss_cons (ds_set 4 (de_done (de_var 1) de_non))
    (dss_cons (ds_set 5 (de_lst (da_cons (de_var 1) da_nil)))
    (dss_cons (ds_while (dt_cmp c_ne (de_var 5) (de_lst da_nil)) (dss_cons (ds_setE 6 (de_popAt 5 de_int))
    (dss_one (ds_for (di_seq (de_ix (de_var 0) (de_var 6))) (dg_name 7) (dss_one (ds_if (DWe.te (dw_and (dt_dnotin 4 (de_var 7)) (dw_and1 (dt_cmp c_notin (de_var 7) (de_var 3))))) (dss_cons (ds_dput 4 (de_var 7) (de_var 6))
    (dss_one (ds_expr (de_append 5 (de_var 7))))) dss_nil))))))
    (dss_cons (ds_if (dt_dnotin 4 (de_var 2)) (dss_one (ds_ret de_non)) dss_nil)
    (dss_cons (ds_set 8 (de_lst (da_cons (de_var 2) da_nil)))
    (dss_cons (ds_while (dt_cmp c_isnot (de_dget 4 (de_ix (de_var 8) (de_neg de_int))) de_non) (dss_one (ds_expr (de_append 8 (de_dget 4 (de_ix (de_var 8) (de_neg de_int)))))))
    (dss_one (ds_ret (de_ct t_tuple B.tuple (da_cons (de_step (de_var 8) (do_some (de_neg de_int))) da_nil))))))))))
abbrev N_law_jar : List Str := ["script"]
abbrev P_law_jar : List Str := ["script"]
theorem sc_law_jar : FnScope N_law_jar P_law_jar (defScope s_law_jar) := ⟨rfl, rfl, rfl, by decide +kernel, rfl, by decide +kernel, by decide +kernel⟩
theorem d_law_jar {G : GG} (B : Blt G) : DSs G N_law_jar (fnS (defScope s_law_jar)) 0 (defBody s_law_jar) t_law_jar :=
    (dss_one (ds_ret (de_lst (da_cons (de_ct t_list B.list (da_cons (de_slice (de_var 0) do_none (do_some de_int)) da_nil)) (da_cons de_int (da_cons de_int da_nil))))))
abbrev N_law_prime : List Str := ["at", "some"]
abbrev P_law_prime : List Str := ["at"]
theorem sc_law_prime : FnScope N_law_prime P_law_prime (defScope s_law_prime) := ⟨rfl, rfl, rfl, by decide +kernel, rfl, by decide +kernel, by decide +kernel⟩
theorem d_law_prime {G : GG} (B : Blt G) : DSs G N_law_prime (fnS (defScope s_law_prime)) 0 (defBody s_law_prime) t_law_prime :=
    (dss_cons (ds_setE 1 (de_lst (da_cons de_int (da_cons de_int (da_cons de_int (da_cons de_int (da_cons de_int (da_cons de_int (da_cons de_int (da_cons de_int da_nil))))))))))
    (dss_one (ds_ret (de_ix (de_add (de_var 1) (de_lst (da_cons de_int (da_cons de_int (da_cons de_int da_nil))))) (de_mod (de_var 0) de_int)))))
abbrev N_law_times : List Str := ["numbers", "found", "number"]
abbrev P_law_times : List Str := ["numbers"]
theorem sc_law_times : FnScope N_law_times P_law_times (defScope s_law_times) := ⟨rfl, rfl, rfl, by decide +kernel, rfl, by decide +kernel, by decide +kernel⟩
theorem d_law_times {G : GG} (B : Blt G) : DSs G N_law_times (fnS (defScope s_law_times)) 0 (defBody s_law_times) t_law_times :=
    (dss_cons (ds_setE 1 de_int)
    (dss_cons (ds_for (di_seq (de_var 0)) (dg_name 2) (dss_one (ds_setE 1 (de_mul (de_var 1) (de_var 2)))))
    (dss_one (ds_ret (de_var 1)))))
abbrev N_law_tied : List Str := ["sheet", "found", "name", "near", "part", "other"]
abbrev P_law_tied : List Str := ["sheet"]
theorem sc_law_tied : FnScope N_law_tied P_law_tied (defScope s_law_tied) := ⟨rfl, rfl, rfl, by decide +kernel, rfl, by decide +kernel, by decide +kernel⟩
theorem d_law_tied {G : GG} (B : Blt G) : DSs G N_law_tied (fnS (defScope s_law_tied)) 0 (defBody s_law_tied) t_law_tied :=
    (dss_cons (ds_set 1 (de_lst da_nil))
    (dss_cons (ds_for (di_range1 (da_cons (de_cb b_len B.len (da_cons (de_ix (de_var 0) de_int) da_nil)) da_nil) B.range) (dg_name 2) (dss_cons (ds_set 3 (de_lst da_nil))
    (dss_cons (ds_for (di_seq (de_ix (de_var 0) de_int)) (dg_name 4) (dss_one (ds_if (dt_cmp c_in (de_var 2) (de_ix (de_var 4) de_int)) (dss_one (ds_expr (de_extT 3 (de_ix (de_var 4) de_int)))) dss_nil)))
    (dss_one (ds_expr (de_append 1 (de_lc [(Str.ofString "other", 5)] (di_range1 (da_cons (de_cb b_len B.len (da_cons (de_ix (de_var 0) de_int) da_nil)) da_nil) B.range) (by decide +kernel) (dg_name 5) (dtl_one (DWe.te (dw_and (dt_cmp c_ne (de_var 5) (de_var 2)) (dw_and1 (dt_cmp c_in (de_var 5) (de_var 3)))))) (de_var 5))))))))
    (dss_one (ds_ret (de_var 1)))))
abbrev N_law_bag : List Str := ["tied", "taken", "name", "found", "at", "other", "one"]
abbrev P_law_bag : List Str := ["tied", "taken", "name"]
theorem sc_law_bag : FnScope N_law_bag P_law_bag (defScope s_law_bag) := ⟨rfl, rfl, rfl, by decide +kernel, rfl, by decide +kernel, by decide +kernel⟩
theorem d_law_bag {G : GG} (B : Blt G) : DSs G N_law_bag (fnS (defScope s_law_bag)) 0 (defBody s_law_bag) t_law_bag :=
    (dss_cons (ds_setE 3 (de_lst (da_cons (de_var 2) da_nil)))
    (dss_cons (ds_setE 4 de_int)
    (dss_cons (ds_while (dt_cmp c_lt (de_var 4) (de_cb b_len B.len (da_cons (de_var 3) da_nil))) (dss_cons (ds_if (DWe.te (dw_or (dt_cmp c_eq (de_ix (de_var 3) (de_var 4)) (de_var 2)) (dw_or1 (dt_cmp c_in (de_ix (de_var 3) (de_var 4)) (de_var 1))))) (dss_one (ds_setE 3 (de_add (de_var 3) (de_lc [(Str.ofString "other", 5)] (di_seq (de_ix (de_var 0) (de_ix (de_var 3) (de_var 4)))) (by decide +kernel) (dg_name 5) (dtl_one (dt_cmp c_notin (de_var 5) (de_var 3))) (de_var 5))))) dss_nil)
    (dss_one (ds_setE 4 (de_add (de_var 4) de_int)))))
    (dss_one (ds_ret (de_ct t_tuple B.tuple (da_cons (de_cb b_sorted B.sorted (da_cons (de_lc [(Str.ofString "one", 6)] (di_seq (de_var 3)) (by decide +kernel) (dg_name 6) (dtl_one (DWe.te (dw_or (dt_cmp c_eq (de_var 6) (de_var 2)) (dw_or1 (dt_cmp c_notin (de_var 6) (de_var 1)))))) (de_var 6)) da_nil)) da_nil)))))))
abbrev N_law_whole_number : List Str := ["thing"]
abbrev P_law_whole_number : List Str := ["thing"]
theorem sc_law_whole_number : FnScope N_law_whole_number P_law_whole_number (defScope s_law_whole_number) := ⟨rfl, rfl, rfl, by decide +kernel, rfl, by decide +kernel, by decide +kernel⟩
theorem d_law_whole_number {G : GG} (B : Blt G) : DSs G N_law_whole_number (fnS (defScope s_law_whole_number)) 0 (defBody s_law_whole_number) t_law_whole_number :=
    (dss_one (ds_ret (de_and (de_cb b_isi B.isinstance (da_cons (de_var 0) (da_cons (de_bltn (v := .ty "int") rfl B.int (by decide +kernel) rfl) da_nil))) (de_one (de_not (de_cb b_isi B.isinstance (da_cons (de_var 0) (da_cons (de_bltn (v := .ty "bool") rfl B.bool (by decide +kernel) rfl) da_nil))))))))
abbrev N_is_order : List Str := ["many", "thing", "one"]
abbrev P_is_order : List Str := ["many", "thing"]
theorem sc_is_order : FnScope N_is_order P_is_order (defScope s_is_order) := ⟨rfl, rfl, rfl, by decide +kernel, rfl, by decide +kernel, by decide +kernel⟩
theorem d_is_order {G : GG} (B : Blt G) (h_is_whole : Def G 1 "is_whole" 1 sp_is_whole) : DSs G N_is_order (fnS (defScope s_is_order)) 1 (defBody s_is_order) t_is_order :=
    (dss_cons (ds_if (DWe.te (dw_or (dt_not (dt_val (de_cb b_isi B.isinstance (da_cons (de_var 1) (da_cons (de_bltn (v := .ty "tuple") rfl B.tuple (by decide +kernel) rfl) da_nil))))) (dw_or1 (dt_not (dt_val (de_cb b_all B.all (da_cons (de_lc [(Str.ofString "one", 2)] (di_seq (de_var 1)) (by decide +kernel) (dg_name 2) dtl_nil (de_and (de_call h_is_whole (da_cons (de_var 2) da_nil)) (de_one (de_chain c_le c_lt de_int (de_var 2) (de_var 0))))) da_nil))))))) (dss_one (ds_ret de_bl)) dss_nil)
    (dss_one (ds_ret (de_cmp c_eq (de_lenset (de_var 1) B.len B.set) (de_cb b_len B.len (da_cons (de_var 1) da_nil))))))
abbrev N_ring_at : List Str := ["ties", "name", "one", "other", "shut", "near", "way"]
abbrev P_ring_at : List Str := ["ties", "name"]
theorem sc_ring_at : FnScope N_ring_at P_ring_at (defScope s_ring_at) := ⟨rfl, rfl, rfl, by decide +kernel, rfl, by decide +kernel, by decide +kernel⟩
theorem d_ring_at {G : GG} (B : Blt G) (h_road : Def G 1 "road" 4 sp_road) : DSs G N_ring_at (fnS (defScope s_ring_at)) 1 (defBody s_ring_at) t_ring_at :=
    (dss_cons (ds_for (di_seq (de_ix (de_var 0) (de_var 1))) (dg_name 2) (dss_one (ds_for (di_seq (de_ix (de_var 0) (de_var 1))) (dg_name 3) (dss_one (ds_if (DWe.te (dw_and (dt_cmp c_lt (de_var 2) (de_var 3)) (dw_and1 (dt_cmp c_notin (de_var 3) (de_ix (de_var 0) (de_var 2)))))) (dss_cons (ds_setE 4 (de_add (de_lst (da_cons (de_var 1) da_nil)) (de_lc [(Str.ofString "near", 5)] (di_seq (de_ix (de_var 0) (de_var 1))) (by decide +kernel) (dg_name 5) (dtl_one (dt_cmp c_notin (de_var 5) (de_tup (da_cons (de_var 2) (da_cons (de_var 3) da_nil))))) (de_var 5))))
    (dss_cons (ds_setE 6 (de_call h_road (da_cons (de_var 0) (da_cons (de_var 2) (da_cons (de_var 3) (da_cons (de_var 4) da_nil))))))
    (dss_one (ds_if (dt_cmp c_isnot (de_var 6) de_non) (dss_one (ds_ret (de_add (de_tup (da_cons (de_var 1) da_nil)) (de_var 6)))) dss_nil)))) dss_nil)))))
    (dss_one (ds_ret de_non)))
abbrev N_law_dip : List Str := ["jar", "many", "at", "cell", "one", "two", "three", "found"]
abbrev P_law_dip : List Str := ["jar", "many"]
theorem sc_law_dip : FnScope N_law_dip P_law_dip (defScope s_law_dip) := ⟨rfl, rfl, rfl, by decide +kernel, rfl, by decide +kernel, by decide +kernel⟩
theorem d_law_dip {G : GG} (B : Blt G) (h_law_prime : Def G 1 "_law_prime" 1 sp_law_prime) : DSs G N_law_dip (fnS (defScope s_law_dip)) 1 (defBody s_law_dip) t_law_dip :=
    (dss_cons (ds_if (dt_cmp c_lt (de_ix (de_var 0) de_int) (de_var 1)) (dss_cons (ds_setE 2 (de_ix (de_var 0) de_int))
    (dss_cons (ds_setitem 0 de_int (de_add (de_var 2) de_int))
    (dss_cons (ds_setE 3 (de_add (de_mul de_int (de_var 2)) de_int))
    (dss_cons (ds_if (dt_cmp c_gt (de_cb b_len B.len (da_cons (de_ix (de_var 0) de_int) da_nil)) de_int) (dss_one (ds_setE 3 (de_ix (de_ix (de_var 0) de_int) (de_mod (de_var 2) (de_cb b_len B.len (da_cons (de_ix (de_var 0) de_int) da_nil)))))) dss_nil)
    (dss_cons (ds_setitem 0 de_int (de_var 3))
    (dss_one (ds_if (DWe.te (dw_or (dt_cmp c_lt (de_var 3) (de_pow de_int de_int)) (dw_or1 (dt_cmp c_ge (de_var 2) (de_cb b_len B.len (da_cons (de_ix (de_var 0) de_int) da_nil)))))) (dss_cons (ds_setE 4 (de_mod (de_pow (de_add (de_add (de_mul (de_mod (de_var 3) de_int) (de_add (de_var 2) de_int)) (de_mul de_int (de_var 2))) de_int) de_int) (de_call h_law_prime (da_cons (de_var 2) da_nil))))
    (dss_cons (ds_setE 5 (de_mod (de_pow (de_add (de_add (de_mul (de_var 4) (de_add (de_var 2) de_int)) (de_mod (de_var 3) de_int)) de_int) de_int) (de_call h_law_prime (da_cons (de_add (de_var 2) de_int) da_nil))))
    (dss_cons (ds_setE 6 (de_mod (de_add (de_mul (de_var 5) (de_var 5)) (de_var 4)) (de_call h_law_prime (da_cons (de_add (de_var 2) de_int) da_nil))))
    (dss_one (ds_setitem 0 de_int (de_add (de_mul (de_add (de_mul (de_var 6) de_int) (de_var 5)) de_int) (de_var 4))))))) dss_nil))))))) dss_nil)
    (dss_cons (ds_setE 7 (de_mod (de_ix (de_var 0) de_int) (de_var 1)))
    (dss_cons (ds_setitem 0 de_int (de_div (de_ix (de_var 0) de_int) (de_var 1)))
    (dss_one (ds_ret (de_var 7))))))
abbrev N_law_unlike_names : List Str := ["thing", "many", "one"]
abbrev P_law_unlike_names : List Str := ["thing", "many"]
theorem sc_law_unlike_names : FnScope N_law_unlike_names P_law_unlike_names (defScope s_law_unlike_names) := ⟨rfl, rfl, rfl, by decide +kernel, rfl, by decide +kernel, by decide +kernel⟩
theorem d_law_unlike_names {G : GG} (B : Blt G) (h_law_whole_number : Def G 1 "_law_whole_number" 1 sp_law_whole_number) : DSs G N_law_unlike_names (fnS (defScope s_law_unlike_names)) 1 (defBody s_law_unlike_names) t_law_unlike_names :=
    (dss_cons (ds_if (DWe.te (dw_or (dt_not (dt_val (de_cb b_isi B.isinstance (da_cons (de_var 0) (da_cons (de_bltn (v := .ty "tuple") rfl B.tuple (by decide +kernel) rfl) da_nil))))) (dw_or1 (dt_cmp c_gt (de_cb b_len B.len (da_cons (de_lc [(Str.ofString "one", 2)] (di_seq (de_var 0)) (by decide +kernel) (dg_name 2) (dtl_one (dt_not (dt_val (de_call h_law_whole_number (da_cons (de_var 2) da_nil))))) de_int) da_nil)) de_int)))) (dss_one (ds_ret de_bl)) dss_nil)
    (dss_one (ds_ret (de_and (de_cmp c_eq (de_cb b_len B.len (da_cons (de_lc [(Str.ofString "one", 2)] (di_seq (de_var 0)) (by decide +kernel) (dg_name 2) (dtl_one (DWe.te (dw_or (dt_cmp c_lt (de_var 2) de_int) (dw_or1 (dt_cmp c_ge (de_var 2) (de_var 1)))))) de_int) da_nil)) de_int) (de_one (de_cmp c_eq (de_lenset (de_var 0) B.len B.set) (de_cb b_len B.len (da_cons (de_var 0) da_nil))))))))
abbrev N_no_new_ties : List Str := ["sheet", "ties", "order", "left", "name", "good", "one", "ring"]
abbrev P_no_new_ties : List Str := ["sheet"]
theorem sc_no_new_ties : FnScope N_no_new_ties P_no_new_ties (defScope s_no_new_ties) := ⟨rfl, rfl, rfl, by decide +kernel, rfl, by decide +kernel, by decide +kernel⟩
theorem d_no_new_ties {G : GG} (B : Blt G) (h_all_tied : Def G 1 "all_tied" 2 sp_all_tied) (h_ring_at : Def G 2 "ring_at" 2 sp_ring_at) (h_ties_of : Def G 1 "ties_of" 1 sp_ties_of) : DSs G N_no_new_ties (fnS (defScope s_no_new_ties)) 2 (defBody s_no_new_ties) t_no_new_ties :=
    (dss_cons (ds_setE 1 (de_call h_ties_of (da_cons (de_var 0) da_nil)))
    (dss_cons (ds_setE 2 (de_tup da_nil))
    (dss_cons (ds_while (dt_cmp c_lt (de_cb b_len B.len (da_cons (de_var 2) da_nil)) (de_cb b_len B.len (da_cons (de_var 1) da_nil))) (dss_cons (ds_setLcE [(Str.ofString "name", 4)] 3 (di_range1 (da_cons (de_cb b_len B.len (da_cons (de_var 1) da_nil)) da_nil) B.range) (by decide +kernel) (dg_name 4) (dtl_one (dt_cmp c_notin (de_var 4) (de_var 2))) (de_var 4))
    (dss_cons (ds_setLcE [(Str.ofString "name", 4)] 5 (di_seq (de_var 3)) (by decide +kernel) (dg_name 4) (dtl_one (dt_val (de_call h_all_tied (da_cons (de_var 1) (da_cons (de_lc [(Str.ofString "one", 6)] (di_seq (de_ix (de_var 1) (de_var 4))) (by decide +kernel) (dg_name 6) (dtl_one (dt_cmp c_notin (de_var 6) (de_var 2))) (de_var 6)) da_nil))))) (de_var 4))
    (dss_cons (ds_if (dt_cmp c_eq (de_var 5) (de_lst da_nil)) (dss_one (ds_ret (de_tup (da_cons de_str (da_cons (de_ix (de_lc [(Str.ofString "ring", 7)] (di_seq (de_lc [(Str.ofString "name", 4)] (di_seq (de_var 3)) (by decide +kernel) (dg_name 4) dtl_nil (de_call h_ring_at (da_cons (de_var 1) (da_cons (de_var 4) da_nil))))) (by decide +kernel) (dg_name 7) (dtl_one (dt_cmp c_isnot (de_var 7) de_non)) (de_var 7)) de_int) da_nil))))) dss_nil)
    (dss_one (ds_setE 2 (de_add (de_var 2) (de_tup (da_cons (de_ix (de_var 5) de_int) da_nil)))))))))
    (dss_one (ds_ret (de_tup (da_cons de_str (da_cons (de_var 2) da_nil))))))))
abbrev N_is_ring : List Str := ["ties", "thing", "many", "k", "near", "one"]
abbrev P_is_ring : List Str := ["ties", "thing"]
theorem sc_is_ring : FnScope N_is_ring P_is_ring (defScope s_is_ring) := ⟨rfl, rfl, rfl, by decide +kernel, rfl, by decide +kernel, by decide +kernel⟩
theorem d_is_ring {G : GG} (B : Blt G) (h_is_order : Def G 2 "is_order" 2 sp_is_order) : DSs G N_is_ring (fnS (defScope s_is_ring)) 2 (defBody s_is_ring) t_is_ring :=
    (dss_cons (ds_if (DWe.te (dw_or (dt_not (dt_val (de_call h_is_order (da_cons (de_cb b_len B.len (da_cons (de_var 0) da_nil)) (da_cons (de_var 1) da_nil))))) (dw_or1 (dt_cmp c_lt (de_cb b_len B.len (da_cons (de_var 1) da_nil)) de_int)))) (dss_one (ds_ret de_bl)) dss_nil)
    (dss_cons (ds_setE 2 (de_cb b_len B.len (da_cons (de_var 1) da_nil)))
    (dss_cons (ds_for (di_range1 (da_cons (de_var 2) da_nil) B.range) (dg_name 3) (dss_cons (ds_setLcE [(Str.ofString "one", 5)] 4 (di_seq (de_var 1)) (by decide +kernel) (dg_name 5) (dtl_one (dt_cmp c_in (de_var 5) (de_ix (de_var 0) (de_ix (de_var 1) (de_var 3))))) (de_var 5))
    (dss_one (ds_if (dt_cmp c_ne (de_cb b_sorted B.sorted (da_cons (de_var 4) da_nil)) (de_cb b_sorted B.sorted (da_cons (de_lst (da_cons (de_ix (de_var 1) (de_sub (de_var 3) de_int)) (da_cons (de_ix (de_var 1) (de_mod (de_add (de_var 3) de_int) (de_var 2))) da_nil))) da_nil))) (dss_one (ds_ret de_bl)) dss_nil))))
    (dss_one (ds_ret de_bl)))))
abbrev N_ties_none : List Str := ["ties", "thing", "k"]
abbrev P_ties_none : List Str := ["ties", "thing"]
theorem sc_ties_none : FnScope N_ties_none P_ties_none (defScope s_ties_none) := ⟨rfl, rfl, rfl, by decide +kernel, rfl, by decide +kernel, by decide +kernel⟩
theorem d_ties_none {G : GG} (B : Blt G) (h_all_tied : Def G 1 "all_tied" 2 sp_all_tied) (h_bag_by : Def G 1 "bag_by" 3 sp_bag_by) (h_is_order : Def G 2 "is_order" 2 sp_is_order) : DSs G N_ties_none (fnS (defScope s_ties_none)) 2 (defBody s_ties_none) t_ties_none :=
    (dss_cons (ds_if (DWe.te (dw_or (dt_not (dt_val (de_call h_is_order (da_cons (de_cb b_len B.len (da_cons (de_var 0) da_nil)) (da_cons (de_var 1) da_nil))))) (dw_or1 (dt_cmp c_ne (de_cb b_len B.len (da_cons (de_var 1) da_nil)) (de_cb b_len B.len (da_cons (de_var 0) da_nil)))))) (dss_one (ds_ret de_bl)) dss_nil)
    (dss_one (ds_ret (de_cb b_all B.all (da_cons (de_lc [(Str.ofString "k", 2)] (di_range1 (da_cons (de_cb b_len B.len (da_cons (de_var 1) da_nil)) da_nil) B.range) (by decide +kernel) (dg_name 2) dtl_nil (de_call h_all_tied (da_cons (de_var 0) (da_cons (de_call h_bag_by (da_cons (de_var 0) (da_cons (de_slice (de_var 1) do_none (do_some (de_var 2))) (da_cons (de_ix (de_var 1) (de_var 2)) da_nil)))) da_nil)))) da_nil)))))
abbrev N_law_some : List Str := ["jar", "many", "most", "left", "found", "k"]
abbrev P_law_some : List Str := ["jar", "many", "most"]
theorem sc_law_some : FnScope N_law_some P_law_some (defScope s_law_some) := ⟨rfl, rfl, rfl, by decide +kernel, rfl, by decide +kernel, by decide +kernel⟩
theorem d_law_some {G : GG} (B : Blt G) (h_law_dip : Def G 2 "_law_dip" 2 sp_law_dip) : DSs G N_law_some (fnS (defScope s_law_some)) 2 (defBody s_law_some) t_law_some :=
    (dss_cons (ds_set 3 (de_listRg (drg_1 (de_var 1) B.range) B.list))
    (dss_cons (ds_set 4 (de_lst da_nil))
    (dss_cons (ds_for (di_range1 (da_cons (de_callJ 0 h_law_dip (da_cons (de_add (de_var 2) de_int) da_nil)) da_nil) B.range) (dg_name 5) (dss_one (ds_if (dt_cmp c_gt (de_cb b_len B.len (da_cons (de_var 3) da_nil)) de_int) (dss_one (ds_expr (de_append 4 (de_popAt 3 (de_callJ 0 h_law_dip (da_cons (de_cb b_len B.len (da_cons (de_var 3) da_nil)) da_nil)))))) dss_nil)))
    (dss_one (ds_ret (de_ct t_tuple B.tuple (da_cons (de_cb b_sorted B.sorted (da_cons (de_var 4) da_nil)) da_nil)))))))
abbrev N_law_order : List Str := ["jar", "names", "left", "k"]
abbrev P_law_order : List Str := ["jar", "names"]
theorem sc_law_order : FnScope N_law_order P_law_order (defScope s_law_order) := ⟨rfl, rfl, rfl, by decide +kernel, rfl, by decide +kernel, by decide +kernel⟩
theorem d_law_order {G : GG} (B : Blt G) (h_law_dip : Def G 2 "_law_dip" 2 sp_law_dip) : DSs G N_law_order (fnS (defScope s_law_order)) 2 (defBody s_law_order) t_law_order :=
    (dss_cons (ds_set 2 (de_ct t_list B.list (da_cons (de_var 1) da_nil)))
    (dss_one (ds_ret (de_ct t_tuple B.tuple (da_cons (de_lc [(Str.ofString "k", 3)] (di_range1 (da_cons (de_cb b_len B.len (da_cons (de_var 1) da_nil)) da_nil) B.range) (by decide +kernel) (dg_name 3) dtl_nil (de_popAt 2 (de_callJ 0 h_law_dip (da_cons (de_cb b_len B.len (da_cons (de_var 2) da_nil)) da_nil)))) da_nil)))))
abbrev N_law_due : List Str := ["tied", "thing", "word", "some", "k", "near", "one", "bag", "other"]
abbrev P_law_due : List Str := ["tied", "thing"]
theorem sc_law_due : FnScope N_law_due P_law_due (defScope s_law_due) := ⟨rfl, rfl, rfl, by decide +kernel, rfl, by decide +kernel, by decide +kernel⟩
theorem d_law_due {G : GG} (B : Blt G) (h_law_bag : Def G 1 "_law_bag" 3 sp_law_bag) (h_law_unlike_names : Def G 2 "_law_unlike_names" 2 sp_law_unlike_names) : DSs G N_law_due (fnS (defScope s_law_due)) 2 (defBody s_law_due) t_law_due :=
    (dss_cons (ds_if (DWe.te (dw_or (dt_not (dt_val (de_cb b_isi B.isinstance (da_cons (de_var 1) (da_cons (de_bltn (v := .ty "tuple") rfl B.tuple (by decide +kernel) rfl) da_nil))))) (dw_or (dt_cmp c_ne (de_cb b_len B.len (da_cons (de_var 1) da_nil)) de_int) (dw_or1 (dt_not (dt_val (de_cb b_isi B.isinstance (da_cons (de_ix (de_var 1) de_int) (da_cons (de_bltn (v := .ty "str") rfl B.str (by decide +kernel) rfl) da_nil))))))))) (dss_one (ds_ret de_bl)) dss_nil)
    (dss_cons (ds_asg (de_var 1) (dg_tup (dgs_cons (dg_name 2) (dgs_cons (dg_name 3) dgs_nil))))
    (dss_cons (ds_if (DWe.te (dw_or (dt_cmp c_notin (de_var 2) (de_tup (da_cons de_str (da_cons de_str da_nil)))) (dw_or1 (dt_not (dt_val (de_call h_law_unlike_names (da_cons (de_var 3) (da_cons (de_cb b_len B.len (da_cons (de_var 0) da_nil)) da_nil)))))))) (dss_one (ds_ret de_bl)) dss_nil)
    (dss_cons (ds_if (dt_cmp c_eq (de_var 2) de_str) (dss_cons (ds_for (di_range1 (da_cons (de_cb b_len B.len (da_cons (de_var 3) da_nil)) da_nil) B.range) (dg_name 4) (dss_cons (ds_setLcE [(Str.ofString "one", 6)] 5 (di_seq (de_var 3)) (by decide +kernel) (dg_name 6) (dtl_one (dt_cmp c_in (de_var 6) (de_ix (de_var 0) (de_ix (de_var 3) (de_var 4))))) (de_var 6))
    (dss_one (ds_if (dt_cmp c_ne (de_cb b_sorted B.sorted (da_cons (de_var 5) da_nil)) (de_cb b_sorted B.sorted (da_cons (de_lst (da_cons (de_ix (de_var 3) (de_sub (de_var 4) de_int)) (da_cons (de_ix (de_var 3) (de_mod (de_add (de_var 4) de_int) (de_cb b_len B.len (da_cons (de_var 3) da_nil)))) da_nil))) da_nil))) (dss_one (ds_ret de_bl)) dss_nil))))
    (dss_one (ds_ret (de_cmp c_gt (de_cb b_len B.len (da_cons (de_var 3) da_nil)) de_int)))) dss_nil)
    (dss_cons (ds_for (di_range1 (da_cons (de_cb b_len B.len (da_cons (de_var 3) da_nil)) da_nil) B.range) (dg_name 4) (dss_cons (ds_setE 7 (de_call h_law_bag (da_cons (de_var 0) (da_cons (de_slice (de_var 3) do_none (do_some (de_var 4))) (da_cons (de_ix (de_var 3) (de_var 4)) da_nil)))))
    (dss_one (ds_for (di_seq (de_var 7)) (dg_name 6) (dss_one (ds_if (dt_cmp c_gt (de_cb b_len B.len (da_cons (de_lc [(Str.ofString "other", 8)] (di_seq (de_var 7)) (by decide +kernel) (dg_name 8) (dtl_one (DWe.te (dw_and (dt_cmp c_ne (de_var 8) (de_var 6)) (dw_and1 (dt_cmp c_notin (de_var 8) (de_ix (de_var 0) (de_var 6))))))) (de_var 8)) da_nil)) de_int) (dss_one (ds_ret de_bl)) dss_nil))))))
    (dss_one (ds_ret (de_cmp c_eq (de_cb b_len B.len (da_cons (de_var 3) da_nil)) (de_cb b_len B.len (da_cons (de_var 0) da_nil))))))))))
abbrev N_law_bent : List Str := ["jar", "thing", "many", "way", "word", "some", "at", "odd", "more", "other", "back", "here"]
abbrev P_law_bent : List Str := ["jar", "thing", "many"]
theorem sc_law_bent : FnScope N_law_bent P_law_bent (defScope s_law_bent) := ⟨rfl, rfl, rfl, by decide +kernel, rfl, by decide +kernel, by decide +kernel⟩
theorem d_law_bent {G : GG} (B : Blt G) (h_law_dip : Def G 2 "_law_dip" 2 sp_law_dip) : DSs G N_law_bent (fnS (defScope s_law_bent)) 2 (defBody s_law_bent) t_law_bent :=
    (dss_cons (ds_setE 3 (de_callJ 0 h_law_dip (da_cons de_int da_nil)))
    (dss_cons (ds_asg (de_var 1) (dg_tup (dgs_cons (dg_name 4) (dgs_cons (dg_name 5) dgs_nil))))
    (dss_cons (ds_setE 6 (de_callJ 0 h_law_dip (da_cons (de_add (de_cb b_len B.len (da_cons (de_var 5) da_nil)) de_int) da_nil)))
    (dss_cons (ds_setE 7 (de_ix (de_lst (da_cons (de_var 2) (da_cons (de_neg de_int) (da_cons de_bl (da_cons de_non (da_cons de_str (da_cons (de_tup (da_cons de_int da_nil)) (da_cons (de_pow de_int de_int) (da_cons de_int (da_cons de_bl (da_cons (de_sub (de_var 2) de_int) (da_cons (de_lst (da_cons de_int da_nil)) da_nil)))))))))))) (de_callJ 0 h_law_dip (da_cons de_int da_nil))))
    (dss_cons (ds_if (dt_cmp c_lt (de_var 3) de_int) (dss_one (ds_ret (de_tup (da_cons (de_var 4) (da_cons (de_add (de_add (de_slice (de_var 5) do_none (do_some (de_var 6))) (de_tup (da_cons (de_var 7) da_nil))) (de_slice (de_var 5) (do_some (de_add (de_var 6) (de_mod (de_var 3) de_int))) do_none)) da_nil))))) dss_nil)
    (dss_cons (ds_if (dt_cmp c_eq (de_var 3) de_int) (dss_cons (ds_setE 8 (de_lst (da_cons (de_ct t_list B.list (da_cons (de_var 5) da_nil)) (da_cons (de_add (de_slice (de_var 5) do_none (do_some (de_var 6))) (de_slice (de_var 5) (do_some (de_add (de_var 6) de_int)) do_none)) (da_cons (de_add (de_var 5) (de_slice (de_var 5) do_none (do_some de_int))) (da_cons (de_step (de_var 5) (do_some (de_neg de_int))) (da_cons (de_add (de_slice (de_var 5) (do_some (de_var 6)) do_none) (de_slice (de_var 5) do_none (do_some (de_var 6)))) da_nil)))))))
    (dss_one (ds_ret (de_tup (da_cons (de_var 4) (da_cons (de_ix (de_var 8) (de_callJ 0 h_law_dip (da_cons de_int da_nil))) da_nil)))))) dss_nil)
    (dss_cons (ds_if (dt_cmp c_eq (de_var 3) de_int) (dss_cons (ds_setE 9 (de_tableS [(Str.ofString "order", Str.ofString "ring"), (Str.ofString "ring", Str.ofString "order")] 4 (fun X => (pps_cons pe_str pe_str (pps_cons pe_str pe_str pps_nil))) (fun σ H Q h => by exact h) (by decide +kernel) (by decide)))
    (dss_one (ds_ret (de_tup (da_cons (de_ix (de_lst (da_cons (de_var 9) (da_cons de_str (da_cons de_non (da_cons de_str (da_cons de_str (da_cons de_int (da_cons (de_tup (da_cons (de_var 4) da_nil)) (da_cons (de_lst (da_cons (de_var 4) da_nil)) da_nil))))))))) (de_callJ 0 h_law_dip (da_cons de_int da_nil))) (da_cons (de_var 5) da_nil)))))) dss_nil)
    (dss_cons (ds_if (dt_cmp c_eq (de_var 3) de_int) (dss_cons (ds_setE 8 (de_lst (da_cons (de_ct t_list B.list (da_cons (de_var 1) da_nil)) (da_cons (de_tup (da_cons (de_var 4) da_nil)) (da_cons (de_tup (da_cons (de_var 4) (da_cons (de_var 5) (da_cons (de_var 5) da_nil)))) (da_cons (de_tup (da_cons (de_var 5) (da_cons (de_var 4) da_nil))) (da_cons de_non (da_cons de_int (da_cons (de_var 4) (da_cons (de_tup (da_cons (de_var 4) (da_cons de_non da_nil))) (da_cons (de_tup da_nil) da_nil)))))))))))
    (dss_one (ds_ret (de_ix (de_var 8) (de_callJ 0 h_law_dip (da_cons de_int da_nil)))))) dss_nil)
    (dss_cons (ds_setE 9 (de_callJ 0 h_law_dip (da_cons (de_cb b_max B.max (da_cons de_int (da_cons (de_cb b_len B.len (da_cons (de_var 5) da_nil)) da_nil))) da_nil)))
    (dss_cons (ds_set 10 (de_ct t_list B.list (da_cons (de_var 5) da_nil)))
    (dss_cons (ds_if (dt_cmp c_gt (de_cb b_len B.len (da_cons (de_var 5) da_nil)) de_int) (dss_cons (ds_setE 11 (de_mod (de_var 6) (de_cb b_len B.len (da_cons (de_var 5) da_nil))))
    (dss_cons (ds_setitem 10 (de_var 11) (de_ix (de_var 5) (de_var 9)))
    (dss_one (ds_setitem 10 (de_var 9) (de_ix (de_var 5) (de_var 11)))))) dss_nil)
    (dss_one (ds_ret (de_tup (da_cons (de_var 4) (da_cons (de_ct t_tuple B.tuple (da_cons (de_var 10) da_nil)) da_nil))))))))))))))))
abbrev N_is_no_new : List Str := ["sheet", "thing"]
abbrev P_is_no_new : List Str := ["sheet", "thing"]
theorem sc_is_no_new : FnScope N_is_no_new P_is_no_new (defScope s_is_no_new) := ⟨rfl, rfl, rfl, by decide +kernel, rfl, by decide +kernel, by decide +kernel⟩
theorem d_is_no_new {G : GG} (B : Blt G) (h_is_ring : Def G 3 "is_ring" 2 sp_is_ring) (h_ties_none : Def G 3 "ties_none" 2 sp_ties_none) (h_ties_of : Def G 1 "ties_of" 1 sp_ties_of) : DSs G N_is_no_new (fnS (defScope s_is_no_new)) 3 (defBody s_is_no_new) t_is_no_new :=
    (dss_cons (ds_if (DWe.te (dw_or (dt_not (dt_val (de_cb b_isi B.isinstance (da_cons (de_var 1) (da_cons (de_bltn (v := .ty "tuple") rfl B.tuple (by decide +kernel) rfl) da_nil))))) (dw_or (dt_cmp c_ne (de_cb b_len B.len (da_cons (de_var 1) da_nil)) de_int) (dw_or1 (dt_not (dt_val (de_cb b_isi B.isinstance (da_cons (de_ix (de_var 1) de_int) (da_cons (de_bltn (v := .ty "str") rfl B.str (by decide +kernel) rfl) da_nil))))))))) (dss_one (ds_ret de_bl)) dss_nil)
    (dss_cons (ds_if (dt_cmp c_eq (de_ix (de_var 1) de_int) de_str) (dss_one (ds_ret (de_call h_ties_none (da_cons (de_call h_ties_of (da_cons (de_var 0) da_nil)) (da_cons (de_ix (de_var 1) de_int) da_nil))))) dss_nil)
    (dss_one (ds_ret (de_and (de_cmp c_eq (de_ix (de_var 1) de_int) de_str) (de_one (de_call h_is_ring (da_cons (de_call h_ties_of (da_cons (de_var 0) da_nil)) (da_cons (de_ix (de_var 1) de_int) da_nil)))))))))
abbrev N_law_web : List Str := ["jar", "most", "many", "way", "sizes", "k", "size", "groups", "step", "parts", "names", "worths", "name", "part"]
abbrev P_law_web : List Str := ["jar", "most"]
theorem sc_law_web : FnScope N_law_web P_law_web (defScope s_law_web) := ⟨rfl, rfl, rfl, by decide +kernel, rfl, by decide +kernel, by decide +kernel⟩
theorem d_law_web {G : GG} (B : Blt G) (h_law_dip : Def G 2 "_law_dip" 2 sp_law_dip) (h_law_some : Def G 3 "_law_some" 3 sp_law_some) (h_law_times : Def G 1 "_law_times" 1 sp_law_times) : DSs G N_law_web (fnS (defScope s_law_web)) 3 (defBody s_law_web) t_law_web :=
    (dss_cons (ds_setE 2 (de_add de_int (de_callJ 0 h_law_dip (da_cons (de_var 1) da_nil))))
    (dss_cons (ds_setE 3 (de_callJ 0 h_law_dip (da_cons de_int da_nil)))
    (dss_cons (ds_setE 4 (de_tup da_nil))
    (dss_cons (ds_for (di_range1 (da_cons (de_var 2) da_nil) B.range) (dg_name 5) (dss_cons (ds_setE 6 (de_ix (de_lst (da_cons de_int (da_cons de_int (da_cons de_int (da_cons de_int (da_cons de_int da_nil)))))) (de_callJ 0 h_law_dip (da_cons de_int da_nil))))
    (dss_one (ds_setE 4 (de_add (de_var 4) (de_tup (da_cons (de_if (dt_cmp c_le (de_mul (de_call h_law_times (da_cons (de_var 4) da_nil)) (de_var 6)) de_int) (de_var 6) de_int) da_nil)))))))
    (dss_cons (ds_setLcE [(Str.ofString "k", 5)] 7 (di_range1 (da_cons (de_callJ 0 h_law_dip (da_cons (de_add (de_mul de_int (de_var 2)) de_int) da_nil)) da_nil) B.range) (by decide +kernel) (dg_name 5) dtl_nil (de_callJ 0 h_law_some (da_cons (de_var 2) (da_cons de_int da_nil))))
    (dss_cons (ds_if (DWe.te (dw_and (dt_cmp c_eq (de_var 3) de_int) (dw_and1 (dt_cmp c_gt (de_var 2) de_int)))) (dss_one (ds_setE 7 (de_add (de_lc [(Str.ofString "k", 5)] (di_range1 (da_cons (de_var 2) da_nil) B.range) (by decide +kernel) (dg_name 5) dtl_nil (de_ct t_tuple B.tuple (da_cons (de_cb b_sorted B.sorted (da_cons (de_lst (da_cons (de_var 5) (da_cons (de_mod (de_add (de_var 5) de_int) (de_var 2)) da_nil))) da_nil)) da_nil))) (de_slice (de_var 7) do_none (do_some de_int))))) dss_nil)
    (dss_cons (ds_if (dt_cmp c_eq (de_var 3) de_int) (dss_one (ds_setLcE [(Str.ofString "k", 5)] 7 (di_range1 (da_cons (de_sub (de_var 2) de_int) da_nil) B.range) (by decide +kernel) (dg_name 5) dtl_nil (de_tup (da_cons (de_var 5) (da_cons (de_add (de_var 5) de_int) da_nil))))) dss_nil)
    (dss_cons (ds_if (dt_cmp c_eq (de_var 3) de_int) (dss_one (ds_setE 7 (de_add (de_lst (da_cons (de_tupRg (drg_1 (de_cb b_min B.min (da_cons (de_var 2) (da_cons de_int da_nil))) B.range) B.tuple) da_nil)) (de_slice (de_var 7) do_none (do_some de_int))))) dss_nil)
    (dss_cons (ds_if (DWe.te (dw_and (dt_cmp c_eq (de_var 3) de_int) (dw_and1 (dt_cmp c_gt (de_var 2) de_int)))) (dss_cons (ds_setE 8 (de_add de_int (de_callJ 0 h_law_dip (da_cons (de_sub (de_var 2) de_int) da_nil))))
    (dss_one (ds_setE 7 (de_add (de_lc [(Str.ofString "k", 5)] (di_range1 (da_cons (de_var 2) da_nil) B.range) (by decide +kernel) (dg_name 5) dtl_nil (de_ct t_tuple B.tuple (da_cons (de_cb b_sorted B.sorted (da_cons (de_lst (da_cons (de_var 5) (da_cons (de_mod (de_add (de_var 5) (de_var 8)) (de_var 2)) da_nil))) da_nil)) da_nil))) (de_slice (de_var 7) do_none (do_some de_int)))))) dss_nil)
    (dss_cons (ds_set 9 (de_lst da_nil))
    (dss_cons (ds_for (di_seq (de_var 7)) (dg_name 10) (dss_cons (ds_setE 11 (de_mulT (de_tup (da_cons de_int da_nil)) (de_call h_law_times (da_cons (de_lc [(Str.ofString "name", 12)] (di_seq (de_var 10)) (by decide +kernel) (dg_name 12) dtl_nil (de_ix (de_var 4) (de_var 12))) da_nil))))
    (dss_one (ds_if (DWe.te (dw_and (dt_cmp c_lt (de_cb b_len B.len (da_cons (de_var 9) da_nil)) de_int) (dw_and1 (dt_cmp c_le (de_add (de_cb b_sum B.sum (da_cons (de_lc [(Str.ofString "part", 13)] (di_seq (de_var 9)) (by decide +kernel) (dg_name 13) dtl_nil (de_cb b_len B.len (da_cons (de_ix (de_var 13) de_int) da_nil))) da_nil)) (de_cb b_len B.len (da_cons (de_var 11) da_nil))) de_int)))) (dss_one (ds_expr (de_append 9 (de_tup (da_cons (de_var 10) (da_cons (de_var 11) da_nil)))))) dss_nil))))
    (dss_one (ds_ret (de_tup (da_cons (de_var 4) (da_cons (de_ct t_tuple B.tuple (da_cons (de_var 9) da_nil)) da_nil))))))))))))))))
abbrev N_law : List Str := ["script", "jar", "turn", "sheet", "tied", "many", "some", "ring", "k", "some_ring", "right", "thing", "seen", "told"]
abbrev P_law : List Str := ["script"]
theorem sc_law : FnScope N_law P_law (defScope s_law) := ⟨rfl, rfl, rfl, by decide +kernel, rfl, by decide +kernel, by decide +kernel⟩
theorem d_law {G : GG} (B : Blt G) (h_law_bent : Def G 3 "_law_bent" 3 sp_law_bent) (h_law_dip : Def G 2 "_law_dip" 2 sp_law_dip) (h_law_due : Def G 3 "_law_due" 2 sp_law_due) (h_law_jar : Def G 1 "_law_jar" 1 sp_law_jar) (h_law_order : Def G 3 "_law_order" 2 sp_law_order) (h_law_tied : Def G 1 "_law_tied" 1 sp_law_tied) (h_law_web : Def G 4 "_law_web" 2 sp_law_web) (h_is_no_new : Def G 4 "is_no_new" 2 sp_is_no_new) (h_no_new_ties : Def G 3 "no_new_ties" 1 sp_no_new_ties) : DSs G N_law (fnS (defScope s_law)) 4 (defBody s_law) t_law :=
    (dss_cons (ds_set 1 (de_call h_law_jar (da_cons (de_var 0) da_nil)))
    (dss_cons (ds_for (di_range1 (da_cons de_int da_nil) B.range) (dg_name 2) (dss_cons (ds_setE 3 (de_callJ 1 h_law_web (da_cons (de_ix (de_lst (da_cons de_int (da_cons de_int da_nil))) (de_div (de_var 2) de_int)) da_nil)))
    (dss_cons (ds_setE 4 (de_call h_law_tied (da_cons (de_var 3) da_nil)))
    (dss_cons (ds_setE 5 (de_cb b_len B.len (da_cons (de_var 4) da_nil)))
    (dss_cons (ds_setE 6 (de_callJ 1 h_law_order (da_cons (de_listRg (drg_1 (de_var 5) B.range) B.list) da_nil)))
    (dss_cons (ds_setE 7 (de_tup (da_cons de_str (da_cons (de_ct t_tuple B.tuple (da_cons (de_lc [(Str.ofString "k", 8)] (di_range1 (da_cons (de_var 5) da_nil) B.range) (by decide +kernel) (dg_name 8) dtl_nil (de_mod (de_add (de_var 8) (de_ix (de_var 6) de_int)) (de_var 5))) da_nil)) da_nil))))
    (dss_cons (ds_setE 9 (de_tup (da_cons de_str (da_cons (de_slice (de_var 6) do_none (do_some (de_callJ 1 h_law_dip (da_cons (de_add (de_var 5) de_int) da_nil)))) da_nil))))
    (dss_one (ds_for (di_seq (de_lst (da_cons (de_call h_no_new_ties (da_cons (de_var 3) da_nil)) (da_cons (de_tup (da_cons de_str (da_cons (de_var 6) da_nil))) (da_cons (de_var 9) (da_cons (de_var 7) da_nil)))))) (dg_name 10) (dss_one (ds_for (di_range1 (da_cons de_int da_nil) B.range) (dg_name 8) (dss_cons (ds_setE 11 (de_if (dt_cmp c_eq (de_var 8) de_int) (de_var 10) (de_callJ 1 h_law_bent (da_cons (de_var 10) (da_cons (de_var 5) da_nil)))))
    (dss_cons (ds_setE 12 (de_repr B.repr (da_cons (de_var 11) da_nil)))
    (dss_cons (ds_setE 13 (de_call h_is_no_new (da_cons (de_var 3) (da_cons (de_var 11) da_nil))))
    (dss_one (ds_if (DWe.te (dw_or (dt_not (dt_val (de_cb b_isi B.isinstance (da_cons (de_var 13) (da_cons (de_bltn (v := .ty "bool") rfl B.bool (by decide +kernel) rfl) da_nil))))) (dw_or (dt_cmp c_ne (de_var 13) (de_call h_law_due (da_cons (de_var 4) (da_cons (de_var 11) da_nil)))) (dw_or1 (dt_cmp c_ne (de_repr B.repr (da_cons (de_var 11) da_nil)) (de_var 12)))))) (dss_one (ds_ret de_bl)) dss_nil))))))))))))))))
    (dss_one (ds_ret de_bl))))
theorem facts {w : World} {K : PySem.W.Frag} {h : Heap} {mg : Str → Option Value} {f : Addr} (X : K.In h) (N : h.Ns mainGlobals mg) (hf : mg ("law" : Str) = some (.ref f)) (c : He.SaysD fa fn K) (cx : ex K = true) :
    ∃ fd : FuncData, (∀ (s : Shared) (v : Value), BindsTo s fd ⟨[v], []⟩ [("script", v)]) ∧ ∀ base : Heap, K.In base → base.Ns mainGlobals mg → FnG PySem.Challenge.pw_sumorder_k46_orders_and_rings_looked_at w K mg base (L2.CX PySem.Challenge.pw_sumorder_k46_orders_and_rings_looked_at w) 5 f fd ["script"] (toSp K 1 (lawSpec 63)) := by
  obtain ⟨f_is_whole, F_is_whole⟩ := c.def_ 0 (d := y_is_whole) rfl
  have g_is_whole := He.glo_ok X N (c.fact 0 (f := .glo "is_whole") rfl)
  obtain ⟨f_ties_of, F_ties_of⟩ := c.def_ 1 (d := y_ties_of) rfl
  have g_ties_of := He.glo_ok X N (c.fact 1 (f := .glo "ties_of") rfl)
  obtain ⟨f_bag_by, F_bag_by⟩ := c.def_ 2 (d := y_bag_by) rfl
  have g_bag_by := He.glo_ok X N (c.fact 2 (f := .glo "bag_by") rfl)
  obtain ⟨f_all_tied, F_all_tied⟩ := c.def_ 3 (d := y_all_tied) rfl
  have g_all_tied := He.glo_ok X N (c.fact 3 (f := .glo "all_tied") rfl)
  obtain ⟨f_road, F_road⟩ := c.def_ 4 (d := y_road) rfl
  have g_road := He.glo_ok X N (c.fact 4 (f := .glo "road") rfl)
  obtain ⟨f_law_jar, F_law_jar⟩ := c.def_ 5 (d := y_law_jar) rfl
  have g_law_jar := He.glo_ok X N (c.fact 5 (f := .glo "_law_jar") rfl)
  obtain ⟨f_law_prime, F_law_prime⟩ := c.def_ 6 (d := y_law_prime) rfl
  have g_law_prime := He.glo_ok X N (c.fact 6 (f := .glo "_law_prime") rfl)
  obtain ⟨f_law_times, F_law_times⟩ := c.def_ 7 (d := y_law_times) rfl
  have g_law_times := He.glo_ok X N (c.fact 7 (f := .glo "_law_times") rfl)
  obtain ⟨f_law_tied, F_law_tied⟩ := c.def_ 8 (d := y_law_tied) rfl
  have g_law_tied := He.glo_ok X N (c.fact 8 (f := .glo "_law_tied") rfl)
  obtain ⟨f_law_bag, F_law_bag⟩ := c.def_ 9 (d := y_law_bag) rfl
  have g_law_bag := He.glo_ok X N (c.fact 9 (f := .glo "_law_bag") rfl)
  obtain ⟨f_law_whole_number, F_law_whole_number⟩ := c.def_ 10 (d := y_law_whole_number) rfl
  have g_law_whole_number := He.glo_ok X N (c.fact 10 (f := .glo "_law_whole_number") rfl)
  obtain ⟨f_is_order, F_is_order⟩ := c.def_ 11 (d := y_is_order) rfl
  have g_is_order := He.glo_ok X N (c.fact 11 (f := .glo "is_order") rfl)
  obtain ⟨f_ring_at, F_ring_at⟩ := c.def_ 12 (d := y_ring_at) rfl
  have g_ring_at := He.glo_ok X N (c.fact 12 (f := .glo "ring_at") rfl)
  obtain ⟨f_law_dip, F_law_dip⟩ := c.def_ 13 (d := y_law_dip) rfl
  have g_law_dip := He.glo_ok X N (c.fact 13 (f := .glo "_law_dip") rfl)
  obtain ⟨f_law_unlike_names, F_law_unlike_names⟩ := c.def_ 14 (d := y_law_unlike_names) rfl
  have g_law_unlike_names := He.glo_ok X N (c.fact 14 (f := .glo "_law_unlike_names") rfl)
  obtain ⟨f_no_new_ties, F_no_new_ties⟩ := c.def_ 15 (d := y_no_new_ties) rfl
  have g_no_new_ties := He.glo_ok X N (c.fact 15 (f := .glo "no_new_ties") rfl)
  obtain ⟨f_is_ring, F_is_ring⟩ := c.def_ 16 (d := y_is_ring) rfl
  have g_is_ring := He.glo_ok X N (c.fact 16 (f := .glo "is_ring") rfl)
  obtain ⟨f_ties_none, F_ties_none⟩ := c.def_ 17 (d := y_ties_none) rfl
  have g_ties_none := He.glo_ok X N (c.fact 17 (f := .glo "ties_none") rfl)
  obtain ⟨f_law_some, F_law_some⟩ := c.def_ 18 (d := y_law_some) rfl
  have g_law_some := He.glo_ok X N (c.fact 18 (f := .glo "_law_some") rfl)
  obtain ⟨f_law_order, F_law_order⟩ := c.def_ 19 (d := y_law_order) rfl
  have g_law_order := He.glo_ok X N (c.fact 19 (f := .glo "_law_order") rfl)
  obtain ⟨f_law_due, F_law_due⟩ := c.def_ 20 (d := y_law_due) rfl
  have g_law_due := He.glo_ok X N (c.fact 20 (f := .glo "_law_due") rfl)
  obtain ⟨f_law_bent, F_law_bent⟩ := c.def_ 21 (d := y_law_bent) rfl
  have g_law_bent := He.glo_ok X N (c.fact 21 (f := .glo "_law_bent") rfl)
  obtain ⟨f_is_no_new, F_is_no_new⟩ := c.def_ 22 (d := y_is_no_new) rfl
  have g_is_no_new := He.glo_ok X N (c.fact 22 (f := .glo "is_no_new") rfl)
  obtain ⟨f_law_web, F_law_web⟩ := c.def_ 23 (d := y_law_web) rfl
  have g_law_web := He.glo_ok X N (c.fact 23 (f := .glo "_law_web") rfl)
  obtain ⟨f_law, F_law⟩ := c.def_ 24 (d := y_law) rfl
  have e := hf.symm.trans (He.glo_ok X N (c.fact 24 (f := .glo "law") rfl))
  cases e
  have b := FunD.bindsA (ps := ["script"]) F_law fun _ _ _ _ _ _ us hl => match us, hl with | [_], _ => rfl
  refine ⟨f_law, fun s v => b s [v] rfl, fun base _ _ => ?_⟩
  let G : GG := ⟨PySem.Challenge.pw_sumorder_k46_orders_and_rings_looked_at, w, K, mg, base⟩
  have B : Blt G := ⟨He.free_ok X N (c.fact 25 (f := .free "len") rfl), He.free_ok X N (c.fact 26 (f := .free "range") rfl), He.free_ok X N (c.fact 27 (f := .free "sorted") rfl), He.free_ok X N (c.fact 28 (f := .free "set") rfl), He.free_ok X N (c.fact 29 (f := .free "tuple") rfl), He.free_ok X N (c.fact 30 (f := .free "list") rfl), He.free_ok X N (c.fact 31 (f := .free "dict") rfl), He.free_ok X N (c.fact 32 (f := .free "zip") rfl), He.free_ok X N (c.fact 33 (f := .free "enumerate") rfl), He.free_ok X N (c.fact 34 (f := .free "all") rfl), He.free_ok X N (c.fact 35 (f := .free "any") rfl), He.free_ok X N (c.fact 36 (f := .free "sum") rfl), He.free_ok X N (c.fact 37 (f := .free "min") rfl), He.free_ok X N (c.fact 38 (f := .free "max") rfl), He.free_ok X N (c.fact 39 (f := .free "isinstance") rfl), He.free_ok X N (c.fact 40 (f := .free "str") rfl), He.free_ok X N (c.fact 41 (f := .free "int") rfl), He.free_ok X N (c.fact 42 (f := .free "repr") rfl), He.free_ok X N (c.fact 43 (f := .free "bool") rfl)⟩
  have h_is_whole : Def G 1 "is_whole" 1 sp_is_whole := Def.of (st := s_is_whole) (m := 0) F_is_whole g_is_whole sc_is_whole (d_is_whole B ) m_is_whole rfl rfl (fun ds Q X h => by repeat (first | (refine Or.elim h (fun h => ?_) (fun h => ?_)) | (obtain ⟨rfl, _⟩ := h; rfl) | (obtain ⟨rfl | rfl, _⟩ := h <;> rfl) | (obtain ⟨⟨_, _, rfl, _⟩, _⟩ := h; rfl) | (obtain ⟨_, h⟩ := h))) (FunD.bindsN (ps := P_is_whole) F_is_whole fun _ _ _ _ _ _ us hl => match us, hl with | [_], _ => rfl)
  have h_ties_of : Def G 1 "ties_of" 1 sp_ties_of := Def.of (st := s_ties_of) (m := 5) F_ties_of g_ties_of sc_ties_of (d_ties_of B ) m_ties_of rfl rfl (fun ds Q X h => by repeat (first | (refine Or.elim h (fun h => ?_) (fun h => ?_)) | (obtain ⟨rfl, _⟩ := h; rfl) | (obtain ⟨rfl | rfl, _⟩ := h <;> rfl) | (obtain ⟨⟨_, _, rfl, _⟩, _⟩ := h; rfl) | (obtain ⟨_, h⟩ := h))) (FunD.bindsN (ps := P_ties_of) F_ties_of fun _ _ _ _ _ _ us hl => match us, hl with | [_], _ => rfl)
  have h_bag_by : Def G 1 "bag_by" 3 sp_bag_by := Def.of (st := s_bag_by) (m := 5) F_bag_by g_bag_by sc_bag_by (d_bag_by B ) m_bag_by rfl rfl (fun ds Q X h => by repeat (first | (refine Or.elim h (fun h => ?_) (fun h => ?_)) | (obtain ⟨rfl, _⟩ := h; rfl) | (obtain ⟨rfl | rfl, _⟩ := h <;> rfl) | (obtain ⟨⟨_, _, rfl, _⟩, _⟩ := h; rfl) | (obtain ⟨_, h⟩ := h))) (FunD.bindsN (ps := P_bag_by) F_bag_by fun _ _ _ _ _ _ us hl => match us, hl with | [_, _, _], _ => rfl)
  have h_all_tied : Def G 1 "all_tied" 2 sp_all_tied := Def.of (st := s_all_tied) (m := 2) F_all_tied g_all_tied sc_all_tied (d_all_tied B ) m_all_tied rfl rfl (fun ds Q X h => by repeat (first | (refine Or.elim h (fun h => ?_) (fun h => ?_)) | (obtain ⟨rfl, _⟩ := h; rfl) | (obtain ⟨rfl | rfl, _⟩ := h <;> rfl) | (obtain ⟨⟨_, _, rfl, _⟩, _⟩ := h; rfl) | (obtain ⟨_, h⟩ := h))) (FunD.bindsN (ps := P_all_tied) F_all_tied fun _ _ _ _ _ _ us hl => match us, hl with | [_, _], _ => rfl)
  have h_road : Def G 1 "road" 4 sp_road := Def.of (st := s_road) (m := 5) F_road g_road sc_road (d_road B ) m_road rfl rfl (fun ds Q X h => by repeat (first | (refine Or.elim h (fun h => ?_) (fun h => ?_)) | (obtain ⟨rfl, _⟩ := h; rfl) | (obtain ⟨rfl | rfl, _⟩ := h <;> rfl) | (obtain ⟨⟨_, _, rfl, _⟩, _⟩ := h; rfl) | (obtain ⟨_, h⟩ := h))) (FunD.bindsN (ps := P_road) F_road fun _ _ _ _ _ _ us hl => match us, hl with | [_, _, _, _], _ => rfl)
  have h_law_jar : Def G 1 "_law_jar" 1 sp_law_jar := Def.of (st := s_law_jar) (m := 0) F_law_jar g_law_jar sc_law_jar (d_law_jar B ) m_law_jar rfl rfl (fun ds Q X h => by repeat (first | (refine Or.elim h (fun h => ?_) (fun h => ?_)) | (obtain ⟨rfl, _⟩ := h; rfl) | (obtain ⟨rfl | rfl, _⟩ := h <;> rfl) | (obtain ⟨⟨_, _, rfl, _⟩, _⟩ := h; rfl) | (obtain ⟨_, h⟩ := h))) (FunD.bindsN (ps := P_law_jar) F_law_jar fun _ _ _ _ _ _ us hl => match us, hl with | [_], _ => rfl)
  have h_law_prime : Def G 1 "_law_prime" 1 sp_law_prime := Def.of (st := s_law_prime) (m := 1) F_law_prime g_law_prime sc_law_prime (d_law_prime B ) m_law_prime rfl rfl (fun ds Q X h => by repeat (first | (refine Or.elim h (fun h => ?_) (fun h => ?_)) | (obtain ⟨rfl, _⟩ := h; rfl) | (obtain ⟨rfl | rfl, _⟩ := h <;> rfl) | (obtain ⟨⟨_, _, rfl, _⟩, _⟩ := h; rfl) | (obtain ⟨_, h⟩ := h))) (FunD.bindsN (ps := P_law_prime) F_law_prime fun _ _ _ _ _ _ us hl => match us, hl with | [_], _ => rfl)
  have h_law_times : Def G 1 "_law_times" 1 sp_law_times := Def.of (st := s_law_times) (m := 2) F_law_times g_law_times sc_law_times (d_law_times B ) m_law_times rfl rfl (fun ds Q X h => by repeat (first | (refine Or.elim h (fun h => ?_) (fun h => ?_)) | (obtain ⟨rfl, _⟩ := h; rfl) | (obtain ⟨rfl | rfl, _⟩ := h <;> rfl) | (obtain ⟨⟨_, _, rfl, _⟩, _⟩ := h; rfl) | (obtain ⟨_, h⟩ := h))) (FunD.bindsN (ps := P_law_times) F_law_times fun _ _ _ _ _ _ us hl => match us, hl with | [_], _ => rfl)
  have h_law_tied : Def G 1 "_law_tied" 1 sp_law_tied := Def.of (st := s_law_tied) (m := 5) F_law_tied g_law_tied sc_law_tied (d_law_tied B ) m_law_tied rfl rfl (fun ds Q X h => by repeat (first | (refine Or.elim h (fun h => ?_) (fun h => ?_)) | (obtain ⟨rfl, _⟩ := h; rfl) | (obtain ⟨rfl | rfl, _⟩ := h <;> rfl) | (obtain ⟨⟨_, _, rfl, _⟩, _⟩ := h; rfl) | (obtain ⟨_, h⟩ := h))) (FunD.bindsN (ps := P_law_tied) F_law_tied fun _ _ _ _ _ _ us hl => match us, hl with | [_], _ => rfl)
  have h_law_bag : Def G 1 "_law_bag" 3 sp_law_bag := Def.of (st := s_law_bag) (m := 4) F_law_bag g_law_bag sc_law_bag (d_law_bag B ) m_law_bag rfl rfl (fun ds Q X h => by repeat (first | (refine Or.elim h (fun h => ?_) (fun h => ?_)) | (obtain ⟨rfl, _⟩ := h; rfl) | (obtain ⟨rfl | rfl, _⟩ := h <;> rfl) | (obtain ⟨⟨_, _, rfl, _⟩, _⟩ := h; rfl) | (obtain ⟨_, h⟩ := h))) (FunD.bindsN (ps := P_law_bag) F_law_bag fun _ _ _ _ _ _ us hl => match us, hl with | [_, _, _], _ => rfl)
  have h_law_whole_number : Def G 1 "_law_whole_number" 1 sp_law_whole_number := Def.of (st := s_law_whole_number) (m := 0) F_law_whole_number g_law_whole_number sc_law_whole_number (d_law_whole_number B ) m_law_whole_number rfl rfl (fun ds Q X h => by repeat (first | (refine Or.elim h (fun h => ?_) (fun h => ?_)) | (obtain ⟨rfl, _⟩ := h; rfl) | (obtain ⟨rfl | rfl, _⟩ := h <;> rfl) | (obtain ⟨⟨_, _, rfl, _⟩, _⟩ := h; rfl) | (obtain ⟨_, h⟩ := h))) (FunD.bindsN (ps := P_law_whole_number) F_law_whole_number fun _ _ _ _ _ _ us hl => match us, hl with | [_], _ => rfl)
  have h_is_order : Def G 2 "is_order" 2 sp_is_order := Def.of (st := s_is_order) (m := 1) F_is_order g_is_order sc_is_order (d_is_order B h_is_whole) m_is_order rfl rfl (fun ds Q X h => by repeat (first | (refine Or.elim h (fun h => ?_) (fun h => ?_)) | (obtain ⟨rfl, _⟩ := h; rfl) | (obtain ⟨rfl | rfl, _⟩ := h <;> rfl) | (obtain ⟨⟨_, _, rfl, _⟩, _⟩ := h; rfl) | (obtain ⟨_, h⟩ := h))) (FunD.bindsN (ps := P_is_order) F_is_order fun _ _ _ _ _ _ us hl => match us, hl with | [_, _], _ => rfl)
  have h_ring_at : Def G 2 "ring_at" 2 sp_ring_at := Def.of (st := s_ring_at) (m := 5) F_ring_at g_ring_at sc_ring_at (d_ring_at B h_road) m_ring_at rfl rfl (fun ds Q X h => by repeat (first | (refine Or.elim h (fun h => ?_) (fun h => ?_)) | (obtain ⟨rfl, _⟩ := h; rfl) | (obtain ⟨rfl | rfl, _⟩ := h <;> rfl) | (obtain ⟨⟨_, _, rfl, _⟩, _⟩ := h; rfl) | (obtain ⟨_, h⟩ := h))) (FunD.bindsN (ps := P_ring_at) F_ring_at fun _ _ _ _ _ _ us hl => match us, hl with | [_, _], _ => rfl)
  have h_law_dip : Def G 2 "_law_dip" 2 sp_law_dip := Def.of (st := s_law_dip) (m := 6) F_law_dip g_law_dip sc_law_dip (d_law_dip B h_law_prime) m_law_dip rfl rfl (fun ds Q X h => by repeat (first | (refine Or.elim h (fun h => ?_) (fun h => ?_)) | (obtain ⟨rfl, _⟩ := h; rfl) | (obtain ⟨rfl | rfl, _⟩ := h <;> rfl) | (obtain ⟨⟨_, _, rfl, _⟩, _⟩ := h; rfl) | (obtain ⟨_, h⟩ := h))) (FunD.bindsN (ps := P_law_dip) F_law_dip fun _ _ _ _ _ _ us hl => match us, hl with | [_, _], _ => rfl)
  have h_law_unlike_names : Def G 2 "_law_unlike_names" 2 sp_law_unlike_names := Def.of (st := s_law_unlike_names) (m := 1) F_law_unlike_names g_law_unlike_names sc_law_unlike_names (d_law_unlike_names B h_law_whole_number) m_law_unlike_names rfl rfl (fun ds Q X h => by repeat (first | (refine Or.elim h (fun h => ?_) (fun h => ?_)) | (obtain ⟨rfl, _⟩ := h; rfl) | (obtain ⟨rfl | rfl, _⟩ := h <;> rfl) | (obtain ⟨⟨_, _, rfl, _⟩, _⟩ := h; rfl) | (obtain ⟨_, h⟩ := h))) (FunD.bindsN (ps := P_law_unlike_names) F_law_unlike_names fun _ _ _ _ _ _ us hl => match us, hl with | [_, _], _ => rfl)
  have h_no_new_ties : Def G 3 "no_new_ties" 1 sp_no_new_ties := Def.of (st := s_no_new_ties) (m := 7) F_no_new_ties g_no_new_ties sc_no_new_ties (d_no_new_ties B h_all_tied h_ring_at h_ties_of) m_no_new_ties rfl rfl (fun ds Q X h => by repeat (first | (refine Or.elim h (fun h => ?_) (fun h => ?_)) | (obtain ⟨rfl, _⟩ := h; rfl) | (obtain ⟨rfl | rfl, _⟩ := h <;> rfl) | (obtain ⟨⟨_, _, rfl, _⟩, _⟩ := h; rfl) | (obtain ⟨_, h⟩ := h))) (FunD.bindsN (ps := P_no_new_ties) F_no_new_ties fun _ _ _ _ _ _ us hl => match us, hl with | [_], _ => rfl)
  have h_is_ring : Def G 3 "is_ring" 2 sp_is_ring := Def.of (st := s_is_ring) (m := 4) F_is_ring g_is_ring sc_is_ring (d_is_ring B h_is_order) m_is_ring rfl rfl (fun ds Q X h => by repeat (first | (refine Or.elim h (fun h => ?_) (fun h => ?_)) | (obtain ⟨rfl, _⟩ := h; rfl) | (obtain ⟨rfl | rfl, _⟩ := h <;> rfl) | (obtain ⟨⟨_, _, rfl, _⟩, _⟩ := h; rfl) | (obtain ⟨_, h⟩ := h))) (FunD.bindsN (ps := P_is_ring) F_is_ring fun _ _ _ _ _ _ us hl => match us, hl with | [_, _], _ => rfl)
  have h_ties_none : Def G 3 "ties_none" 2 sp_ties_none := Def.of (st := s_ties_none) (m := 1) F_ties_none g_ties_none sc_ties_none (d_ties_none B h_all_tied h_bag_by h_is_order) m_ties_none rfl rfl (fun ds Q X h => by repeat (first | (refine Or.elim h (fun h => ?_) (fun h => ?_)) | (obtain ⟨rfl, _⟩ := h; rfl) | (obtain ⟨rfl | rfl, _⟩ := h <;> rfl) | (obtain ⟨⟨_, _, rfl, _⟩, _⟩ := h; rfl) | (obtain ⟨_, h⟩ := h))) (FunD.bindsN (ps := P_ties_none) F_ties_none fun _ _ _ _ _ _ us hl => match us, hl with | [_, _], _ => rfl)
  have h_law_some : Def G 3 "_law_some" 3 sp_law_some := Def.of (st := s_law_some) (m := 3) F_law_some g_law_some sc_law_some (d_law_some B h_law_dip) m_law_some rfl rfl (fun ds Q X h => by repeat (first | (refine Or.elim h (fun h => ?_) (fun h => ?_)) | (obtain ⟨rfl, _⟩ := h; rfl) | (obtain ⟨rfl | rfl, _⟩ := h <;> rfl) | (obtain ⟨⟨_, _, rfl, _⟩, _⟩ := h; rfl) | (obtain ⟨_, h⟩ := h))) (FunD.bindsN (ps := P_law_some) F_law_some fun _ _ _ _ _ _ us hl => match us, hl with | [_, _, _], _ => rfl)
  have h_law_order : Def G 3 "_law_order" 2 sp_law_order := Def.of (st := s_law_order) (m := 2) F_law_order g_law_order sc_law_order (d_law_order B h_law_dip) m_law_order rfl rfl (fun ds Q X h => by repeat (first | (refine Or.elim h (fun h => ?_) (fun h => ?_)) | (obtain ⟨rfl, _⟩ := h; rfl) | (obtain ⟨rfl | rfl, _⟩ := h <;> rfl) | (obtain ⟨⟨_, _, rfl, _⟩, _⟩ := h; rfl) | (obtain ⟨_, h⟩ := h))) (FunD.bindsN (ps := P_law_order) F_law_order fun _ _ _ _ _ _ us hl => match us, hl with | [_, _], _ => rfl)
  have h_law_due : Def G 3 "_law_due" 2 sp_law_due := Def.of (st := s_law_due) (m := 7) F_law_due g_law_due sc_law_due (d_law_due B h_law_bag h_law_unlike_names) m_law_due rfl rfl (fun ds Q X h => by repeat (first | (refine Or.elim h (fun h => ?_) (fun h => ?_)) | (obtain ⟨rfl, _⟩ := h; rfl) | (obtain ⟨rfl | rfl, _⟩ := h <;> rfl) | (obtain ⟨⟨_, _, rfl, _⟩, _⟩ := h; rfl) | (obtain ⟨_, h⟩ := h))) (FunD.bindsN (ps := P_law_due) F_law_due fun _ _ _ _ _ _ us hl => match us, hl with | [_, _], _ => rfl)
  have h_law_bent : Def G 3 "_law_bent" 3 sp_law_bent := Def.of (st := s_law_bent) (m := 9) F_law_bent g_law_bent sc_law_bent (d_law_bent B h_law_dip) m_law_bent rfl rfl (fun ds Q X h => by repeat (first | (refine Or.elim h (fun h => ?_) (fun h => ?_)) | (obtain ⟨rfl, _⟩ := h; rfl) | (obtain ⟨rfl | rfl, _⟩ := h <;> rfl) | (obtain ⟨⟨_, _, rfl, _⟩, _⟩ := h; rfl) | (obtain ⟨_, h⟩ := h))) (FunD.bindsN (ps := P_law_bent) F_law_bent fun _ _ _ _ _ _ us hl => match us, hl with | [_, _, _], _ => rfl)
  have h_is_no_new : Def G 4 "is_no_new" 2 sp_is_no_new := Def.of (st := s_is_no_new) (m := 0) F_is_no_new g_is_no_new sc_is_no_new (d_is_no_new B h_is_ring h_ties_none h_ties_of) m_is_no_new rfl rfl (fun ds Q X h => by repeat (first | (refine Or.elim h (fun h => ?_) (fun h => ?_)) | (obtain ⟨rfl, _⟩ := h; rfl) | (obtain ⟨rfl | rfl, _⟩ := h <;> rfl) | (obtain ⟨⟨_, _, rfl, _⟩, _⟩ := h; rfl) | (obtain ⟨_, h⟩ := h))) (FunD.bindsN (ps := P_is_no_new) F_is_no_new fun _ _ _ _ _ _ us hl => match us, hl with | [_, _], _ => rfl)
  have h_law_web : Def G 4 "_law_web" 2 sp_law_web := Def.of (st := s_law_web) (m := 12) F_law_web g_law_web sc_law_web (d_law_web B h_law_dip h_law_some h_law_times) m_law_web rfl rfl (fun ds Q X h => by repeat (first | (refine Or.elim h (fun h => ?_) (fun h => ?_)) | (obtain ⟨rfl, _⟩ := h; rfl) | (obtain ⟨rfl | rfl, _⟩ := h <;> rfl) | (obtain ⟨⟨_, _, rfl, _⟩, _⟩ := h; rfl) | (obtain ⟨_, h⟩ := h))) (FunD.bindsN (ps := P_law_web) F_law_web fun _ _ _ _ _ _ us hl => match us, hl with | [_, _], _ => rfl)
  exact Def.ok (G := G) (st := s_law) (m := 13) F_law sc_law (d_law B h_law_bent h_law_dip h_law_due h_law_jar h_law_order h_law_tied h_law_web h_is_no_new h_no_new_ties) m_law rfl
end LS.K46.E
open PySem PySem.W PySem.Calls PyProof.Rows
theorem PySem.Challenge.cw_sumorder_k46_orders_and_rings_looked_at_holds : PySem.Challenge.rw_sumorder_k46_orders_and_rings_looked_at.Holds := by
  w_on; o_law
  refine HandSHeadRun.head_any (r := (OpenLaw.row PySem.Challenge.rw_sumorder_k46_orders_and_rings_looked_at)) (q := view (OpenLaw.row PySem.Challenge.rw_sumorder_k46_orders_and_rings_looked_at).prog [37]) (H := LS.K46.E.hk) (ob := LS.K46.E.ob) (M := 8000) (loose := LS.K46.E.nm) (d := HandSHeadRun.topDef (OpenLaw.row PySem.Challenge.rw_sumorder_k46_orders_and_rings_looked_at).prog 37) (kwd := []) LS.K46.E.obE
    (by kernel_rfl) (fun s => by kernel_rfl) LS.K46.E.topRun (by kernel_rfl) (by kernel_rfl) (by kernel_rfl) (by rfl) (by first | assumption | decide +kernel) (by decide +kernel) ⟨rfl, rfl, rfl, rfl, rfl, by decide +kernel⟩ ?hw ?hc
  case hw => w_witness2
  case hc =>
    refine HD.walkW (l := PySem.Challenge.rw_sumorder_k46_orders_and_rings_looked_at) (n := 63) (k := 5) (x := "script") (CX := fun w => L2.CX PySem.Challenge.pw_sumorder_k46_orders_and_rings_looked_at w) rfl (by decide) (by kernel_rfl) ⟨rfl, by decide, by decide⟩ ?F (fun w H s e s' z => HD.cx_no H s e s' z)
    intro w mg f h Y N hm
    obtain ⟨K, X, c, cx⟩ := Y
    have hf : mg ("law" : PySem.Str) = some (.ref f) := by
      have e : (HandSHeadRun.topDef (OpenLaw.row PySem.Challenge.rw_sumorder_k46_orders_and_rings_looked_at).prog 37).name = ("law" : PySem.Str) := by kernel_rfl
      rw [← e]; exact hm
    obtain ⟨fd, hb, hF⟩ := LS.K46.E.facts (w := w) X N hf c cx
    exact ⟨K, fd, _, X, hb, fun H a ns hl hS => HD.law_sp hl hS, hF⟩
