import PyProof.Rows.All
import Wide.All
import OpenK.AllK
import Wide.FinOn
import HandS.ForMost
import HandS.ForExc
import HandS.TupAny
import HandS.Conv
import HandS.HeadHook1
import HandS.Words
import HandS.WordsExc
import HandS.Ends
import HandS.ExcOwn
import HandS.TupLe
import HandS.Wide
import HandS.Strs
import HandS.SetFor
import HandS.SortInts
import HandS.IsInst
import HandS.Zip
import HandS.Flow
import HandS.Style
import KE.GoesNew
import KE.GoesMore
import HandS.ExcValue
import HandS.ExcIs
import HandS.HeadHook2
import HandS.Text
import KE.KStateDown
import HandS.Defaults
import HandS.Head0
import HandS.Head1
import HandS.Head2
import HandS.HeadEnd
import HandS.HeadNt
import PyProof.ReprRoads
import PyProof.ReprBulk
import PyProof.Rows.RegStrFacts
import HandS.RaiseMore
import KE.GoesEnum
import HandS.TupMul
import KE.KItemsList
import KE.KDictZip
import HandS.ListItems
import KE.KTupSum
import HandS.ForDict
import HandS.Iter
import PyProof.AutoSeq1
import KE.DataMinMax
import PyProof.Rows.RowBridgeK
import KE.KDictSum
import KE.SortData
import KE.DataCmp
import KE.KDictCopyH
import HandS.DictTup
import PyProof.Transfer
import HandS.WordsDict
import HandS.More
import PyProof.WalkInts
import HandS.Deep
import HandS.NoneIn
import PySem.Challenge.RW_sumorder_k75_trees_refused
set_option Elab.async false
set_option linter.all false
set_option maxRecDepth 100000
set_option maxHeartbeats 0
set_option autoImplicit false
namespace HD
open PySem PyProof.Rows L2
def TupD (K : PySem.W.Frag) (H : Hp) (a : Addr) (xs : List V) : Prop :=
  (∃ o : Obj, H a = some (.frz o (.tup xs)) ∧ o.dict = none) ∨
    ∃ (o : Obj) (its : Array Value) (n : Nat), K.lookup a = some o ∧ o.cls = .type "tuple" ∧ o.data = .seq its n ∧ its.size ≤ sizeLine ∧ Vals xs its.toList ∧ o.dict = none
theorem TupD.sq {K : PySem.W.Frag} {H : Hp} {a : Addr} {xs : List V} (h : TupD K H a xs) : SqT K H a xs := by
  rcases h with ⟨o, h, _⟩ | ⟨o, its, n, h1, h2, h3, h4, h5, _⟩
  · exact .inl (.inr ⟨o, h⟩)
  · exact .inr ⟨o, its, n, h1, h2, h3, h4, h5⟩
theorem TupD.same {K : PySem.W.Frag} {H H' : Hp} {a : Addr} {xs : List V} (e : Same H H') (h : TupD K H a xs) : TupD K H' a xs := by
  rcases h with ⟨o, h, d⟩ | h
  · exact .inl ⟨o, e _ _ h, d⟩
  · exact .inr h
theorem TupD.noDict {X : Cx} {pins : List (Addr × Obj)} {σ : L2.St} {H : Hp} {s : Shared} {a : Addr} {xs : List V} (I : Inv X pins σ H s) (h : TupD X.K H a xs) : ∃ ob, s.heap.get? a = some ob ∧ ob.dict = none := by
  rcases h with ⟨o, h, d⟩ | ⟨o, its, n, h1, h2, h3, h4, h5, d⟩
  · obtain ⟨e, _⟩ := (show ObjOk X.prog X.w H s.heap a (.frz o (.tup xs)) from I.hok a _ h)
    exact ⟨o, e, d⟩
  · exact ⟨o, I.kIn a o h1, d⟩
def newT (H : Hp) (xs : List V) (Q : VK) : Prop := ∀ (p : Addr) (o : Obj), H p = none → o.dict = none → Q (.ref p) (upd H p (.frz o (.tup xs)))
theorem laidT {X : Cx} {pins : List (Addr × Obj)} {σ : L2.St} {H : Hp} {s : Shared} {Q : VK} {xs : List V} {its : List Value} {tk : Nat} (I : Inv X pins σ H s) (r : Vals xs its) (hz : xs.length ≤ sizeLine) (q : newT H xs Q) :
    EP X pins σ Q (.ref s.heap.objs.size) { s with heap := s.heap.push { cls := .type "tuple", data := .seq its.toArray }, toks := tk } := by
  have hf : H s.heap.objs.size = none := I.hok.fresh (Nat.le_refl _)
  refine ⟨.ref s.heap.objs.size, _, I.laid (t' := tk) (fun b u e => Heap.get?_push_of_some _ e) (Nat.le_refl _) ?_, rfl, q _ { cls := .type "tuple", data := .seq its.toArray } hf rfl⟩
  exact ⟨Heap.get?_push_size _ rfl, hz, its, r, IsTup.new _ _⟩
section
variable {X : Cx}
def tTupF (t : TA) : TE := fun σ H Q => t σ H fun xs H1 => xs.length ≤ sizeLine ∧ newT H1 xs Q
theorem pe_tupF {x1} {es : List Expr} {t : TA} {pos : Pos} (h : PA X es t) : PE X (.Tuple es x1 pos) (tTupF t) := by
  refine ⟨fun pins s σ H Q I hq => ?_⟩
  refine wpAny_Tuple_spliced (thn (h.run pos pins s σ H _ I hq) fun us s1 ⟨xs, H1, I1, r, z, q⟩ => ⟨by rw [← r.length]; exact z, ?_⟩)
  exact laidT (tk := s1.toks) I1 r z q
def rCatF (K : PySem.W.Frag) : R2 := fun x y H Q => ∃ a b xs ys, x = .ref a ∧ y = .ref b ∧ SqT K H a xs ∧ SqT K H b ys ∧ xs.length + ys.length ≤ sizeLine ∧
  (xs = [] → Q (.ref b) H) ∧ (xs ≠ [] → ys = [] → Q (.ref a) H) ∧ (xs ≠ [] → ys ≠ [] → newT H (xs ++ ys) Q)
theorem op_catF : OpR X (binaryOp .Add) (rCatF X.K) := by
  intro pins s σ H x y v u Q I rx ry h
  obtain ⟨a, b, xs, ys, rfl, rfl, ha, hb, hz, q0, q1, q2⟩ := h
  cases rx
  cases ry
  obtain ⟨its, r1, p1, _⟩ := I.tuple ha
  obtain ⟨its2, r2, p2, _⟩ := I.tuple hb
  by_cases hx : xs = []
  · subst hx
    cases r1
    exact cat_tup0 p1 p2 ⟨.ref b, H, I, rfl, q0 rfl⟩
  · refine HT.cat_tup p1 p2 (fun z => hx (r1.nil_iff.mp z)) (fun z => ⟨.ref a, H, I, rfl, q1 hx (r2.nil_iff.mp z)⟩) (fun z => ?_) (by rw [← r1.length, ← r2.length]; exact hz)
    exact laidT (tk := s.toks) I (r1.append r2) (by rw [List.length_append]; exact hz) (q2 hx fun w => z (r2.nil_iff.mpr w))
def rSlF (K : PySem.W.Frag) : V → Option Int → Option Int → Hp → VK → Prop := fun x lo hi H Q => ∃ a xs, x = .ref a ∧ SqT K H a xs ∧
  (HT.sIx xs.length 0 lo = 0 ∧ HT.sIx xs.length xs.length hi = xs.length → Q (.ref a) H) ∧ (¬ (HT.sIx xs.length 0 lo = 0 ∧ HT.sIx xs.length xs.length hi = xs.length) → newT H (cutV xs lo hi) Q)
theorem sl_tupF : SlR X (rSlF X.K) := by
  intro pins s σ H x v vl vu lo hi sl Q I rx hs pl pu h
  obtain ⟨a, xs, rfl, hx, q1, q2⟩ := h
  cases rx
  obtain ⟨its, r, ht, hz⟩ := I.tuple hx
  have hlen : its.toArray.size = xs.length := by
    rw [List.size_toArray]
    exact r.length.symm
  refine ⟨"tuple", _, PyProof.Rows.slot_tuple_getitem.lookup, ht.typeIs, ?_⟩
  by_cases hw : HT.sIx xs.length 0 lo = 0 ∧ HT.sIx xs.length xs.length hi = xs.length
  · exact getItem_tuple_whole ht hs pl pu (by rw [hlen]; exact hw) ⟨.ref a, H, I, rfl, q1 hw⟩
  · refine HT.getItem_tuple_cut ht hs pl pu (by rw [hlen]; exact hw) ?_ (by rw [hlen]; exact hz)
    rw [hlen]
    exact laidT (tk := s.toks) I ((r.drop (HT.sIx xs.length 0 lo)).take (HT.sIx xs.length xs.length hi - HT.sIx xs.length 0 lo)) (Nat.le_trans (cutV_length xs lo hi) hz) (q2 hw)
theorem call_tupleF : CallR X (.type "tuple") (fun xs H Q => ∃ p ys, xs = [.ref p] ∧ ((SqL X.K H p ys ∧ newT H ys Q) ∨ (SqT X.K H p ys ∧ Q (.ref p) H))) := by
  intro pins s σ H xs us Q I r h
  obtain ⟨p, ys, rfl, h⟩ := h
  obtain ⟨u, rfl, rx⟩ := vals1 r
  cases rx
  rcases h with ⟨hq, q⟩ | ⟨hq, q⟩
  · obtain ⟨its, r', pl, hz⟩ := I.list hq
    have hlen := r'.length
    refine call_tuple_list pl.isList (fun h' kp => ?_) (by simp only [List.size_toArray] <;> omega)
    have I1 : Inv X pins σ H { s with heap := h' } := I.kept (t' := s.toks) kp
    exact laidT (tk := s.toks) I1 r' hz q
  · obtain ⟨its, r', pl, hz⟩ := I.tuple hq
    exact call_tuple_same pl ⟨.ref p, H, I, rfl, q⟩
def tTupRgF (te : L2.St → Hp → (Int → Int → Hp → Prop) → Prop) : TE := fun σ H Q => te σ H fun a b H1 => RgOk a b ∧ newT H1 (rgV a b) Q
theorem pe_tupRgF {e : Expr} {te : L2.St → Hp → (Int → Int → Hp → Prop) → Prop} {p pos : Pos} (hc : X.calm = true) (hg : Gl X "tuple") (hm : X.mg "tuple" = none) (he : PRg X e te) (na : starEach [e] X.env = (false, eval e X.env) :: starEach [] X.env) : PE X (.Call (.Name "tuple" p) [e] [] pos) (tTupRgF te) := by
  refine ⟨fun pins s σ H Q I h => ?_⟩
  refine Call_ (ld_blt I hg hm boot_tuple (PyProof.Rows.callWith_type1 (args_cons (thn (he pins s σ H _ I h) fun x s1 ⟨r, a, b, t, u, v, H1, ex, hr, I1, ok, q⟩ => args_nil ?_) na) na))
  subst ex
  obtain ⟨b1, b2, b3, b4, b5⟩ := ok
  refine call_tuple_range (n := (b - a).toNat) (I1.ok.hd hc) hr (small_one b1 b2 b3 b4) (rangeSize_nat a b) b5 fun h' tk acc hk hi => ?_
  have I2 : Inv X pins σ H1 { s1 with heap := h', toks := tk } := I1.kept hk
  have z := laidT (tk := tk) I2 (vals_rg hi) (by rw [rgV_length, sizeLine_eq]; omega) q
  rw [Array.toArray_toList] at z
  exact z
end
end HD
namespace HD
open PySem L2
abbrev clsV (K : PySem.W.Frag) (x : Str) : Value := .ref (He.ga K x)
inductive D where
  | non | bl (b : Bool) | int (i : Int) | str (x : Str) | val (v : V)
  | lst (ds : List D) | tup (ds : List D) | fz (ds : List D) | tk (ds : List D)
  | exc (c : Str)
  | glo (x : Str)
  | dk (ks : List Key) (ds : List D)
  | dt (ks : List (List Int)) (ds : List D)
def hT (ks : List Int) : Int := reduceHash (Builtin.Tuple.tupleHashOf (ks.map hashInt))
def dtO (a : Addr) (kbs : List (List Int × Addr × V)) : HO := .ext fun h => kbs.length ≤ sizeLine ∧ (a == sysModules) = false ∧ (kbs.map (·.1)).Nodup ∧ ∃ (us : List Value) (o : Obj) (es : Array DictEntry) (ep : Nat),
  Vals (kbs.map (·.2.2)) us ∧ h.get? a = some o ∧ o.ExactDict ∧ o.data = .dict es ep ∧ es.toList = (kbs.zip us).map fun x => ⟨hT x.1.1, .ref x.1.2.1, x.2⟩
mutual
def Rep (K : PySem.W.Frag) (F : Hp) : D → V → Prop
  | .non, v => v = .non
  | .bl b, v => v = .bl b
  | .int i, v => v = .int i
  | .str x, v => v = .str x
  | .val u, v => v = u
  | .lst ds, v => ∃ a xs, v = .ref a ∧ F a = some (.lst xs) ∧ Reps K F ds xs
  | .fz ds, v => ∃ a xs, v = .ref a ∧ SqL K F a xs ∧ Reps K F ds xs
  | .tup ds, v => ∃ a xs, v = .ref a ∧ TupD K F a xs ∧ Reps K F ds xs
  | .tk ds, v => ∃ a xs, v = .ref a ∧ SqT K F a xs ∧ Reps K F ds xs
  | .glo x, v => v = .ref (He.ga K x)
  | .exc c, v => ∃ a oe, v = .ref a ∧ F a = some (.frz oe (.own a)) ∧ oe.cls = clsV K c ∧ oe.dict = none ∧ ∃ vs, oe.data = .fields vs
  | .dk ks ds, v => ∃ a od vs, v = .ref a ∧ F a = some (.frz od (.dK vs)) ∧ vs.map (·.1) = ks ∧ Reps K F ds (vs.map (·.2))
  | .dt ks ds, v => ∃ a od kbs, v = .ref a ∧ F a = some (.frz od (dtO a kbs)) ∧ kbs.map (·.1) = ks ∧ (∀ x ∈ kbs, TupD K F x.2.1 (x.1.map V.int)) ∧ Reps K F ds (kbs.map (·.2.2))
def Reps (K : PySem.W.Frag) (F : Hp) : List D → List V → Prop
  | [], vs => vs = []
  | d :: ds, vs => ∃ v r, vs = v :: r ∧ Rep K F d v ∧ Reps K F ds r
end
theorem SqT.same {K : PySem.W.Frag} {F F' : Hp} {a : Addr} {xs : List V} (e : Same F F') (h : SqT K F a xs) : SqT K F' a xs := by
  rcases h with (h | ⟨o, h⟩) | h
  · exact .inl (.inl (e _ _ h))
  · exact .inl (.inr ⟨o, e _ _ h⟩)
  · exact .inr h
section
variable {K : PySem.W.Frag} {F F' : Hp}
mutual
theorem Rep.same (e : Same F F') : ∀ {d : D} {v : V}, Rep K F d v → Rep K F' d v
  | .non, _, h => h
  | .bl _, _, h => h
  | .int _, _, h => h
  | .str _, _, h => h
  | .val _, _, h => h
  | .lst _, _, h => by
    obtain ⟨a, xs, rfl, hs, hr⟩ := h
    exact ⟨a, xs, rfl, e _ _ hs, Reps.same e hr⟩
  | .fz _, _, h => by
    obtain ⟨a, xs, rfl, hs, hr⟩ := h
    exact ⟨a, xs, rfl, e.seq hs, Reps.same e hr⟩
  | .tup _, _, h => by
    obtain ⟨a, xs, rfl, hs, hr⟩ := h
    exact ⟨a, xs, rfl, TupD.same e hs, Reps.same e hr⟩
  | .tk _, _, h => by
    obtain ⟨a, xs, rfl, hs, hr⟩ := h
    exact ⟨a, xs, rfl, SqT.same e hs, Reps.same e hr⟩
  | .glo _, _, h => h
  | .exc _, _, h => by
    obtain ⟨a, oe, rfl, hs, hr⟩ := h
    exact ⟨a, oe, rfl, e _ _ hs, hr⟩
  | .dk _ _, _, h => by
    obtain ⟨a, od, vs, rfl, hs, hk, hr⟩ := h
    exact ⟨a, od, vs, rfl, e _ _ hs, hk, Reps.same e hr⟩
  | .dt _ _, _, h => by
    obtain ⟨a, od, vs, rfl, hs, hk, ht, hr⟩ := h
    exact ⟨a, od, vs, rfl, e _ _ hs, hk, fun x hx => TupD.same e (ht x hx), Reps.same e hr⟩
theorem Reps.same (e : Same F F') : ∀ {ds : List D} {vs : List V}, Reps K F ds vs → Reps K F' ds vs
  | [], _, h => h
  | _ :: _, _, h => by
    obtain ⟨v, r, rfl, h1, h2⟩ := h
    exact ⟨v, r, rfl, Rep.same e h1, Reps.same e h2⟩
end
theorem Reps.nil : Reps K F [] [] := rfl
theorem Reps.cons {d : D} {v : V} {ds : List D} {vs : List V} (h : Rep K F d v) (t : Reps K F ds vs) : Reps K F (d :: ds) (v :: vs) := ⟨v, vs, rfl, h, t⟩
theorem Reps.length : ∀ {ds : List D} {vs : List V}, Reps K F ds vs → ds.length = vs.length
  | [], _, h => by
    have e : _ = [] := h
    rw [e]
    rfl
  | _ :: ds, _, h => by
    obtain ⟨v, r, rfl, _, h2⟩ := h
    rw [List.length_cons, List.length_cons, Reps.length h2]
theorem Reps.get : ∀ {ds : List D} {vs : List V} {i : Nat} {d : D}, Reps K F ds vs → ds[i]? = some d → ∃ v, vs[i]? = some v ∧ Rep K F d v
  | [], _, _, _, _, e => by simp at e
  | _ :: ds, _, 0, _, h, e => by
    obtain ⟨v, r, rfl, h1, _⟩ := h
    have e' := Option.some.inj e
    subst e'
    exact ⟨v, rfl, h1⟩
  | _ :: ds, _, i + 1, _, h, e => by
    obtain ⟨v, r, rfl, _, h2⟩ := h
    exact Reps.get (i := i) h2 e
theorem Reps.of_get : ∀ {ds : List D} {vs : List V}, ds.length = vs.length → (∀ (i : Nat) d v, ds[i]? = some d → vs[i]? = some v → Rep K F d v) → Reps K F ds vs
  | [], [], _, _ => rfl
  | [], _ :: _, e, _ => by simp at e
  | _ :: _, [], e, _ => by simp at e
  | d :: ds, v :: vs, e, h => ⟨v, vs, rfl, h 0 d v rfl rfl, Reps.of_get (by simpa using e) fun i d' v' h1 h2 => h (i + 1) d' v' h1 h2⟩
theorem Reps.append : ∀ {ds es : List D} {vs us : List V}, Reps K F ds vs → Reps K F es us → Reps K F (ds ++ es) (vs ++ us)
  | [], _, _, _, h, g => by
    have e : _ = [] := h
    rw [e]
    exact g
  | _ :: _, _, _, _, h, g => by
    obtain ⟨v, r, rfl, h1, h2⟩ := h
    exact ⟨v, _, rfl, h1, Reps.append h2 g⟩
theorem Reps.one {d : D} {v : V} (h : Rep K F d v) : Reps K F [d] [v] := .cons h .nil
theorem Reps.take {ds : List D} {vs : List V} (h : Reps K F ds vs) (n : Nat) : Reps K F (ds.take n) (vs.take n) := by
  refine Reps.of_get (by rw [List.length_take, List.length_take, h.length]) fun i d v h1 h2 => ?_
  rw [List.getElem?_take] at h1 h2
  split at h1
  · rename_i hi
    rw [if_pos hi] at h2
    obtain ⟨v', e, r⟩ := h.get h1
    rw [h2] at e
    cases e
    exact r
  · cases h1
theorem Reps.drop {ds : List D} {vs : List V} (h : Reps K F ds vs) (n : Nat) : Reps K F (ds.drop n) (vs.drop n) := by
  refine Reps.of_get (by rw [List.length_drop, List.length_drop, h.length]) fun i d v h1 h2 => ?_
  rw [List.getElem?_drop] at h1 h2
  obtain ⟨v', e, r⟩ := h.get h1
  rw [h2] at e
  cases e
  exact r
theorem Reps.set {ds : List D} {vs : List V} (h : Reps K F ds vs) (n : Nat) {d : D} {v : V} (hd : Rep K F d v) : Reps K F (ds.set n d) (vs.set n v) := by
  refine Reps.of_get (by rw [List.length_set, List.length_set, h.length]) fun i d' v' h1 h2 => ?_
  rw [List.getElem?_set] at h1 h2
  split at h1
  · rename_i hi
    rw [if_pos hi] at h2
    split at h1
    · split at h2
      · cases h1
        cases h2
        exact hd
      · cases h2
    · cases h1
  · rename_i hi
    rw [if_neg hi] at h2
    obtain ⟨w, e, r⟩ := h.get h1
    rw [h2] at e
    cases e
    exact r
theorem Reps.eraseIdx : ∀ {ds : List D} {vs : List V} (n : Nat), Reps K F ds vs → Reps K F (ds.eraseIdx n) (vs.eraseIdx n)
  | [], _, _, h => by
    have e : _ = [] := h
    rw [e]
    exact rfl
  | _ :: _, _, 0, h => by
    obtain ⟨v, r, rfl, _, h2⟩ := h
    exact h2
  | _ :: _, _, n + 1, h => by
    obtain ⟨v, r, rfl, h1, h2⟩ := h
    exact ⟨v, _, rfl, h1, Reps.eraseIdx n h2⟩
theorem Reps.ints : ∀ {ns : List Int} {vs : List V}, Reps K F (ns.map D.int) vs → vs = ns.map V.int
  | [], _, h => h
  | n :: ns, _, h => by
    obtain ⟨v, r, rfl, h1, h2⟩ := h
    have e : v = .int n := h1
    rw [e, Reps.ints (ns := ns) h2]
    rfl
theorem Reps.of_ints : ∀ (ns : List Int), Reps K F (ns.map D.int) (ns.map V.int)
  | [] => rfl
  | n :: ns => ⟨_, _, rfl, rfl, Reps.of_ints ns⟩
theorem Reps.bls : ∀ {bs : List Bool} {vs : List V}, Reps K F (bs.map D.bl) vs → vs = bs.map V.bl
  | [], _, h => h
  | n :: ns, _, h => by
    obtain ⟨v, r, rfl, h1, h2⟩ := h
    have e : v = .bl n := h1
    rw [e, Reps.bls (bs := ns) h2]
    rfl
end
inductive OC where
  | lst (ds : List D)
  | dk (kvs : List (Key × D))
  | dt (kvs : List (List Int × D))
  | ins (c : Str) (dx : Addr) (fs : List (Str × D))
  | own (x : Addr)
  | lkK (od : Obj) (vs : List (Key × V)) (kvs : List (Key × D))
  | lkT (od : Obj) (kbs : List (List Int × Addr × V)) (kvs : List (List Int × D))
def OC.ok (K : PySem.W.Frag) (F : Hp) (a : Addr) : OC → HO → Prop
  | .lst ds, o => ∃ vs, o = .lst vs ∧ Reps K F ds vs
  | .dk kvs, o => ∃ vs : List (Key × V), o = .dK vs ∧ vs.map (·.1) = kvs.map (·.1) ∧ Reps K F (kvs.map (·.2)) (vs.map (·.2))
  | .dt kvs, o => ∃ kbs : List (List Int × Addr × V), o = dtO a kbs ∧ kbs.map (·.1) = kvs.map (·.1) ∧ (∀ x ∈ kbs, TupD K F x.2.1 (x.1.map V.int)) ∧ Reps K F (kvs.map (·.2)) (kbs.map (·.2.2))
  | .ins c dx fs, o => ∃ vs : List (Str × V), o = .ins (He.ga K c) dx vs ∧ vs.map (·.1) = fs.map (·.1) ∧ Reps K F (fs.map (·.2)) (vs.map (·.2))
  | .own x, o => o = .own x
  | .lkK od vs kvs, o => o = .frz od (.dK vs) ∧ vs.map (·.1) = kvs.map (·.1) ∧ Reps K F (kvs.map (·.2)) (vs.map (·.2))
  | .lkT od kbs kvs, o => o = .frz od (dtO a kbs) ∧ kbs.map (·.1) = kvs.map (·.1) ∧ (∀ x ∈ kbs, TupD K F x.2.1 (x.1.map V.int)) ∧ Reps K F (kvs.map (·.2)) (kbs.map (·.2.2))
theorem OC.ok.same {K : PySem.W.Frag} {F F' : Hp} {a : Addr} (e : Same F F') : ∀ {c : OC} {o : HO}, OC.ok K F a c o → OC.ok K F' a c o
  | .lst _, _, ⟨vs, h1, h2⟩ => ⟨vs, h1, h2.same e⟩
  | .dk _, _, ⟨vs, h1, h2, h3⟩ => ⟨vs, h1, h2, h3.same e⟩
  | .dt _, _, ⟨vs, h1, h2, h3, h4⟩ => ⟨vs, h1, h2, fun x hx => TupD.same e (h3 x hx), h4.same e⟩
  | .ins _ _ _, _, ⟨vs, h1, h2, h3⟩ => ⟨vs, h1, h2, h3.same e⟩
  | .own _, _, h => h
  | .lkK _ _ _, _, ⟨h1, h2, h3⟩ => ⟨h1, h2, h3.same e⟩
  | .lkT _ _ _, _, ⟨h1, h2, h3, h4⟩ => ⟨h1, h2, fun x hx => TupD.same e (h3 x hx), h4.same e⟩
def Loose (o : HO) : Prop := (∀ xs, o ≠ .tup xs) ∧ ∀ od xs, o ≠ .frz od (.tup xs)
theorem OC.ok.loose {K : PySem.W.Frag} {F : Hp} {a : Addr} : ∀ {c : OC} {o : HO}, OC.ok K F a c o → Loose o
  | .lst _, _, ⟨vs, h1, _⟩ => by subst h1; exact ⟨fun _ z => (nomatch z), fun _ _ z => (nomatch z)⟩
  | .dk _, _, ⟨vs, h1, _⟩ => by subst h1; exact ⟨fun _ z => (nomatch z), fun _ _ z => (nomatch z)⟩
  | .dt _, _, ⟨vs, h1, _⟩ => by subst h1; exact ⟨fun _ z => (nomatch z), fun _ _ z => (nomatch z)⟩
  | .ins _ _ _, _, ⟨vs, h1, _⟩ => by subst h1; exact ⟨fun _ z => (nomatch z), fun _ _ z => (nomatch z)⟩
  | .own _, _, h => by
    have e : _ = HO.own _ := h
    subst e
    exact ⟨fun _ z => (nomatch z), fun _ _ z => (nomatch z)⟩
  | .lkK _ _ _, _, ⟨h1, _⟩ => by subst h1; exact ⟨fun _ z => (nomatch z), fun _ _ z => (nomatch z)⟩
  | .lkT _ _ _, _, ⟨h1, _⟩ => by subst h1; exact ⟨fun _ z => (nomatch z), fun _ _ z => (nomatch z)⟩
inductive Sl where
  | un
  | ext (d : D)
  | lst (a : Addr) (ds : List D)
  | al (i : Nat) (a : Addr)
  | reg (d : D) (cs : List (Addr × OC))
  | ar (i : Nat) (b : Addr)
def Sl.owned : Sl → List Addr
  | .lst a _ => [a]
  | .reg _ cs => cs.map (·.1)
  | _ => []
def cellOf : List (Addr × OC) → Addr → Option OC
  | [], _ => none
  | p :: r, b => if p.1 = b then some p.2 else cellOf r b
def SlOk (K : PySem.W.Frag) (F H : Hp) (v : V) : Sl → Prop
  | .un => True
  | .ext d => Rep K F d v
  | .lst a ds => v = .ref a ∧ F a = none ∧ ∃ vs, H a = some (.lst vs) ∧ Reps K F ds vs
  | .al _ a => v = .ref a
  | .ar _ b => v = .ref b
  | .reg d cs => Rep K F d v ∧ (cs.map (·.1)).Nodup ∧ ∀ p ∈ cs, F p.1 = none ∧ ∃ o, H p.1 = some o ∧ OC.ok K F p.1 p.2 o
theorem SlOk.ndo {K : PySem.W.Frag} {F H : Hp} {v : V} : ∀ {sl : Sl}, SlOk K F H v sl → sl.owned.Nodup
  | .un, _ => List.nodup_nil
  | .ext _, _ => List.nodup_nil
  | .al _ _, _ => List.nodup_nil
  | .lst _ _, _ => List.pairwise_singleton _ _
  | .ar _ _, _ => List.nodup_nil
  | .reg _ _, h => h.2.1
structure Ent where
  F0 : Hp
  H0 : Hp
  A0 : List Addr
abbrev Env' := List Sl
abbrev Tmp := List (V × Sl)
def ownedE (env : Env') : List Addr := env.flatMap Sl.owned
def ownedT (T : Tmp) : List Addr := T.flatMap fun p => p.2.owned
structure Holds (K : PySem.W.Frag) (e : Ent) (env : Env') (T : Tmp) (F : Hp) (σ : St) (H : Hp) : Prop where
  fh : Same F H
  len : env.length = σ.length
  slots : ∀ (i : Nat) sl, env[i]? = some sl → sl = .un ∨ ∃ v, σ[i]? = some (some v) ∧ SlOk K F H v sl
  temps : ∀ p ∈ T, SlOk K F H p.1 p.2
  nd : (ownedE env ++ ownedT T).Nodup
  s1 : Same e.F0 F
  s2 : ∀ a o, e.H0 a = some o → a ∉ e.A0 → H a = some o ∧ (e.F0 a = none → F a = none)
  s3 : ∀ a ∈ ownedE env ++ ownedT T, a ∈ e.A0 ∨ e.H0 a = none
structure Grow (F H F1 H1 : Hp) : Prop where
  ff : Same F F1
  hh : Same H H1
  fh : Same F1 H1
  new : ∀ a, F1 a ≠ none → F a ≠ none ∨ H a = none
theorem Grow.refl {F H : Hp} (h : Same F H) : Grow F H F H := ⟨Same.refl _, Same.refl _, h, fun _ z => .inl z⟩
theorem Grow.trans {F H F1 H1 F2 H2 : Hp} (g : Grow F H F1 H1) (k : Grow F1 H1 F2 H2) : Grow F H F2 H2 :=
  ⟨g.ff.trans k.ff, g.hh.trans k.hh, k.fh, fun a z => by
    rcases k.new a z with z | z
    · exact g.new a z
    · exact .inr (g.hh.free z)⟩
theorem Grow.frozen {F H : Hp} {p : Addr} {o : HO} (fh : Same F H) (n : H p = none) : Grow F H (upd F p o) (upd H p o) where
  ff := fun b x q => by
    rw [upd_ne (ne_of_none (fh _ _ q) n)]
    exact q
  hh := fun b x q => by
    rw [upd_ne (ne_of_none q n)]
    exact q
  fh := fun b x q => by
    by_cases e : b = p
    · subst e
      rw [upd_same] at q ⊢
      exact q
    · rw [upd_ne e] at q ⊢
      exact fh _ _ q
  new := fun a z => by
    by_cases e : a = p
    · subst e
      exact .inr n
    · rw [upd_ne e] at z
      exact .inl z
theorem Grow.loose {F H : Hp} {p : Addr} {o : HO} (fh : Same F H) (n : H p = none) : Grow F H F (upd H p o) where
  ff := Same.refl _
  hh := fun b x q => by
    rw [upd_ne (ne_of_none q n)]
    exact q
  fh := fun b x q => by
    rw [upd_ne (ne_of_none (fh _ _ q) n)]
    exact fh _ _ q
  new := fun a z => .inl z
theorem SlOk.grow {K : PySem.W.Frag} {F H F1 H1 : Hp} {v : V} (g : Grow F H F1 H1) : ∀ {sl : Sl}, SlOk K F H v sl → SlOk K F1 H1 v sl
  | .un, _ => trivial
  | .ext d, h => Rep.same g.ff h
  | .al _ _, h => h
  | .lst a ds, h => by
    obtain ⟨rfl, n, vs, hv, hr⟩ := h
    refine ⟨rfl, ?_, vs, g.hh _ _ hv, hr.same g.ff⟩
    cases q : F1 a with
    | none => rfl
    | some o =>
      rcases g.new a (by rw [q]; simp) with z | z
      · exact absurd n z
      · rw [hv] at z
        cases z
  | .ar _ _, h => h
  | .reg d cs, h => by
    obtain ⟨rd, nd, hc⟩ := h
    refine ⟨Rep.same g.ff rd, nd, fun p hp => ?_⟩
    obtain ⟨n, o, ho, ok⟩ := hc p hp
    refine ⟨?_, o, g.hh _ _ ho, ok.same g.ff⟩
    cases q : F1 p.1 with
    | none => rfl
    | some o' =>
      rcases g.new p.1 (by rw [q]; simp) with z | z
      · exact absurd n z
      · rw [ho] at z
        cases z
section
variable {K : PySem.W.Frag} {e : Ent} {env : Env'} {T : Tmp} {F F1 : Hp} {σ : St} {H H1 : Hp}
theorem Holds.ownedL (h : Holds K e env T F σ H) : ∀ a ∈ ownedE env ++ ownedT T, F a = none ∧ ∃ o, H a = some o ∧ Loose o := fun a ha => by
  have key : ∀ v (sl : Sl), SlOk K F H v sl → a ∈ sl.owned → F a = none ∧ ∃ o, H a = some o ∧ Loose o := fun v sl ok hm => by
    cases sl with
    | un => cases hm
    | ext d => cases hm
    | al i b => cases hm
    | lst b ds =>
      obtain ⟨_, n, vs, hv, _⟩ := ok
      have z : a = b := List.mem_singleton.mp hm
      subst z
      exact ⟨n, _, hv, ⟨fun _ z => (nomatch z), fun _ _ z => (nomatch z)⟩⟩
    | ar i b => cases hm
    | reg b cs =>
      obtain ⟨_, _, hc⟩ := ok
      obtain ⟨p, hp, rfl⟩ := List.mem_map.mp hm
      obtain ⟨n, o, ho, ok⟩ := hc p hp
      exact ⟨n, o, ho, ok.loose⟩
  rcases List.mem_append.mp ha with ha | ha
  · obtain ⟨sl, hs, hm⟩ := List.mem_flatMap.mp ha
    obtain ⟨i, hi, rfl⟩ := List.getElem_of_mem hs
    rcases h.slots i _ (List.getElem?_eq_getElem hi) with z | ⟨v, _, ok⟩
    · rw [z] at hm
      cases hm
    · exact key v _ ok hm
  · obtain ⟨p, hp, hm⟩ := List.mem_flatMap.mp ha
    exact key p.1 p.2 (h.temps p hp) hm
theorem Holds.ownedH (h : Holds K e env T F σ H) : ∀ a ∈ ownedE env ++ ownedT T, F a = none ∧ ∃ o, H a = some o := fun a ha => by
  obtain ⟨n, o, ho, _⟩ := h.ownedL a ha
  exact ⟨n, o, ho⟩
theorem Holds.grow (h : Holds K e env T F σ H) (g : Grow F H F1 H1) : Holds K e env T F1 σ H1 where
  fh := g.fh
  len := h.len
  slots := fun i sl q => by
    rcases h.slots i sl q with z | ⟨v, hv, ok⟩
    · exact .inl z
    · exact .inr ⟨v, hv, ok.grow g⟩
  temps := fun p hp => (h.temps p hp).grow g
  nd := h.nd
  s1 := h.s1.trans g.ff
  s2 := fun a o q n => by
    obtain ⟨q1, q2⟩ := h.s2 a o q n
    refine ⟨g.hh _ _ q1, fun z => ?_⟩
    cases r : F1 a with
    | none => rfl
    | some x =>
      rcases g.new a (by rw [r]; simp) with y | y
      · exact absurd (q2 z) y
      · rw [q1] at y
        cases y
  s3 := h.s3
theorem Holds.push {v : V} {sl : Sl} (h : Holds K e env T F σ H) (g : Grow F H F1 H1) (ok : SlOk K F1 H1 v sl) (own : ∀ a ∈ sl.owned, H a = none) : Holds K e env ((v, sl) :: T) F1 σ H1 := by
  have h1 := h.grow g
  have old := h.ownedH
  have ndo : sl.owned.Nodup := ok.ndo
  have dis : ∀ a ∈ sl.owned, a ∉ ownedE env ++ ownedT T := fun a ha hb => by
    obtain ⟨_, vs, q⟩ := old a hb
    rw [own a ha] at q
    cases q
  refine ⟨h1.fh, h1.len, h1.slots, fun p hp => ?_, ?_, h1.s1, h1.s2, fun a ha => ?_⟩
  · rcases List.mem_cons.mp hp with rfl | hp
    · exact ok
    · exact h1.temps p hp
  · show (ownedE env ++ (sl.owned ++ ownedT T)).Nodup
    have z := h.nd
    rw [List.nodup_append] at z ⊢
    obtain ⟨z1, z2, z3⟩ := z
    refine ⟨z1, ?_, fun a ha b hb => ?_⟩
    · rw [List.nodup_append]
      exact ⟨ndo, z2, fun a ha b hb e => dis a ha (by rw [e]; exact List.mem_append_right _ hb)⟩
    · rcases List.mem_append.mp hb with hb | hb
      · exact fun e => dis b hb (by rw [← e]; exact List.mem_append_left _ ha)
      · exact z3 a ha b hb
  · have ha' : a ∈ ownedE env ++ (sl.owned ++ ownedT T) := ha
    rcases List.mem_append.mp ha' with hb | hb
    · exact h.s3 a (List.mem_append_left _ hb)
    · rcases List.mem_append.mp hb with hb | hb
      · have hn := own a hb
        cases q : e.H0 a with
        | none => exact .inr rfl
        | some o =>
          by_cases hA : a ∈ e.A0
          · exact .inl hA
          · rw [(h.s2 a o q hA).1] at hn
            cases hn
      · exact h.s3 a (List.mem_append_right _ hb)
theorem Holds.pushE {v : V} {d : D} (h : Holds K e env T F σ H) (ok : Rep K F d v) : Holds K e env ((v, .ext d) :: T) F σ H :=
  h.push (Grow.refl h.fh) ok fun a ha => by cases ha
theorem Holds.pushA {i : Nat} {a : Addr} (h : Holds K e env T F σ H) : Holds K e env ((.ref a, .al i a) :: T) F σ H :=
  h.push (Grow.refl h.fh) rfl fun a ha => by cases ha
theorem ownedT_sub {T T' : Tmp} (s : T'.Sublist T) : (ownedT T').Sublist (ownedT T) := by
  unfold ownedT
  induction s with
  | slnil => exact .slnil
  | cons a _ ih => exact ih.trans (List.sublist_append_right _ _)
  | cons_cons a _ ih => exact (List.Sublist.refl _).append ih
theorem Holds.sub {T' : Tmp} (h : Holds K e env T F σ H) (s : T'.Sublist T) : Holds K e env T' F σ H := by
  have so : (ownedT T').Sublist (ownedT T) := ownedT_sub s
  have sa : (ownedE env ++ ownedT T').Sublist (ownedE env ++ ownedT T) := (List.Sublist.refl _).append so
  exact ⟨h.fh, h.len, h.slots, fun p hp => h.temps p (s.subset hp), h.nd.sublist sa, h.s1, h.s2, fun a ha => h.s3 a (sa.subset ha)⟩
theorem Holds.pop {p : V × Sl} (h : Holds K e env (p :: T) F σ H) : Holds K e env T F σ H := h.sub (List.sublist_cons_self _ _)
theorem splitE {env : Env'} {i : Nat} {sl : Sl} (h : env[i]? = some sl) : ∃ A B, ownedE env = A ++ (sl.owned ++ B) ∧ ∀ sl', ownedE (env.set i sl') = A ++ (Sl.owned sl' ++ B) := by
  obtain ⟨hi, rfl⟩ := List.getElem?_eq_some_iff.mp h
  refine ⟨ownedE (env.take i), ownedE (env.drop (i + 1)), ?_, fun sl' => ?_⟩
  · have z : env = env.take i ++ env[i] :: env.drop (i + 1) := by
      rw [List.getElem_cons_drop, List.take_append_drop]
    have y := congrArg ownedE z
    rw [y]
    unfold ownedE
    rw [List.flatMap_append, List.flatMap_cons]
  · rw [List.set_eq_take_append_cons_drop, if_pos hi]
    unfold ownedE
    rw [List.flatMap_append, List.flatMap_cons]
theorem owned_two {env : Env'} {X : List Addr} {i j : Nat} {s1 s2 : Sl} {a : Addr} (nd : (ownedE env ++ X).Nodup) (h1 : env[i]? = some s1) (h2 : env[j]? = some s2) (m1 : a ∈ s1.owned) (m2 : a ∈ s2.owned) : i = j := by
  obtain ⟨A, B, e1, e2⟩ := splitE h1
  rcases Nat.lt_trichotomy i j with h | h | h
  · exfalso
    obtain ⟨hi, rfl⟩ := List.getElem?_eq_some_iff.mp h1
    obtain ⟨hj, rfl⟩ := List.getElem?_eq_some_iff.mp h2
    have z : env = env.take j ++ env[j] :: env.drop (j + 1) := by rw [List.getElem_cons_drop, List.take_append_drop]
    have y : ownedE env = ownedE (env.take j) ++ (env[j].owned ++ ownedE (env.drop (j + 1))) := by
      have y := congrArg ownedE z
      rw [y]
      unfold ownedE
      rw [List.flatMap_append, List.flatMap_cons]
    rw [y, List.append_assoc] at nd
    have q := (List.nodup_append.mp nd).2.2
    refine q a (List.mem_flatMap.mpr ⟨env[i], ?_, m1⟩) a (List.mem_append_left _ (List.mem_append_left _ m2)) rfl
    exact List.mem_iff_getElem?.mpr ⟨i, by rw [List.getElem?_take_of_lt h]; exact List.getElem?_eq_getElem hi⟩
  · exact h
  · exfalso
    obtain ⟨hi, rfl⟩ := List.getElem?_eq_some_iff.mp h1
    obtain ⟨hj, rfl⟩ := List.getElem?_eq_some_iff.mp h2
    have z : env = env.take i ++ env[i] :: env.drop (i + 1) := by rw [List.getElem_cons_drop, List.take_append_drop]
    have y : ownedE env = ownedE (env.take i) ++ (env[i].owned ++ ownedE (env.drop (i + 1))) := by
      have y := congrArg ownedE z
      rw [y]
      unfold ownedE
      rw [List.flatMap_append, List.flatMap_cons]
    rw [y, List.append_assoc] at nd
    have q := (List.nodup_append.mp nd).2.2
    refine q a (List.mem_flatMap.mpr ⟨env[j], ?_, m2⟩) a (List.mem_append_left _ (List.mem_append_left _ m1)) rfl
    exact List.mem_iff_getElem?.mpr ⟨j, by rw [List.getElem?_take_of_lt h]; exact List.getElem?_eq_getElem hj⟩
theorem mem_ownedE {env : Env'} {i : Nat} {sl : Sl} {a : Addr} (h : env[i]? = some sl) (m : a ∈ sl.owned) : a ∈ ownedE env :=
  List.mem_flatMap.mpr ⟨sl, List.mem_iff_getElem?.mpr ⟨i, h⟩, m⟩
theorem SlOk.write {v : V} {a : Addr} {o : HO} : ∀ {sl : Sl}, a ∉ sl.owned → SlOk K F H v sl → SlOk K F (upd H a o) v sl
  | .un, _, _ => trivial
  | .ext _, _, h => h
  | .al _ _, _, h => h
  | .lst b ds, n, h => by
    obtain ⟨rfl, q, vs, hv, hr⟩ := h
    refine ⟨rfl, q, vs, ?_, hr⟩
    have nb : b ≠ a := fun z => n (by rw [z]; exact List.mem_singleton.mpr rfl)
    rw [upd_ne nb]
    exact hv
  | .ar _ _, _, h => h
  | .reg b cs, n, h => by
    obtain ⟨rd, nd, hc⟩ := h
    refine ⟨rd, nd, fun p hp => ?_⟩
    obtain ⟨q, o', ho, ok⟩ := hc p hp
    have nb : p.1 ≠ a := fun z => n (by rw [← z]; exact List.mem_map.mpr ⟨p, hp, rfl⟩)
    exact ⟨q, o', by rw [upd_ne nb]; exact ho, ok⟩
theorem Holds.write {i : Nat} {a : Addr} {ds ds' : List D} {vs' : List V} (h : Holds K e env T F σ H) (hi : env[i]? = some (.lst a ds)) (hr : Reps K F ds' vs') : Holds K e (env.set i (.lst a ds')) T F σ (upd H a (.lst vs')) := by
  obtain ⟨A, B, e1, e2⟩ := splitE hi
  have own : ownedE (env.set i (.lst a ds')) = ownedE env := by
    rw [e1, e2]
    rfl
  have ma : a ∈ ownedE env := mem_ownedE hi (List.mem_singleton.mpr rfl)
  have mm : a ∈ ownedE env ++ ownedT T := List.mem_append_left _ ma
  obtain ⟨Fn, _⟩ := h.ownedH a mm
  refine ⟨fun b o q => ?_, by rw [List.length_set]; exact h.len, fun j sl q => ?_, fun p hp => (h.temps p hp).write fun m => ?_, by rw [own]; exact h.nd, h.s1, fun b o q n => ?_, by rw [own]; exact h.s3⟩
  · have nb : b ≠ a := fun z => by
      rw [z, Fn] at q
      cases q
    rw [upd_ne nb]
    exact h.fh b o q
  · rw [List.getElem?_set] at q
    split at q
    · rename_i ij
      subst ij
      split at q
      · cases q
        right
        rcases h.slots i _ hi with z | ⟨v, hv, rfl, q1, _⟩
        · cases z
        · exact ⟨_, hv, rfl, q1, vs', upd_same, hr⟩
      · cases q
    · rename_i ij
      rcases h.slots j sl q with z | ⟨v, hv, ok⟩
      · exact .inl z
      · refine .inr ⟨v, hv, ok.write fun m => ij (owned_two h.nd hi q (List.mem_singleton.mpr rfl) m)⟩
  · exact (List.nodup_append.mp h.nd).2.2 a ma a (List.mem_flatMap.mpr ⟨p, hp, m⟩) rfl
  · have nb : b ≠ a := fun z => by
      subst z
      rcases h.s3 b mm with y | y
      · exact n y
      · rw [q] at y
        cases y
    rw [upd_ne nb]
    exact h.s2 b o q n
theorem Holds.writeT {v : V} {a : Addr} {ds ds' : List D} {vs' : List V} (h : Holds K e env ((v, .lst a ds) :: T) F σ H) (hr : Reps K F ds' vs') : Holds K e env ((v, .lst a ds') :: T) F σ (upd H a (.lst vs')) := by
  have mT : a ∈ ownedT ((v, Sl.lst a ds) :: T) := List.mem_append_left _ (List.mem_singleton.mpr rfl)
  have mm : a ∈ ownedE env ++ ownedT ((v, Sl.lst a ds) :: T) := List.mem_append_right _ mT
  obtain ⟨Fn, _⟩ := h.ownedH a mm
  have z3 := (List.nodup_append.mp h.nd).2.2
  have zT : ([a] ++ ownedT T).Nodup := (List.nodup_append.mp h.nd).2.1
  refine ⟨fun b o q => ?_, h.len, fun j sl q => ?_, fun p hp => ?_, h.nd, h.s1, fun b o q n => ?_, h.s3⟩
  · have nb : b ≠ a := fun z => by
      rw [z, Fn] at q
      cases q
    rw [upd_ne nb]
    exact h.fh b o q
  · rcases h.slots j sl q with z | ⟨w, hw, ok⟩
    · exact .inl z
    · exact .inr ⟨w, hw, ok.write fun m => z3 a (mem_ownedE q m) a mT rfl⟩
  · rcases List.mem_cons.mp hp with rfl | hp
    · obtain ⟨rfl, q1, _⟩ := h.temps (v, .lst a ds) List.mem_cons_self
      exact ⟨rfl, q1, vs', upd_same, hr⟩
    · refine (h.temps p (List.mem_cons_of_mem _ hp)).write fun m => ?_
      exact (List.nodup_append.mp zT).2.2 a (List.mem_singleton.mpr rfl) a (List.mem_flatMap.mpr ⟨p, hp, m⟩) rfl
  · have nb : b ≠ a := fun z => by
      subst z
      rcases h.s3 b mm with y | y
      · exact n y
      · rw [q] at y
        cases y
    rw [upd_ne nb]
    exact h.s2 b o q n
theorem SlOk.freeze {v : V} {a : Addr} {vs : List V} (hF : F a = none) : ∀ {sl : Sl}, a ∉ sl.owned → SlOk K F H v sl → SlOk K (upd F a (.lst vs)) H v sl := by
  have sm : Same F (upd F a (.lst vs)) := fun b o q => by
    rw [upd_ne (ne_of_none q hF)]
    exact q
  intro sl n h
  cases sl with
  | un => trivial
  | ext d => exact Rep.same sm h
  | al i b => exact h
  | lst b ds =>
    obtain ⟨rfl, q, us, hv, hr⟩ := h
    refine ⟨rfl, ?_, us, hv, hr.same sm⟩
    have nb : b ≠ a := fun z => n (by rw [z]; exact List.mem_singleton.mpr rfl)
    rw [upd_ne nb]
    exact q
  | ar i b => exact h
  | reg b cs =>
    obtain ⟨rd, nd, hc⟩ := h
    refine ⟨Rep.same sm rd, nd, fun p hp => ?_⟩
    obtain ⟨q, o', ho, ok⟩ := hc p hp
    have nb : p.1 ≠ a := fun z => n (by rw [← z]; exact List.mem_map.mpr ⟨p, hp, rfl⟩)
    exact ⟨by rw [upd_ne nb]; exact q, o', ho, ok.same sm⟩
theorem Holds.freezeT {v : V} {a : Addr} {ds : List D} (h : Holds K e env ((v, .lst a ds) :: T) F σ H) : ∃ F1, Same F F1 ∧ Holds K e env ((v, .ext (.lst ds)) :: T) F1 σ H := by
  have mT : a ∈ ownedT ((v, Sl.lst a ds) :: T) := List.mem_append_left _ (List.mem_singleton.mpr rfl)
  have mm : a ∈ ownedE env ++ ownedT ((v, Sl.lst a ds) :: T) := List.mem_append_right _ mT
  obtain ⟨rfl, hF, vs, hv, hr⟩ := h.temps (v, .lst a ds) List.mem_cons_self
  have z3 := (List.nodup_append.mp h.nd).2.2
  have zT : ([a] ++ ownedT T).Nodup := (List.nodup_append.mp h.nd).2.1
  have hF : F a = none := hF
  have sm : Same F (upd F a (.lst vs)) := fun b o q => by
    rw [upd_ne (ne_of_none q hF)]
    exact q
  have sub : (ownedE env ++ ownedT ((V.ref a, Sl.ext (.lst ds)) :: T)).Sublist (ownedE env ++ ownedT ((V.ref a, Sl.lst a ds) :: T)) :=
    (List.Sublist.refl _).append (List.sublist_append_right [a] (ownedT T))
  refine ⟨upd F a (.lst vs), sm, fun b o q => ?_, h.len, fun j sl q => ?_, fun p hp => ?_, h.nd.sublist sub, h.s1.trans sm, fun b o q n => ?_, fun b hb => h.s3 b (sub.subset hb)⟩
  · by_cases nb : b = a
    · rw [nb, upd_same] at q
      rw [nb, hv]
      exact q
    · rw [upd_ne nb] at q
      exact h.fh b o q
  · rcases h.slots j sl q with z | ⟨w, hw, ok⟩
    · exact .inl z
    · exact .inr ⟨w, hw, ok.freeze hF fun m => z3 a (mem_ownedE q m) a mT rfl⟩
  · rcases List.mem_cons.mp hp with rfl | hp
    · exact ⟨a, vs, rfl, upd_same, hr.same sm⟩
    · refine (h.temps p (List.mem_cons_of_mem _ hp)).freeze hF fun m => ?_
      exact (List.nodup_append.mp zT).2.2 a (List.mem_singleton.mpr rfl) a (List.mem_flatMap.mpr ⟨p, hp, m⟩) rfl
  · have nb : b ≠ a := fun z => by
      subst z
      rcases h.s3 b mm with y | y
      · exact n y
      · rw [q] at y
        cases y
    rw [upd_ne nb]
    exact h.s2 b o q n
theorem Holds.unset (h : Holds K e env T F σ H) (i : Nat) : Holds K e (env.set i .un) T F σ H := by
  by_cases hl : i < env.length
  · obtain ⟨A, B, e1, e2⟩ := splitE (List.getElem?_eq_getElem hl)
    have sub : (ownedE (env.set i .un) ++ ownedT T).Sublist (ownedE env ++ ownedT T) := by
      rw [e2, e1]
      exact ((List.Sublist.refl _).append (List.sublist_append_right _ _)).append (List.Sublist.refl _)
    refine ⟨h.fh, by rw [List.length_set]; exact h.len, fun j sl q => ?_, h.temps, h.nd.sublist sub, h.s1, h.s2, fun a ha => h.s3 a (sub.subset ha)⟩
    rw [List.getElem?_set] at q
    split at q
    · cases q
      exact .inl rfl
    · exact h.slots j sl q
  · rw [List.set_eq_of_length_le (by omega)]
    exact h
def Sl.plain : Sl → Prop
  | .al _ _ => False
  | .ar _ _ => False
  | _ => True
theorem Holds.assign {v : V} {sl : Sl} (h : Holds K e env ((v, sl) :: T) F σ H) (i : Nat) (hp : sl.plain) : Holds K e (env.set i sl) T F (σ.set i (some v)) H := by
  by_cases hl : i < env.length
  · obtain ⟨A, B, e1, e2⟩ := splitE (List.getElem?_eq_getElem hl)
    have sub : (A ++ B ++ (sl.owned ++ ownedT T)).Sublist (ownedE env ++ ownedT ((v, sl) :: T)) := by
      rw [e1]
      exact ((List.Sublist.refl _).append (List.sublist_append_right _ _)).append (List.Sublist.refl _)
    have perm : (A ++ B ++ (sl.owned ++ ownedT T)).Perm (ownedE (env.set i sl) ++ ownedT T) := by
      rw [e2, List.append_assoc, List.append_assoc]
      refine List.Perm.append_left A ?_
      rw [List.append_assoc, ← List.append_assoc, ← List.append_assoc]
      exact List.Perm.append_right _ List.perm_append_comm
    refine ⟨h.fh, by rw [List.length_set, List.length_set]; exact h.len, fun j s q => ?_, fun p hp => h.temps p (List.mem_cons_of_mem _ hp), perm.nodup (h.nd.sublist sub), h.s1, h.s2, fun a ha => h.s3 a (sub.subset (perm.mem_iff.mpr ha))⟩
    rw [List.getElem?_set] at q
    rw [List.getElem?_set]
    split at q
    · rename_i ij
      rw [if_pos ij, if_pos (by rw [← h.len]; exact hl)]
      cases q
      exact .inr ⟨v, rfl, h.temps (v, sl) List.mem_cons_self⟩
    · rename_i ij
      rw [if_neg ij]
      exact h.slots j s q
  · rw [List.set_eq_of_length_le (by omega), List.set_eq_of_length_le (by rw [← h.len]; omega)]
    exact h.pop
theorem Holds.take {i : Nat} {sl : Sl} {v : V} (h : Holds K e env T F σ H) (hi : env[i]? = some sl) (hv : σ[i]? = some (some v)) : Holds K e (env.set i .un) ((v, sl) :: T) F σ H := by
  obtain ⟨A, B, e1, e2⟩ := splitE hi
  have perm : (ownedE env ++ ownedT T).Perm (ownedE (env.set i .un) ++ ownedT ((v, sl) :: T)) := by
    rw [e1, e2]
    show (A ++ (sl.owned ++ B) ++ ownedT T).Perm (A ++ ([] ++ B) ++ (sl.owned ++ ownedT T))
    rw [List.append_assoc, List.append_assoc, List.nil_append, List.append_assoc]
    refine List.Perm.append_left A ?_
    rw [← List.append_assoc, ← List.append_assoc]
    exact List.Perm.append_right _ List.perm_append_comm
  refine ⟨h.fh, by rw [List.length_set]; exact h.len, (h.unset i).slots, fun p hp => ?_, perm.nodup h.nd, h.s1, h.s2, fun a ha => h.s3 a (perm.mem_iff.mpr ha)⟩
  rcases List.mem_cons.mp hp with rfl | hp
  · rcases h.slots i sl hi with z | ⟨w, hw, ok⟩
    · subst z
      trivial
    · rw [hv] at hw
      cases hw
      exact ok
  · exact h.temps p hp
theorem Holds.freeze {i : Nat} {a : Addr} {ds : List D} (h : Holds K e env T F σ H) (hi : env[i]? = some (.lst a ds)) : ∃ F1, Same F F1 ∧ Holds K e (env.set i (.ext (.lst ds))) T F1 σ H := by
  rcases h.slots i _ hi with z | ⟨v, hv, ok⟩
  · cases z
  · obtain ⟨F1, sm, h1⟩ := (h.take hi hv).freezeT
    have h2 := h1.assign i trivial
    rw [List.set_set] at h2
    have z : σ.set i (some v) = σ := by
      obtain ⟨hl, e⟩ := List.getElem?_eq_some_iff.mp hv
      rw [← e]
      exact List.set_getElem_self hl
    rw [z] at h2
    exact ⟨F1, sm, h2⟩
theorem Holds.bare (h : Holds K e env T F σ H) : Holds K e env [] F σ H := h.sub (List.nil_sublist _)
end
end HD
namespace HD
open PySem PySem.Spec PyProof.Rows L2
structure FnG (P : Program) (w : World) (K : PySem.W.Frag) (mg : Str → Option Value) (base : Heap) (C : CXT) (k : Nat) (f : Addr) (fd : FuncData) (ps : List Str) (sp : Sp) : Prop where
  fit : ∀ vs H Q E, sp vs H Q E → vs.length = ps.length
  go : ∀ (A : Around) (out : List Env) (t : Shared) (H : Hp) (args : Args) (us : List Value) (vs : List V) (Q : VK) (E : XK), A.guards = some [] → Room k A → Env0 P w K mg base A out t H → BindsTo t fd args (ps.zip us) → Vals vs us → sp vs H Q E →
    codeAny (model P w) A (.call (.ref f) args) (CR C out P w H t Q E) t
section
variable {P : Program} {w : World} {K : PySem.W.Frag} {mg : Str → Option Value} {base : Heap} {C : CXT} {k : Nat} {f : Addr} {fd : FuncData} {N ps : List Str} {sp : Sp} {x qual : Str} {st : Stmt}
theorem fnG_of (hF : Fun K x qual st f fd) (S : FnScope N ps (defScope st)) (fit : ∀ vs H Q E, sp vs H Q E → vs.length = ps.length)
    (body : ∀ (cd : Value) (A : Around) (out : List Env) (t : Shared) (H : Hp) (vs : List V) (Q : VK) (E : XK), A.guards = some [] → Room k (A.deeper (envOfC qual (defScope st) t.heap.objs.size f cd)) → sp vs H Q E →
      ∃ tt, PSs (cxOf C P w K mg base N qual (defScope st) f cd A out t H E) (defBody st) tt ∧ tt { nx := fun _ H' => Q .non H', rt := Q } (L2.start N vs) H) : FnG P w K mg base C (k + 1) f fd ps sp := by
  obtain ⟨oc, od, kV, doc, pm, an, cd, ct, osl, rfl, at_f, code⟩ := hF.ex
  refine ⟨fit, fun A out t H args us vs Q E gd room e0 bnd rel hsp => ?_⟩
  have inK : K.In t.heap := e0.mod.kin.keeps fun b o q => (e0.bs b o q).1
  have noLim : t.heap.NoLimit := e0.mod.nolimit.keeps fun b o q => (e0.bs b o q).1
  refine codeAny_call_function room.depth (inK _ _ at_f) rfl S.co S.gen rfl (PySem.W.codeRec_of inK code) (bnd _ _ _ _ ?_)
  refine wpAny_newFunctionEnv_cells S.kind (fun y hy => ?_) fun env he t1 call => ?_
  · obtain ⟨nm, v⟩ := y
    rcases S.par nm (List.of_mem_zip hy).1 with z | z
    · exact Or.inl z
    · exact Or.inr ⟨z, PySem.W.cellsFrom_some _ _ _ (.inl z)⟩
  · subst he
    refine ⟨noLim.keeps call.toInCall.keep, codeAny_func ?_⟩
    obtain ⟨tt, hb, hq⟩ := body cd A out t H vs Q E gd (room.deeper _) hsp
    have J : L2.Inv (cxOf C P w K mg base N qual (defScope st) f cd A out t H E) [] (L2.start N vs) H t1 := inv_start S room.hd e0 (fit _ _ _ _ hsp) rel call
    refine wpAny_mono (hb.run [] t1 (L2.start N vs) H _ J hq) (fun fl t2 h2 => ?_) fun e t2 h2 => h2
    cases fl with
    | ret u =>
      obtain ⟨v, σ2, H2, J2, rv, q⟩ := h2
      exact ⟨v, H2, J2.os, J2.bare, J2.base, J2.hok, rv, q⟩
    | next =>
      obtain ⟨σ2, H2, J2, q⟩ := h2
      exact ⟨V.non, H2, J2.os, J2.bare, J2.base, J2.hok, rfl, q⟩
    | brk => exact h2.elim fun _ z => z.elim fun _ z => z.2.elim
    | cont => exact h2.elim fun _ z => z.elim fun _ z => z.2.elim
end
section
variable {X : Cx} {C : CXT} {k : Nat} {f : Addr} {fd : FuncData} {ps : List Str} {sp : Sp} {E : L2.St → XK}
theorem runG {pins : List (Addr × Obj)} {σ : L2.St} {H : Hp} {t : Shared} {Q : VK} {us : List Value} {vs : List V} (F : FnG X.prog X.w X.K X.mg X.base C k f fd ps sp) (gd : X.A.guards = some []) (room : Room k X.A) (bnd : Binds X.K fd ps []) (pass : PassesAt C X σ (E σ))
    (J : L2.Inv X pins σ H t) (rel : Vals vs us) (h : sp vs H Q (E σ)) : wpAny (model X.prog X.w) X.A (call (.ref f) us) (EP X pins σ Q) X.xe t := by
  have l1 : us.length = ps.length := by rw [← rel.length]; exact F.fit _ _ _ _ h
  have b := bnd t us J.kIn (by rw [List.append_nil]; exact l1)
  rw [List.append_nil] at b
  refine wpAny_call (codeAny_mono (F.go X.A X.stack t H ⟨us, []⟩ us vs Q (E σ) gd room J.env0 b rel h) fun res t2 hres => ?_)
  cases res with
  | error e => exact pass pins H t e t2 J hres
  | ok fl =>
    cases fl with
    | ret u => exact J.after hres
    | next => exact hres.elim
    | brk => exact hres.elim
    | cont => exact hres.elim
end
theorem law_callG {P : Program} {w : World} {K : PySem.W.Frag} {mg mb : Str → Option Value} {C : CXT} {k : Nat} {fa a : Addr} {fd : FuncData} {x : Str} {sp : Sp} {t1 : Shared} {vs : List Value} {ns : List Int}
    (KX : K.In t1.heap) (hns : t1.heap.Ns mainGlobals mg) (hb : t1.heap.Ns builtinsNs mb) (hbb : ∀ y : Str, y ≠ "__name__" → mb y = bootBuiltins y) (lim : t1.heap.NoLimit) (hg : t1.gens = #[])
    (ha : t1.heap.get? a = some { cls := .type "list", data := .seq vs.toArray }) (hi : IntsAre vs ns) (hl : ns.length ≤ sizeLine) (room : Room k callerA)
    (F : ∀ base : Heap, K.In base → base.Ns mainGlobals mg → FnG P w K mg base C k fa fd [x] sp) (bnd : ∀ (s : Shared) (u : Value), BindsTo s fd ⟨[u], []⟩ [(x, u)])
    (hsp : ∀ H : Hp, L2.Only H → SqL K H a (ns.map V.int) → sp [.ref a] H (fun v _ => v = .bl true) fun _ _ _ => False)
    (noX : ∀ H e s', C [] H t1 (fun _ _ _ => False) e s' → False) :
    codeAny (model P w) callerA (.call (.ref fa) ⟨[.ref a], []⟩) (fun r s' => r = .ok (.ret (.bool true)) ∧ OldK t1.heap s'.heap ∧ s'.os = t1.os ∧ AllBare s'.gens) t1 := by
  have rv := vals_ints hi
  have lenV := hi.length
  have core : ∀ H : Hp, L2.Only H → SqL K H a (ns.map V.int) → HOk P w H t1.heap → (∀ b, H b ≠ none → b = a) → (H a ≠ none → K.lookup a = none) →
      codeAny (model P w) callerA (.call (.ref fa) ⟨[.ref a], []⟩) (fun r s' => r = .ok (.ret (.bool true)) ∧ OldK t1.heap s'.heap ∧ s'.os = t1.os ∧ AllBare s'.gens) t1 := by
    intro H only hS hok hA hK
    have up : ∀ {b : Addr} {o : Obj}, t1.heap.get? b = some o → H b = none → (hidT t1.heap H).get? b = some o := fun e n => hidT_get e n
    have notA : ∀ {b : Addr} {u : HO}, H b = some u → b = a := fun {b u} q => hA b (by rw [q]; simp)
    have dicts : ∀ {b : Addr} {o : Obj} {es : Array DictEntry} {ep : Nat}, t1.heap.get? b = some o → o.data = .dict es ep → H b = none := fun {b o es ep} e d => by
      cases q : H b with
      | none => rfl
      | some u =>
        have e1 := notA q
        subst e1
        rw [ha] at e
        cases e
        cases (show Data.seq vs.toArray _ = Data.dict es ep from d)
    have spaces : ∀ {b : Addr} {m : Str → Option Value}, t1.heap.Ns b m → (hidT t1.heap H).Ns b m := fun {b m} ⟨o, es, ep, e, d, r⟩ => ⟨o, es, ep, up e (dicts e d), d, r⟩
    have inB : K.In (hidT t1.heap H) := fun b o e => up (KX b o e) (by
      cases q : H b with
      | none => rfl
      | some u =>
        have e1 := notA q
        subst e1
        rw [hK (by rw [q]; simp)] at e
        cases e)
    have md : Mod K mg (hidT t1.heap H) := ⟨inB, spaces hns, ⟨mb, spaces hb, hbb⟩, let ⟨mc, h1, h2⟩ := lim; ⟨mc, spaces h1, h2⟩⟩
    have e0 : Env0 P w K mg (hidT t1.heap H) callerA [] t1 H := ⟨rfl, md, fun b o e => of_hidT e, Nat.le_of_eq (hidT_size _ _), True.intro, fun b hb => absurd (show b ∈ ([] : List Addr) from hb) (by simp), hok, .of_eq hg⟩
    refine codeAny_mono ((F _ inB (spaces hns)).go callerA [] t1 H ⟨[.ref a], []⟩ [.ref a] [.ref a] _ _ rfl room e0 (bnd t1 (.ref a)) (.cons rfl .nil) (hsp H only hS)) fun res t2 h => ?_
    cases res with
    | error e => exact (noX H e t2 h).elim
    | ok fl =>
      cases fl with
      | next => exact h.elim
      | brk => exact h.elim
      | cont => exact h.elim
      | ret u =>
        obtain ⟨v, H2, os, bare, un, hok2, r2, q⟩ := h
        cases (show v = .bl true from q)
        cases (show u = Value.bool true from r2)
        refine ⟨rfl, OldK.of_keep fun b o e => ?_, os, bare⟩
        cases q : H b with
        | none => exact un.keep b o e q (by intro z; exact absurd (show b ∈ ([] : List Addr) from z) (by simp)) (by simp)
        | some u =>
          rcases only b with z | ⟨ob, ys, z⟩
          · rw [q] at z; cases z
          · obtain ⟨y1, _⟩ := hok b _ z
            obtain ⟨y2, _⟩ := hok2 b _ (un.frzs b ob _ z)
            rw [e] at y1
            cases y1
            exact y2
  cases hk : K.lookup a with
  | some o =>
    have e := KX a o hk
    rw [ha] at e
    cases e
    exact core (fun _ => none) (fun _ => .inl rfl) (.inr ⟨_, vs.toArray, _, hk, rfl, rfl, rfl, by rw [List.size_toArray, lenV]; exact hl, by simpa using rv⟩) (fun b u z => by cases (show (none : Option HO) = some u from z)) (fun b z => absurd rfl z) fun z => absurd rfl z
  | none =>
    let o0 : Obj := { cls := .type "list", data := .seq vs.toArray }
    refine core (fun b => if b = a then some (.frz o0 (.lst (ns.map V.int))) else none) (fun b => ?_) (.inl (.inr ⟨o0, if_pos rfl⟩)) (fun b u z => ?_) (fun b z => ?_) fun _ => hk
    · by_cases q : b = a
      · exact .inr ⟨_, _, if_pos q⟩
      · exact .inl (if_neg q)
    · by_cases q : b = a
      · cases (if_pos q).symm.trans z
        subst q
        exact ⟨ha, by rw [List.length_map]; exact hl, vs, _, rv, ha⟩
      · cases (if_neg q).symm.trans z
    · by_cases q : b = a
      · exact q
      · exact absurd (if_neg q) z
end HD
namespace HD
open PySem L2
theorem ownedT_perm {T T' : Tmp} (p : T.Perm T') : (ownedT T).Perm (ownedT T') := by
  unfold ownedT
  induction p with
  | nil => exact .refl _
  | cons x _ ih => exact ih.append_left _
  | swap x y l =>
    rw [List.flatMap_cons, List.flatMap_cons, List.flatMap_cons, List.flatMap_cons, ← List.append_assoc, ← List.append_assoc]
    exact List.perm_append_comm.append_right _
  | trans _ _ i1 i2 => exact i1.trans i2
theorem Holds.perm {K : PySem.W.Frag} {e : Ent} {env : Env'} {T T' : Tmp} {F : Hp} {σ : St} {H : Hp} (h : Holds K e env T F σ H) (p : T.Perm T') : Holds K e env T' F σ H :=
  ⟨h.fh, h.len, h.slots, fun x hx => h.temps x (p.mem_iff.mpr hx), ((ownedT_perm p).append_left _).nodup h.nd, h.s1, h.s2, fun a ha => h.s3 a (((ownedT_perm p).append_left _).mem_iff.mpr ha)⟩
abbrev DX := Str → Env' → Prop
abbrev DT := DX → Env' → (Sl → Env' → Prop) → Prop
abbrev DTT := DX → Env' → (Bool → Env' → Prop) → Prop
abbrev DTA := DX → Env' → (List Sl → Env' → Prop) → Prop
def Link (K : PySem.W.Frag) (e : Ent) (W : WX) (Ex : DX) : Prop := ∀ c env F σ H, Holds K e env [] F σ H → Ex c env → W (clsV K c) none σ H
def Im (K : PySem.W.Frag) (W : WX) (te : TE) (t : DT) : Prop :=
  ∀ (e : Ent) (Ex : DX), Link K e W Ex → ∀ (env : Env') (T : Tmp) (F : Hp) (σ : St) (H : Hp) (Q : Sl → Env' → Prop) (R : VK),
    Holds K e env T F σ H → t Ex env Q → (∀ v H' F' env' sl, Holds K e env' ((v, sl) :: T) F' σ H' → Q sl env' → R v H') → te σ H R
def ImT (K : PySem.W.Frag) (W : WX) (tt : TT) (t : DTT) : Prop :=
  ∀ (e : Ent) (Ex : DX), Link K e W Ex → ∀ (env : Env') (T : Tmp) (F : Hp) (σ : St) (H : Hp) (Q : Bool → Env' → Prop) (R : Bool → Hp → Prop),
    Holds K e env T F σ H → t Ex env Q → (∀ b H' F' env', Holds K e env' T F' σ H' → Q b env' → R b H') → tt σ H R
def ImA (K : PySem.W.Frag) (W : WX) (ta : TA) (t : DTA) : Prop :=
  ∀ (e : Ent) (Ex : DX), Link K e W Ex → ∀ (env : Env') (T : Tmp) (F : Hp) (σ : St) (H : Hp) (Q : List Sl → Env' → Prop) (R : List V → Hp → Prop),
    Holds K e env T F σ H → t Ex env Q → (∀ vs H' F' env' xs, vs.length = xs.length → Holds K e env' (vs.zip xs ++ T) F' σ H' → Q xs env' → R vs H') → ta σ H R
structure GG where
  P : Program
  w : World
  K : PySem.W.Frag
  mg : Str → Option Value
  base : Heap
structure SC where
  sc : Scope
  own : Str → Bool
  top : Bool
abbrev fnS (sc : Scope) : SC := ⟨sc, fun _ => true, true⟩
def relab (scope sc : Scope) : Scope :=
  { scope with names := scope.names.map fun (n, k) => if (k == .free && sc.kind == .function && sc.names.lookup n == some .cell) then (n, .cell) else (n, k) }
abbrev lcS (scope : Scope) (sc : SC) : SC := ⟨relab scope sc.sc, fun x => scope.names.lookup x == some .cell, false⟩
structure Sit (G : GG) (N : List Str) (sc : SC) (W : WX) (k : Nat) (X : Cx) : Prop where
  prog : X.prog = G.P
  w : X.w = G.w
  K : X.K = G.K
  mg : X.mg = G.mg
  base : X.base = G.base
  nms : X.N = N
  nd : N.Nodup
  scp : X.env.scope = sc.sc
  calm : X.calm = true
  room : Room k X.A
  tk : Takes X W
  fn : ∀ x, sc.own x = true → X.fn x = true
  own : PassesOwn (model X.prog X.w) X.A X.env X.xe
  stk : sc.top = true → X.stack = X.env :: X.outer ∧ X.env.frame = some X.env.locals
  gd : X.A.guards = some []
structure DE (G : GG) (N : List Str) (sc : SC) (k : Nat) (e : Expr) (t : DT) : Prop where
  ex : ∀ W : WX, ∃ te, (∀ X, Sit G N sc W k X → PE X e te) ∧ Im G.K W te t
structure DTe (G : GG) (N : List Str) (sc : SC) (k : Nat) (e : Expr) (t : DTT) : Prop where
  ex : ∀ W : WX, ∃ te, (∀ X, Sit G N sc W k X → PT X e te) ∧ ImT G.K W te t
structure DAs (G : GG) (N : List Str) (sc : SC) (k : Nat) (es : List Expr) (t : DTA) : Prop where
  ex : ∀ W : WX, ∃ te, (∀ X, Sit G N sc W k X → PA X es te) ∧ ImA G.K W te t
section
variable {G : GG} {N : List Str} {sc : SC} {k : Nat}
def dC (d : D) : DT := fun _ env Q => Q (.ext d) env
def dVar (i : Nat) : DT := fun _ env Q => match env[i]? with
  | some (.ext d) => Q (.ext d) env
  | some (.lst a _) => Q (.al i a) env
  | _ => False
theorem im_const {K : PySem.W.Frag} {W : WX} {v : V} {d : D} (h : ∀ F, Rep K F d v) : Im K W (tC v) (dC d) :=
  fun e Ex _ env T F σ H Q R hh ht hR => hR v H F env (.ext d) (hh.pushE (h F)) ht
theorem im_var {K : PySem.W.Frag} {W : WX} (i : Nat) : Im K W (tVar i) (dVar i) := fun e Ex _ env T F σ H Q R hh ht hR => by
  unfold dVar at ht
  split at ht
  · rename_i d q
    rcases hh.slots i _ q with z | ⟨v, hv, ok⟩
    · cases z
    · exact ⟨v, hv, hR v H F env (.ext d) (hh.pushE ok) ht⟩
  · rename_i a ds q
    rcases hh.slots i _ q with z | ⟨v, hv, ok⟩
    · cases z
    · obtain ⟨rfl, _⟩ := ok
      exact ⟨_, hv, hR _ H F env (.al i a) hh.pushA ht⟩
  · exact ht.elim
theorem Sit.vis {W : WX} {X : Cx} {x : Str} (S : Sit G N sc W k X) (h : Vis sc.sc x) : Vis X.env.scope x := by rw [S.scp]; exact h
theorem de_var (i : Nat) {x : Str} {pos : Pos} (hN : N[i]? = some x := by rfl) (hv : Vis sc.sc x := by first | exact Or.inl rfl | exact Or.inr (Or.inl rfl) | exact Or.inr (Or.inr rfl))
    (hd : (x == ("__debug__" : Str)) = false := by decide) (hcd : (x == ("__classdict__" : Str)) = false := by decide) : DE G N sc k (.Name x pos) (dVar i) :=
  ⟨fun W => ⟨tVar i, fun X S => pe_var (by rw [S.nms]; exact hN) (S.vis hv) hd hcd, im_var i⟩⟩
theorem de_int {i j pos} : DE G N sc k (.Constant (.int i) j pos) (dC (.int i)) := ⟨fun _ => ⟨_, fun _ _ => pe_int, im_const fun _ => rfl⟩⟩
theorem de_bl {i j pos} : DE G N sc k (.Constant (.bool i) j pos) (dC (.bl i)) := ⟨fun _ => ⟨_, fun _ _ => pe_bl, im_const fun _ => rfl⟩⟩
theorem de_non {j pos} : DE G N sc k (.Constant .none j pos) (dC .non) := ⟨fun _ => ⟨_, fun _ _ => pe_non, im_const fun _ => rfl⟩⟩
theorem de_str {i j pos} : DE G N sc k (.Constant (.str i) j pos) (dC (.str i)) := ⟨fun _ => ⟨_, fun _ _ => pe_str, im_const fun _ => rfl⟩⟩
def GlS (sc : SC) (x : Str) : Prop := sc.sc.names.lookup x = some .globalImplicit
theorem Sit.gl {W : WX} {X : Cx} {x : Str} (S : Sit G N sc W k X) (h : GlS sc x) : Gl X x := by
  show X.env.scope.names.lookup x = some .globalImplicit
  rw [S.scp]
  exact h
theorem de_glob {x : Str} {v : V} {u : Value} {d : D} {pos : Pos} (hg : GlS sc x) (hm : G.mg x = some u) (r : RelV v u) (hr : ∀ F, Rep G.K F d v) (hd : (x == ("__debug__" : Str)) = false := by decide) : DE G N sc k (.Name x pos) (dC d) :=
  ⟨fun _ => ⟨tC v, fun X S => pe_glob (S.gl hg) (by rw [S.mg]; exact hm) r hd, im_const hr⟩⟩
theorem de_bltn {x : Str} {v : V} {u : Value} {pos : Pos} (hg : GlS sc x) (hm : G.mg x = none) (hv : bootBuiltins x = some u) (r : RelV v u) (hn : x ≠ "__name__" := by decide) (hd : (x == ("__debug__" : Str)) = false := by decide) : DE G N sc k (.Name x pos) (dC (.val v)) :=
  ⟨fun _ => ⟨tC v, fun X S => pe_bltn (S.gl hg) (by rw [S.mg]; exact hm) hv r hn hd, im_const fun _ => rfl⟩⟩
def dNil : DTA := fun _ env Q => Q [] env
def dCons (t : DT) (u : DTA) : DTA := fun Ex env Q => t Ex env fun x env1 => u Ex env1 fun xs env2 => Q (x :: xs) env2
theorem im_nil {K : PySem.W.Frag} {W : WX} : ImA K W tNil dNil := fun e Ex _ env T F σ H Q R hh ht hR => hR [] H F env [] rfl hh ht
theorem im_cons {K : PySem.W.Frag} {W : WX} {te : TE} {ta : TA} {t : DT} {u : DTA} (h1 : Im K W te t) (h2 : ImA K W ta u) : ImA K W (tCons te ta) (dCons t u) := fun e Ex hl env T F σ H Q R hh ht hR => by
  refine h1 e Ex hl env T F σ H _ _ hh ht fun v H1 F1 env1 sl hh1 q1 => ?_
  refine h2 e Ex hl env1 _ F1 σ H1 _ _ hh1 q1 fun vs H2 F2 env2 xs le hh2 q2 => ?_
  exact hR (v :: vs) H2 F2 env2 (sl :: xs) (by rw [List.length_cons, List.length_cons, le]) (hh2.perm List.perm_middle) q2
theorem da_nil : DAs G N sc k [] dNil := ⟨fun _ => ⟨tNil, fun _ _ => pa_nil, im_nil⟩⟩
abbrev NoStar (e : Expr) (es : List Expr) : Prop := ∀ env, starEach (e :: es) env = (false, eval e env) :: starEach es env
theorem da_cons {e : Expr} {es : List Expr} {t : DT} {u : DTA} (h1 : DE G N sc k e t) (h2 : DAs G N sc k es u) (hs : NoStar e es := by intro _; rfl) : DAs G N sc k (e :: es) (dCons t u) :=
  ⟨fun W => by
    obtain ⟨te, p1, i1⟩ := h1.ex W
    obtain ⟨ta, p2, i2⟩ := h2.ex W
    exact ⟨tCons te ta, fun X S => pa_cons (p1 X S) (p2 X S) (hs _), im_cons i1 i2⟩⟩
theorem cellOf_mem : ∀ {cs : List (Addr × OC)} {b : Addr} {oc : OC}, cellOf cs b = some oc → (b, oc) ∈ cs
  | [], _, _, h => nomatch h
  | p :: r, b, oc, h => by
    unfold cellOf at h
    split at h
    · rename_i e
      cases h
      rw [← e]
      exact List.mem_cons_self
    · exact List.mem_cons_of_mem _ (cellOf_mem h)
theorem Holds.cell {K : PySem.W.Frag} {e : Ent} {env : Env'} {T : Tmp} {F : Hp} {σ : St} {H : Hp} {i : Nat} {d : D} {cs : List (Addr × OC)} {b : Addr} {oc : OC} (h : Holds K e env T F σ H) (hi : env[i]? = some (.reg d cs)) (hc : cellOf cs b = some oc) : F b = none ∧ ∃ o, H b = some o ∧ OC.ok K F b oc o := by
  rcases h.slots i _ hi with z | ⟨v, _, _, _, ok⟩
  · cases z
  · exact ok (b, oc) (cellOf_mem hc)
def RepT (K : PySem.W.Frag) (F H : Hp) (d : D) (v : V) : Prop := Rep K F d v ∨ ∃ a ds vs, d = .lst ds ∧ v = .ref a ∧ H a = some (.lst vs) ∧ Reps K F ds vs
def RepTs (K : PySem.W.Frag) (F H : Hp) : List D → List V → Prop
  | [], vs => vs = []
  | d :: ds, vs => ∃ v r, vs = v :: r ∧ RepT K F H d v ∧ RepTs K F H ds r
def wd (env : Env') (sl : Sl) (k : D → Prop) : Prop := match sl with
  | .ext d => k d
  | .lst _ ds => k (.lst ds)
  | .al i a => match env[i]? with
    | some (.lst b ds) => b = a ∧ k (.lst ds)
    | _ => False
  | .un => False
  | .reg _ _ => False
  | .ar i b => match env[i]? with
    | some (.reg _ cs) => match cellOf cs b with
      | some (.lst ds) => k (.lst ds)
      | _ => False
    | _ => False
def wds (env : Env') : List Sl → (List D → Prop) → Prop
  | [], k => k []
  | s :: ss, k => wd env s fun d => wds env ss fun ds => k (d :: ds)
theorem Holds.wd {K : PySem.W.Frag} {e : Ent} {env : Env'} {T : Tmp} {F : Hp} {σ : St} {H : Hp} {v : V} {sl : Sl} {q : D → Prop} (h : Holds K e env T F σ H) (m : (v, sl) ∈ T) (w : HD.wd env sl q) : ∃ d, RepT K F H d v ∧ q d := by
  have ok := h.temps _ m
  cases sl with
  | un => exact w.elim
  | reg _ _ => exact w.elim
  | ar i b =>
    have w' : (match env[i]? with | some (.reg _ cs) => (match cellOf cs b with | some (.lst ds) => q (.lst ds) | _ => False) | _ => False) := w
    split at w'
    · rename_i d cs hb
      split at w'
      · rename_i ds hc
        obtain ⟨_, o, ho, vs, rfl, hr⟩ := h.cell hb hc
        exact ⟨.lst ds, .inr ⟨b, ds, vs, rfl, ok, ho, hr⟩, w'⟩
      · exact w'.elim
    · exact w'.elim
  | ext d => exact ⟨d, .inl ok, w⟩
  | lst a ds =>
    obtain ⟨e1, _, vs, hv, hr⟩ := ok
    exact ⟨.lst ds, .inr ⟨a, ds, vs, rfl, e1, hv, hr⟩, w⟩
  | al i a =>
    have w' : (match env[i]? with | some (.lst b ds) => b = a ∧ q (.lst ds) | _ => False) := w
    split at w'
    · rename_i b ds hb
      obtain ⟨rfl, w'⟩ := w'
      rcases h.slots i _ hb with z | ⟨u, hu, e1, _, vs, hv, hr⟩
      · cases z
      · exact ⟨.lst ds, .inr ⟨b, ds, vs, rfl, ok, hv, hr⟩, w'⟩
    · exact w'.elim
theorem Holds.wds {K : PySem.W.Frag} {e : Ent} {env : Env'} {T : Tmp} {F : Hp} {σ : St} {H : Hp} (h : Holds K e env T F σ H) : ∀ {vs : List V} {xs : List Sl} {q : List D → Prop}, vs.length = xs.length → (∀ p ∈ vs.zip xs, p ∈ T) → HD.wds env xs q → ∃ ds, RepTs K F H ds vs ∧ q ds
  | [], [], q, _, _, w => ⟨[], rfl, w⟩
  | [], _ :: _, _, e, _, _ => by cases e
  | _ :: _, [], _, e, _, _ => by cases e
  | v :: vs, x :: xs, q, e, m, w => by
    obtain ⟨d, r1, w1⟩ := h.wd (m (v, x) List.mem_cons_self) w
    obtain ⟨ds, r2, w2⟩ := Holds.wds h (by simpa using e) (fun p hp => m p (List.mem_cons_of_mem _ hp)) w1
    exact ⟨d :: ds, ⟨v, vs, rfl, r1, r2⟩, w2⟩
section
variable {K : PySem.W.Frag} {F H : Hp} {v : V}
theorem RepT.int {i : Int} (h : RepT K F H (.int i) v) : v = .int i := by
  rcases h with h | ⟨_, _, _, z, _⟩
  · exact h
  · cases z
theorem RepT.str {x : Str} (h : RepT K F H (.str x) v) : v = .str x := by
  rcases h with h | ⟨_, _, _, z, _⟩
  · exact h
  · cases z
theorem RepT.bl {x : Bool} (h : RepT K F H (.bl x) v) : v = .bl x := by
  rcases h with h | ⟨_, _, _, z, _⟩
  · exact h
  · cases z
theorem RepT.non (h : RepT K F H .non v) : v = .non := by
  rcases h with h | ⟨_, _, _, z, _⟩
  · exact h
  · cases z
theorem RepT.val {x : V} (h : RepT K F H (.val x) v) : v = x := by
  rcases h with h | ⟨_, _, _, z, _⟩
  · exact h
  · cases z
theorem RepT.tup {ds : List D} (fh : Same F H) (h : RepT K F H (.tup ds) v) : ∃ a vs, v = .ref a ∧ SqT K H a vs ∧ TupD K F a vs ∧ Reps K F ds vs := by
  rcases h with ⟨a, vs, e, hs, hr⟩ | ⟨_, _, _, z, _⟩
  · exact ⟨a, vs, e, SqT.same fh hs.sq, hs, hr⟩
  · cases z
theorem RepT.tk {ds : List D} (fh : Same F H) (h : RepT K F H (.tk ds) v) : ∃ a vs, v = .ref a ∧ SqT K H a vs ∧ SqT K F a vs ∧ Reps K F ds vs := by
  rcases h with ⟨a, vs, e, hs, hr⟩ | ⟨_, _, _, z, _⟩
  · exact ⟨a, vs, e, SqT.same fh hs, hs, hr⟩
  · cases z
theorem RepT.lst {ds : List D} (fh : Same F H) (h : RepT K F H (.lst ds) v) : ∃ a vs, v = .ref a ∧ H a = some (.lst vs) ∧ Reps K F ds vs := by
  rcases h with ⟨a, vs, e, hs, hr⟩ | ⟨a, ds', vs, z, e, hs, hr⟩
  · exact ⟨a, vs, e, fh _ _ hs, hr⟩
  · cases z
    exact ⟨a, vs, e, hs, hr⟩
theorem RepT.fz {ds : List D} (fh : Same F H) (h : RepT K F H (.fz ds) v) : ∃ a vs, v = .ref a ∧ SqL K H a vs ∧ Reps K F ds vs := by
  rcases h with ⟨a, vs, e, hs, hr⟩ | ⟨a, ds', vs, z, e, hs, hr⟩
  · exact ⟨a, vs, e, fh.seq hs, hr⟩
  · cases z
theorem RepT.rep {d : D} (fh : Same F H) (h : RepT K F H d v) : Rep K H d v := by
  rcases h with h | ⟨a, ds, vs, rfl, rfl, hs, hr⟩
  · exact Rep.same fh h
  · exact ⟨a, vs, rfl, hs, hr.same fh⟩
theorem RepTs.one {d : D} {vs : List V} (h : RepTs K F H [d] vs) : ∃ v, vs = [v] ∧ RepT K F H d v := by
  obtain ⟨v, r, rfl, h1, h2⟩ := h
  have z : r = [] := h2
  exact ⟨v, by rw [z], h1⟩
theorem RepTs.two {d d' : D} {vs : List V} (h : RepTs K F H [d, d'] vs) : ∃ v v', vs = [v, v'] ∧ RepT K F H d v ∧ RepT K F H d' v' := by
  obtain ⟨v, r, rfl, h1, h2⟩ := h
  obtain ⟨v', e, h3⟩ := RepTs.one h2
  exact ⟨v, v', by rw [e], h1, h3⟩
end
def After (K : PySem.W.Frag) (F H : Hp) (Q : Sl → Prop) (R : VK) : Prop :=
  ∀ v F1 H1 sl, Grow F H F1 H1 → SlOk K F1 H1 v sl → (∀ a ∈ sl.owned, H a = none) → Q sl → R v H1
def Pr (K : PySem.W.Frag) (r : List V → Hp → VK → Prop) (f : List D → (Sl → Prop) → Prop) : Prop :=
  ∀ F H vs ds (Q : Sl → Prop) (R : VK), Same F H → RepTs K F H ds vs → f ds Q → After K F H Q R → r vs H R
def Pr2 (K : PySem.W.Frag) (r : R2) (f : D → D → (Sl → Prop) → Prop) : Prop :=
  ∀ F H v u d d' (Q : Sl → Prop) (R : VK), Same F H → RepT K F H d v → RepT K F H d' u → f d d' Q → After K F H Q R → r v u H R
section
variable {K : PySem.W.Frag} {F H : Hp} {Q : Sl → Prop} {R : VK}
theorem After.ext (h : After K F H Q R) (fh : Same F H) {v : V} {d : D} (r : Rep K F d v) (q : Q (.ext d)) : R v H := h v F H (.ext d) (Grow.refl fh) r (fun _ z => nomatch z) q
theorem After.int (h : After K F H Q R) (fh : Same F H) {i : Int} (q : Q (.ext (.int i))) : R (.int i) H := h.ext (d := .int i) fh rfl q
theorem After.bl (h : After K F H Q R) (fh : Same F H) {i : Bool} (q : Q (.ext (.bl i))) : R (.bl i) H := h.ext (d := .bl i) fh rfl q
theorem After.str (h : After K F H Q R) (fh : Same F H) {i : Str} (q : Q (.ext (.str i))) : R (.str i) H := h.ext (d := .str i) fh rfl q
theorem After.lst (h : After K F H Q R) (fh : Same F H) {p : Addr} {ds : List D} {vs : List V} (n : H p = none) (r : Reps K F ds vs) (q : Q (.lst p ds)) : R (.ref p) (upd H p (.lst vs)) :=
  h _ F _ (.lst p ds) (Grow.loose fh n) ⟨rfl, fh.free n, vs, upd_same, r⟩ (fun a z => by rw [List.mem_singleton.mp z]; exact n) q
theorem After.tup (h : After K F H Q R) (fh : Same F H) {ds : List D} {vs : List V} (r : Reps K F ds vs) (q : Q (.ext (.tup ds))) : newT H vs R := fun p o n d =>
  h _ (upd F p (.frz o (.tup vs))) _ (.ext (.tup ds)) (Grow.frozen fh n) ⟨p, vs, rfl, .inl ⟨o, upd_same, d⟩, r.same (Grow.frozen fh n).ff⟩ (fun _ z => nomatch z) q
theorem After.more (h : After K F H Q R) {p : Addr} {o : HO} (fh : Same F H) (n : H p = none) : After K F (upd H p o) Q R := fun v F1 H1 sl g ok own q =>
  h v F1 H1 sl ((Grow.loose fh n).trans g) ok (fun a ha => (Grow.loose fh n).hh.free (own a ha)) q
end
theorem Holds.done {K : PySem.W.Frag} {e : Ent} {env : Env'} {T : Tmp} {F : Hp} {σ : St} {H : Hp} {Q : Sl → Env' → Prop} {R : VK} (h : Holds K e env T F σ H) (hR : ∀ v H' F' env' sl, Holds K e env' ((v, sl) :: T) F' σ H' → Q sl env' → R v H') : After K F H (fun sl => Q sl env) R :=
  fun v F1 H1 sl g ok own q => hR v H1 F1 env sl (h.push g ok own) q
def dOp (f : D → D → (Sl → Prop) → Prop) (ta tb : DT) : DT := fun Ex env Q => ta Ex env fun x env1 => tb Ex env1 fun y env2 => wd env2 x fun d => wd env2 y fun d' => f d d' fun sl => Q sl env2
theorem im_op {K : PySem.W.Frag} {W : WX} {r : R2} {f : D → D → (Sl → Prop) → Prop} {ta tb : TE} {sa sb : DT} (hr : Pr2 K r f) (ha : Im K W ta sa) (hb : Im K W tb sb) : Im K W (tOp r ta tb) (dOp f sa sb) := fun e Ex hl env T F σ H Q R hh ht hR => by
  refine ha e Ex hl env T F σ H _ _ hh ht fun v H1 F1 env1 x hh1 q1 => ?_
  refine hb e Ex hl env1 _ F1 σ H1 _ _ hh1 q1 fun u H2 F2 env2 y hh2 q2 => ?_
  obtain ⟨d, rd, q3⟩ := hh2.wd (v := v) (sl := x) (List.mem_cons_of_mem _ List.mem_cons_self) q2
  obtain ⟨d', rd', q4⟩ := hh2.wd (v := u) (sl := y) List.mem_cons_self q3
  exact hr F2 H2 v u d d' _ R hh2.fh rd rd' q4 (hh2.pop.pop.done hR)
theorem Sit.units {W : WX} {X : Cx} (S : Sit G N sc W k X) : X.A.units + 64 < cLine := S.room.units
end
end HD
namespace HD
open PySem L2
def fAdd : D → D → (Sl → Prop) → Prop
  | .int i, .int j, Q => Q (.ext (.int (i + j)))
  | .str x, .str y, Q => x.length + y.length ≤ sizeLine ∧ Q (.ext (.str (x ++ y)))
  | .lst xs, .lst ys, Q => xs.length + ys.length ≤ sizeLine ∧ ∀ a, Q (.lst a (xs ++ ys))
  | .tup xs, .tup ys, Q => xs.length + ys.length ≤ sizeLine ∧ Q (.ext (.tup (xs ++ ys)))
  | _, _, _ => False
def rAddD (K : PySem.W.Frag) : R2 := fun x y H Q => (rI0 fun i j => .int (i + j)) x y H Q ∨ (∃ i j, x = .str i ∧ y = .str j ∧ i.length + j.length ≤ sizeLine ∧ Q (.str (i ++ j)) H) ∨ rCat x y H Q ∨ rCatF K x y H Q
theorem op_addD {X : Cx} : OpR X (binaryOp .Add) (rAddD X.K) := op_add.or (op_add_str.or (op_cat.or op_catF))
theorem pr_add {K : PySem.W.Frag} : Pr2 K (rAddD K) fAdd := fun F H v u d d' Q R fh h1 h2 hf ha => by
  unfold fAdd at hf
  split at hf
  · exact .inl ⟨_, _, h1.int, h2.int, ha.int fh hf⟩
  · exact .inr (.inl ⟨_, _, h1.str, h2.str, hf.1, ha.str fh hf.2⟩)
  · obtain ⟨a, vs, rfl, e1, r1⟩ := h1.lst fh
    obtain ⟨b, us, rfl, e2, r2⟩ := h2.lst fh
    exact .inr (.inr (.inl ⟨a, b, vs, us, rfl, rfl, e1, e2, by rw [← r1.length, ← r2.length]; exact hf.1, fun p n => ha.lst fh n (r1.append r2) (hf.2 p)⟩))
  · obtain ⟨a, vs, rfl, e1, e1', r1⟩ := h1.tup fh
    obtain ⟨b, us, rfl, e2, e2', r2⟩ := h2.tup fh
    refine .inr (.inr (.inr ⟨a, b, vs, us, rfl, rfl, e1, e2, by rw [← r1.length, ← r2.length]; exact hf.1, fun z => ?_, fun _ z => ?_, fun _ _ => ha.tup fh (r1.append r2) hf.2⟩))
    · refine ha.ext (d := .tup _) fh ⟨b, us, rfl, e2', ?_⟩ hf.2
      have q := r1.append r2
      rw [z] at q
      exact q
    · refine ha.ext (d := .tup _) fh ⟨a, vs, rfl, e1', ?_⟩ hf.2
      have q := r1.append r2
      rw [z, List.append_nil] at q
      exact q
  · exact hf.elim
def fSub : D → D → (Sl → Prop) → Prop
  | .int i, .int j, Q => Q (.ext (.int (i - j)))
  | _, _, _ => False
theorem pr_sub {K : PySem.W.Frag} : Pr2 K (rI0 fun i j => .int (i - j)) fSub := fun F H v u d d' Q R fh h1 h2 hf ha => by
  unfold fSub at hf
  split at hf
  · exact ⟨_, _, h1.int, h2.int, ha.int fh hf⟩
  · exact hf.elim
def fMul : D → D → (Sl → Prop) → Prop
  | .int i, .int j, Q => CMulW i j ∧ Q (.ext (.int (i * j)))
  | .lst xs, .int k, Q => k < 2 ^ 63 ∧ 0 ≤ k ∧ xs.length * k.toNat ≤ sizeLine ∧ ∀ a, Q (.lst a (List.replicate k.toNat xs).flatten)
  | _, _, _ => False
theorem Reps.rep {K : PySem.W.Frag} {F : Hp} {ds : List D} {vs : List V} (h : Reps K F ds vs) : ∀ k : Nat, Reps K F (List.replicate k ds).flatten (List.replicate k vs).flatten
  | 0 => rfl
  | k + 1 => by
    rw [List.replicate_succ, List.replicate_succ, List.flatten_cons, List.flatten_cons]
    exact h.append (Reps.rep h k)
theorem pr_mul {K : PySem.W.Frag} : Pr2 K (fun x y H Q => (rI CMulW fun i j => .int (i * j)) x y H Q ∨ rRep x y H Q) fMul := fun F H v u d d' Q R fh h1 h2 hf ha => by
  unfold fMul at hf
  split at hf
  · exact .inl ⟨_, _, h1.int, h2.int, hf.1, ha.int fh hf.2⟩
  · obtain ⟨a, vs, rfl, e1, r1⟩ := h1.lst fh
    obtain ⟨hf1, hf0, hf2, hf3⟩ := hf
    exact .inr ⟨a, _, vs, rfl, h2.int, e1, Int.le_trans (by decide) hf0, hf1, by rw [← r1.length]; exact hf2, fun p n => ha.lst fh n (r1.rep _) (hf3 p)⟩
  · exact hf.elim
theorem op_mulD {X : Cx} : OpR X (binaryOp .Mult) (fun x y H Q => (rI CMulW fun i j => .int (i * j)) x y H Q ∨ rRep x y H Q) := op_mulW.or op_rep
def fDiv : D → D → (Sl → Prop) → Prop
  | .int i, .int j, Q => CDivW i j ∧ Q (.ext (.int (i / j)))
  | _, _, _ => False
theorem pr_div {K : PySem.W.Frag} : Pr2 K (rI CDivW fun i j => .int (i / j)) fDiv := fun F H v u d d' Q R fh h1 h2 hf ha => by
  unfold fDiv at hf
  split at hf
  · exact ⟨_, _, h1.int, h2.int, hf.1, ha.int fh hf.2⟩
  · exact hf.elim
def fMod : D → D → (Sl → Prop) → Prop
  | .int i, .int j, Q => 0 < j ∧ Q (.ext (.int (i % j)))
  | _, _, _ => False
theorem pr_mod {K : PySem.W.Frag} : Pr2 K (rI (fun _ j => 0 < j) fun i j => .int (i % j)) fMod := fun F H v u d d' Q R fh h1 h2 hf ha => by
  unfold fMod at hf
  split at hf
  · exact ⟨_, _, h1.int, h2.int, hf.1, ha.int fh hf.2⟩
  · exact hf.elim
def fPow : D → D → (Sl → Prop) → Prop
  | .int i, .int j, Q => CPow i j ∧ Q (.ext (.int (i ^ j.toNat)))
  | _, _, _ => False
theorem pr_pow {K : PySem.W.Frag} : Pr2 K (rI CPow fun i j => .int (i ^ j.toNat)) fPow := fun F H v u d d' Q R fh h1 h2 hf ha => by
  unfold fPow at hf
  split at hf
  · exact ⟨_, _, h1.int, h2.int, hf.1, ha.int fh hf.2⟩
  · exact hf.elim
section
variable {G : GG} {N : List Str} {sc : SC} {k : Nat} {a b : Expr} {ta tb : DT} {pos : Pos}
theorem de_bin {op : Operator} {r : PySem.W.Frag → R2} {f : D → D → (Sl → Prop) → Prop} (hr : ∀ K, Pr2 K (r K) f) (ho : ∀ X : Cx, OpR X (binaryOp op) (r X.K)) (ha : DE G N sc k a ta) (hb : DE G N sc k b tb) : DE G N sc k (.BinOp a op b pos) (dOp f ta tb) :=
  ⟨fun W => by
    obtain ⟨te, p1, i1⟩ := ha.ex W
    obtain ⟨tf, p2, i2⟩ := hb.ex W
    exact ⟨tOp (r G.K) te tf, fun X S => pe_op (by rw [← S.K]; exact ho X) (p1 X S) (p2 X S), im_op (hr _) i1 i2⟩⟩
theorem de_add (ha : DE G N sc k a ta) (hb : DE G N sc k b tb) : DE G N sc k (.BinOp a .Add b pos) (dOp fAdd ta tb) := de_bin (r := rAddD) (fun _ => pr_add) (fun _ => op_addD) ha hb
theorem de_sub (ha : DE G N sc k a ta) (hb : DE G N sc k b tb) : DE G N sc k (.BinOp a .Sub b pos) (dOp fSub ta tb) := de_bin (r := fun _ => _) (fun _ => pr_sub) (fun _ => op_sub) ha hb
theorem de_mul (ha : DE G N sc k a ta) (hb : DE G N sc k b tb) : DE G N sc k (.BinOp a .Mult b pos) (dOp fMul ta tb) := de_bin (r := fun _ => _) (fun _ => pr_mul) (fun _ => op_mulD) ha hb
theorem de_div (ha : DE G N sc k a ta) (hb : DE G N sc k b tb) : DE G N sc k (.BinOp a .FloorDiv b pos) (dOp fDiv ta tb) := de_bin (r := fun _ => _) (fun _ => pr_div) (fun _ => op_fdivW) ha hb
theorem de_mod (ha : DE G N sc k a ta) (hb : DE G N sc k b tb) : DE G N sc k (.BinOp a .Mod b pos) (dOp fMod ta tb) := de_bin (r := fun _ => _) (fun _ => pr_mod) (fun _ => op_mod) ha hb
theorem de_pow (ha : DE G N sc k a ta) (hb : DE G N sc k b tb) : DE G N sc k (.BinOp a .Pow b pos) (dOp fPow ta tb) := de_bin (r := fun _ => _) (fun _ => pr_pow) (fun _ => op_pow) ha hb
end
def dNeg (ta : DT) : DT := fun Ex env Q => ta Ex env fun x env1 => wd env1 x fun d => match d with
  | .int i => Q (.ext (.int (-i))) env1
  | _ => False
theorem de_neg {G : GG} {N : List Str} {sc : SC} {k : Nat} {a : Expr} {ta : DT} {pos : Pos} (ha : DE G N sc k a ta) : DE G N sc k (.UnaryOp .USub a pos) (dNeg ta) :=
  ⟨fun W => by
    obtain ⟨te, p1, i1⟩ := ha.ex W
    refine ⟨tUn (rU fun i => .int (-i)) te, fun X S => pe_un un_neg (p1 X S), fun e Ex hl env T F σ H Q R hh ht hR => ?_⟩
    refine i1 e Ex hl env T F σ H _ _ hh ht fun v H1 F1 env1 x hh1 q1 => ?_
    obtain ⟨d, rd, q3⟩ := hh1.wd (v := v) (sl := x) List.mem_cons_self q1
    cases d <;> first
      | exact q3.elim
      | exact ⟨_, rd.int, (hh1.pop.done hR).int hh1.fh q3⟩⟩
mutual
def D.py : D → PyData
  | .non => .none
  | .bl b => .bool b
  | .int i => .int i
  | .str x => .str x
  | .val _ => .none
  | .lst ds => .list (D.pys ds)
  | .fz ds => .list (D.pys ds)
  | .tup ds => .tuple (D.pys ds)
  | .tk ds => .tuple (D.pys ds)
  | .exc _ => .none
  | .glo _ => .none
  | .dk _ _ => .none
  | .dt _ _ => .none
def D.pys : List D → List PyData
  | [] => []
  | d :: ds => D.py d :: D.pys ds
end
mutual
def D.noVal : D → Bool
  | .val _ => false
  | .exc _ => false
  | .glo _ => false
  | .dk _ _ => false
  | .dt _ _ => false
  | .lst ds => D.noVals ds
  | .fz ds => D.noVals ds
  | .tup ds => D.noVals ds
  | .tk ds => D.noVals ds
  | _ => true
def D.noVals : List D → Bool
  | [] => true
  | d :: ds => D.noVal d && D.noVals ds
end
section
variable {K : PySem.W.Frag} {H : Hp}
mutual
theorem Rep.dp : ∀ {d : D} {v : V}, d.noVal = true → Rep K H d v → Dp K H v d.py
  | .non, _, _, h => by
    have e : _ = V.non := h
    rw [e]
    exact .non
  | .bl b, _, _, h => by
    have e : _ = V.bl b := h
    rw [e]
    exact .bl b
  | .int b, _, _, h => by
    have e : _ = V.int b := h
    rw [e]
    exact .int b
  | .str b, _, _, h => by
    have e : _ = V.str b := h
    rw [e]
    exact .str b
  | .val _, _, n, _ => nomatch n
  | .exc _, _, n, _ => nomatch n
  | .glo _, _, n, _ => nomatch n
  | .dk _ _, _, n, _ => nomatch n
  | .dt _ _, _, n, _ => nomatch n
  | .lst ds, _, n, h => by
    obtain ⟨a, xs, rfl, hs, hr⟩ := h
    exact .lst (SqL.of hs) (Reps.dp n hr)
  | .fz ds, _, n, h => by
    obtain ⟨a, xs, rfl, hs, hr⟩ := h
    exact .lst hs (Reps.dp n hr)
  | .tup ds, _, n, h => by
    obtain ⟨a, xs, rfl, hs, hr⟩ := h
    exact .tup hs.sq (Reps.dp n hr)
  | .tk ds, _, n, h => by
    obtain ⟨a, xs, rfl, hs, hr⟩ := h
    exact .tup hs (Reps.dp n hr)
theorem Reps.dp : ∀ {ds : List D} {vs : List V}, D.noVals ds = true → Reps K H ds vs → DpAll K H vs (D.pys ds)
  | [], _, _, h => by
    have e : _ = [] := h
    rw [e]
    exact .nil
  | d :: ds, _, n, h => by
    obtain ⟨v, r, rfl, h1, h2⟩ := h
    have n' : (D.noVal d && D.noVals ds) = true := n
    rw [Bool.and_eq_true] at n'
    exact .cons (Rep.dp n'.1 h1) (Reps.dp n'.2 h2)
end
end
def D.cmp (d : D) : Prop := d.noVal = true ∧ SeqAt.shaped d.py = true
def D.eqv (d e : D) : Bool := PyData.eqv d.py e.py
def fEq : D → D → (Sl → Prop) → Prop
  | .int i, .int j, Q => Q (.ext (.bl (i == j)))
  | .str i, .str j, Q => Q (.ext (.bl (i == j)))
  | .bl i, .bl j, Q => Q (.ext (.bl (i == j)))
  | d, e, Q => d.cmp ∧ e.cmp ∧ Q (.ext (.bl (d.eqv e)))
def fNe : D → D → (Sl → Prop) → Prop
  | .int i, .int j, Q => Q (.ext (.bl (!(i == j))))
  | .str i, .str j, Q => Q (.ext (.bl (!(i == j))))
  | .bl i, .bl j, Q => Q (.ext (.bl (!(i == j))))
  | d, e, Q => d.cmp ∧ e.cmp ∧ Q (.ext (.bl (!d.eqv e)))
def rEqA (K : PySem.W.Frag) : R2 := fun x y H Q => rEq x y H Q ∨ rEqD K x y H Q
def rNeA (K : PySem.W.Frag) : R2 := fun x y H Q => rNe x y H Q ∨ rNeD K x y H Q
theorem pr_eq {K : PySem.W.Frag} : Pr2 K (rEqA K) fEq := fun F H v u d d' Q R fh h1 h2 hf ha => by
  unfold fEq at hf
  split at hf
  · rw [h1.int, h2.int]
    exact .inl ⟨rfl, by rw [dec_int]; exact ha.bl fh hf⟩
  · rw [h1.str, h2.str]
    exact .inl ⟨rfl, by rw [dec_str]; exact ha.bl fh hf⟩
  · rw [h1.bl, h2.bl]
    exact .inl ⟨rfl, by rw [dec_bl]; exact ha.bl fh hf⟩
  · obtain ⟨c1, c2, q⟩ := hf
    exact .inr ⟨d.py, d'.py, Rep.dp c1.1 (h1.rep fh), Rep.dp c2.1 (h2.rep fh), c1.2, c2.2, ha.bl fh q⟩
theorem pr_ne {K : PySem.W.Frag} : Pr2 K (rNeA K) fNe := fun F H v u d d' Q R fh h1 h2 hf ha => by
  unfold fNe at hf
  split at hf
  · rw [h1.int, h2.int]
    exact .inl ⟨rfl, by rw [dec_int]; exact ha.bl fh hf⟩
  · rw [h1.str, h2.str]
    exact .inl ⟨rfl, by rw [dec_str]; exact ha.bl fh hf⟩
  · rw [h1.bl, h2.bl]
    exact .inl ⟨rfl, by rw [dec_bl]; exact ha.bl fh hf⟩
  · obtain ⟨c1, c2, q⟩ := hf
    exact .inr ⟨d.py, d'.py, Rep.dp c1.1 (h1.rep fh), Rep.dp c2.1 (h2.rep fh), c1.2, c2.2, ha.bl fh q⟩
def fCmp (p : Int → Int → Bool) : D → D → (Sl → Prop) → Prop
  | .int i, .int j, Q => Q (.ext (.bl (p i j)))
  | _, _, _ => False
theorem pr_cmp {K : PySem.W.Frag} {p : Int → Int → Bool} : Pr2 K (rI0 fun i j => .bl (p i j)) (fCmp p) := fun F H v u d d' Q R fh h1 h2 hf ha => by
  unfold fCmp at hf
  split at hf
  · exact ⟨_, _, h1.int, h2.int, ha.bl fh hf⟩
  · exact hf.elim
def D.flat : D → Bool
  | .non => true
  | .bl _ => true
  | .int _ => true
  | .str _ => true
  | _ => false
def D.toV : D → V
  | .non => .non
  | .bl b => .bl b
  | .int i => .int i
  | .str x => .str x
  | .val v => v
  | _ => .non
def D.isIn (x : D) (xs : List D) : Bool := inV x.toV (xs.map D.toV)
def fIn (neg : Bool) : D → D → (Sl → Prop) → Prop
  | d, .lst ds, Q => d.flat = true ∧ ds.all D.flat = true ∧ Q (.ext (.bl (if neg then !d.isIn ds else d.isIn ds)))
  | d, .tup ds, Q => d.flat = true ∧ ds.all D.flat = true ∧ Q (.ext (.bl (if neg then !d.isIn ds else d.isIn ds)))
  | _, _, _ => False
theorem flat_rep {K : PySem.W.Frag} {F : Hp} {d : D} {v : V} (h : Rep K F d v) (f : d.flat = true) : v = d.toV ∧ flatV v = true := by
  cases d with
  | non =>
    have e : v = .non := h
    rw [e]
    exact ⟨rfl, rfl⟩
  | bl b =>
    have e : v = .bl b := h
    rw [e]
    exact ⟨rfl, rfl⟩
  | int b =>
    have e : v = .int b := h
    rw [e]
    exact ⟨rfl, rfl⟩
  | str b =>
    have e : v = .str b := h
    rw [e]
    exact ⟨rfl, rfl⟩
  | val u => exact nomatch f
  | lst ds => exact nomatch f
  | fz ds => exact nomatch f
  | tup ds => exact nomatch f
  | tk ds => exact nomatch f
  | exc c => exact nomatch f
  | glo c => exact nomatch f
  | dk _ _ => exact nomatch f
  | dt _ _ => exact nomatch f
theorem flat_reps {K : PySem.W.Frag} {F : Hp} : ∀ {ds : List D} {vs : List V}, Reps K F ds vs → ds.all D.flat = true → vs = ds.map D.toV ∧ vs.all flatV = true
  | [], _, h, _ => by
    have e : _ = [] := h
    rw [e]
    exact ⟨rfl, rfl⟩
  | d :: ds, _, h, f => by
    obtain ⟨v, r, rfl, h1, h2⟩ := h
    rw [List.all_cons, Bool.and_eq_true] at f
    obtain ⟨e1, f1⟩ := flat_rep h1 f.1
    obtain ⟨e2, f2⟩ := flat_reps h2 f.2
    rw [List.all_cons, f1, f2, List.map_cons, ← e1, ← e2]
    exact ⟨rfl, rfl⟩
theorem pr_in {K : PySem.W.Frag} (neg : Bool) : Pr2 K (rIn K neg) (fIn neg) := fun F H v u d d' Q R fh h1 h2 hf ha => by
  unfold fIn at hf
  split at hf
  · rename_i ds
    obtain ⟨b, us, rfl, e2, r2⟩ := h2.lst fh
    obtain ⟨f1, f2, q⟩ := hf
    obtain ⟨x1, x2⟩ := flat_rep (h1.rep fh) f1
    obtain ⟨y1, y2⟩ := flat_reps r2 f2
    refine ⟨b, us, rfl, .inl (SqL.of e2), x2, y2, ?_⟩
    rw [x1, y1]
    exact ha.bl fh q
  · rename_i ds
    obtain ⟨b, us, rfl, e2, _, r2⟩ := h2.tup fh
    obtain ⟨f1, f2, q⟩ := hf
    obtain ⟨x1, x2⟩ := flat_rep (h1.rep fh) f1
    obtain ⟨y1, y2⟩ := flat_reps r2 f2
    refine ⟨b, us, rfl, .inr e2, x2, y2, ?_⟩
    rw [x1, y1]
    exact ha.bl fh q
  · exact hf.elim
section
variable {G : GG} {N : List Str} {sc : SC} {k : Nat} {a b c : Expr} {ta tb tc : DT} {pos : Pos}
def CmpR (op : CmpOp) (f : D → D → (Sl → Prop) → Prop) : Prop := ∃ r : PySem.W.Frag → R2, (∀ K, Pr2 K (r K) f) ∧ ∀ X : Cx, X.A.units + 64 < cLine → OpR X (compareOp op) (r X.K)
theorem c_eq : CmpR .Eq fEq := ⟨rEqA, fun _ => pr_eq, fun _ h => op_eq.or (op_eqD h)⟩
theorem c_ne : CmpR .NotEq fNe := ⟨rNeA, fun _ => pr_ne, fun _ h => op_ne.or (op_neD h)⟩
theorem c_lt : CmpR .Lt (fCmp fun i j => decide (i < j)) := ⟨fun _ => _, fun _ => pr_cmp, fun _ _ => op_lt⟩
theorem c_le : CmpR .LtE (fCmp fun i j => decide (i ≤ j)) := ⟨fun _ => _, fun _ => pr_cmp, fun _ _ => op_le⟩
theorem c_gt : CmpR .Gt (fCmp fun i j => decide (j < i)) := ⟨fun _ => _, fun _ => pr_cmp, fun _ _ => op_gt⟩
theorem c_ge : CmpR .GtE (fCmp fun i j => decide (j ≤ i)) := ⟨fun _ => _, fun _ => pr_cmp, fun _ _ => op_ge⟩
theorem c_in : CmpR .In (fIn false) := ⟨fun K => rIn K false, fun _ => pr_in false, fun _ _ => op_in_seq⟩
theorem c_notin : CmpR .NotIn (fIn true) := ⟨fun K => rIn K true, fun _ => pr_in true, fun _ _ => op_notIn_seq⟩
def D.knN : D → Bool
  | .val _ => false
  | _ => true
def D.isNon : D → Bool
  | .non => true
  | _ => false
def fIsN : D → D → (Sl → Prop) → Prop
  | d, .non, Q => d.knN = true ∧ Q (.ext (.bl d.isNon))
  | _, _, _ => False
theorem isN_dec {K : PySem.W.Frag} {F : Hp} {d : D} {v : V} (n : d.knN = true) (h : Rep K F d v) : decide (v = .non) = d.isNon := by
  cases d with
  | non =>
    have e : v = .non := h
    rw [e]
    rfl
  | val u => cases n
  | bl b =>
    have e : v = .bl b := h
    rw [e]
    rfl
  | int b =>
    have e : v = .int b := h
    rw [e]
    rfl
  | str b =>
    have e : v = .str b := h
    rw [e]
    exact decide_eq_false fun z => nomatch z
  | lst ds =>
    obtain ⟨a, xs, rfl, _⟩ := h
    rfl
  | fz ds =>
    obtain ⟨a, xs, rfl, _⟩ := h
    rfl
  | tup ds =>
    obtain ⟨a, xs, rfl, _⟩ := h
    rfl
  | tk ds =>
    obtain ⟨a, xs, rfl, _⟩ := h
    rfl
  | exc c =>
    obtain ⟨a, oe, rfl, _⟩ := h
    rfl
  | dk _ _ =>
    obtain ⟨a, _, _, rfl, _⟩ := h
    rfl
  | dt _ _ =>
    obtain ⟨a, _, _, rfl, _⟩ := h
    rfl
  | glo c =>
    have e : v = .ref _ := h
    rw [e]
    rfl
theorem c_is : CmpR .Is fIsN := ⟨fun _ => _, fun K F H v u d d' Q R fh h1 h2 hf ha => by
    unfold fIsN at hf
    split at hf
    · refine ⟨h2.non, ?_⟩
      rw [isN_dec hf.1 (h1.rep fh)]
      exact ha.bl fh hf.2
    · exact hf.elim, fun _ _ => op_isN⟩
def fNotN : D → D → (Sl → Prop) → Prop
  | d, .non, Q => d.knN = true ∧ Q (.ext (.bl (!d.isNon)))
  | _, _, _ => False
theorem de_cmp {op : CmpOp} {f : D → D → (Sl → Prop) → Prop} (hr : CmpR op f) (ha : DE G N sc k a ta) (hb : DE G N sc k b tb) (hm : behindInMarks op b = false := by first | exact nomark _ | rfl) : DE G N sc k (.Compare a [op] [b] pos) (dOp f ta tb) :=
  ⟨fun W => by
    obtain ⟨r, h1, h2⟩ := hr
    obtain ⟨te, p1, i1⟩ := ha.ex W
    obtain ⟨tf, p2, i2⟩ := hb.ex W
    exact ⟨tOp (r G.K) te tf, fun X S => pe_cmpR (by rw [← S.K]; exact h2 X S.units) (p1 X S) (p2 X S) hm, im_op (h1 _) i1 i2⟩⟩
def dTest (t : DT) : DTT := fun Ex env Q => t Ex env fun x env1 => match x with
  | .ext (.bl b) => Q b env1
  | _ => False
theorem imT_of {K : PySem.W.Frag} {W : WX} {te : TE} {t : DT} {tt : TT} (h : Im K W te t) (hs : ∀ σ H Q, te σ H (fun x H1 => ∃ c, x = .bl c ∧ Q c H1) → tt σ H Q) : ImT K W tt (dTest t) := fun e Ex hl env T F σ H Q R hh ht hR => by
  refine hs _ _ _ (h e Ex hl env T F σ H _ _ hh ht fun v H1 F1 env1 x hh1 q1 => ?_)
  cases x with
  | ext d =>
    cases d with
    | bl b => exact ⟨b, hh1.temps (v, .ext (.bl b)) List.mem_cons_self, hR b H1 F1 env1 hh1.pop q1⟩
    | _ => exact q1.elim
  | _ => exact q1.elim
theorem dt_cmp {op : CmpOp} {f : D → D → (Sl → Prop) → Prop} (hr : CmpR op f) (ha : DE G N sc k a ta) (hb : DE G N sc k b tb) (hm : behindInMarks op b = false := by first | exact nomark _ | rfl) : DTe G N sc k (.Compare a [op] [b] pos) (dTest (dOp f ta tb)) :=
  ⟨fun W => by
    obtain ⟨r, h1, h2⟩ := hr
    obtain ⟨te, p1, i1⟩ := ha.ex W
    obtain ⟨tf, p2, i2⟩ := hb.ex W
    exact ⟨tTest (tOp (r G.K) te tf), fun X S => pt_cmpR (by rw [← S.K]; exact h2 X S.units) (p1 X S) (p2 X S) hm, imT_of (im_op (h1 _) i1 i2) fun _ _ _ h => h⟩⟩
theorem dt_val {e : Expr} {t : DT} (h : DE G N sc k e t) (he : ∀ env whole, isTrue e env whole = (do let v ← whole; standAt e.pos; holding [v] (truthy v)) := by intro _ _; rfl) : DTe G N sc k e (dTest t) :=
  ⟨fun W => by
    obtain ⟨te, p1, i1⟩ := h.ex W
    exact ⟨tB te, fun X S => pt_val (p1 X S) (he _), imT_of i1 fun _ _ _ h => h⟩⟩
def dChain (f f' : D → D → (Sl → Prop) → Prop) (ta tb tc : DT) : DT := fun Ex env Q => ta Ex env fun x env1 => tb Ex env1 fun y env2 => wd env2 x fun d => wd env2 y fun d' => f d d' fun z => match z with
  | .ext (.bl true) => tc Ex env2 fun w env3 => wd env3 y fun d1 => wd env3 w fun d2 => f' d1 d2 fun sl => Q sl env3
  | .ext (.bl false) => Q (.ext (.bl false)) env2
  | _ => False
theorem de_chain {op op' : CmpOp} {f f' : D → D → (Sl → Prop) → Prop} (hr : CmpR op f) (hr' : CmpR op' f') (ha : DE G N sc k a ta) (hb : DE G N sc k b tb) (hc : DE G N sc k c tc)
    (hm : lastMarks [op, op'] [b, c] = false := by with_unfolding_all rfl) : DE G N sc k (.Compare a [op, op'] [b, c] pos) (dChain f f' ta tb tc) :=
  ⟨fun W => by
    obtain ⟨r, h1, h2⟩ := hr
    obtain ⟨r', h1', h2'⟩ := hr'
    obtain ⟨te, p1, i1⟩ := ha.ex W
    obtain ⟨tf, p2, i2⟩ := hb.ex W
    obtain ⟨tg, p3, i3⟩ := hc.ex W
    refine ⟨tChain (r G.K) (r' G.K) te tf tg, fun X S => pe_chain (by rw [← S.K]; exact h2 X S.units) (by rw [← S.K]; exact h2' X S.units) (p1 X S) (p2 X S) (p3 X S) hm, fun e Ex hl env T F σ H Q R hh ht hR => ?_⟩
    refine i1 e Ex hl env T F σ H _ _ hh ht fun v H1 F1 env1 x hh1 q1 => ?_
    refine i2 e Ex hl env1 _ F1 σ H1 _ _ hh1 q1 fun u H2 F2 env2 y hh2 q2 => ?_
    obtain ⟨d, rd, q3⟩ := hh2.wd (v := v) (sl := x) (List.mem_cons_of_mem _ List.mem_cons_self) q2
    obtain ⟨d', rd', q4⟩ := hh2.wd (v := u) (sl := y) List.mem_cons_self q3
    refine h1 _ F2 H2 v u d d' _ _ hh2.fh rd rd' q4 fun z F3 H3 sl g ok own q5 => ?_
    have hh3 := hh2.push g ok own
    cases sl with
    | ext dz =>
      cases dz with
      | bl bb =>
        refine ⟨bb, hh3.temps (z, .ext (.bl bb)) List.mem_cons_self, ?_⟩
        cases bb with
        | true =>
          rw [if_pos rfl]
          refine i3 e Ex hl env2 _ F3 σ H3 _ _ hh3.pop q5 fun w H4 F4 env4 x4 hh4 q6 => ?_
          obtain ⟨d1, rd1, q7⟩ := hh4.wd (v := u) (sl := y) (List.mem_cons_of_mem _ List.mem_cons_self) q6
          obtain ⟨d2, rd2, q8⟩ := hh4.wd (v := w) (sl := x4) List.mem_cons_self q7
          exact h1' _ F4 H4 u w d1 d2 _ R hh4.fh rd1 rd2 q8 (hh4.pop.pop.pop.done hR)
        | false =>
          rw [if_neg Bool.false_ne_true]
          exact hR (.bl false) H3 F3 env2 (.ext (.bl false)) (hh3.pop.pop.pop.pushE rfl) q5
      | _ => exact q5.elim
    | _ => exact q5.elim⟩
theorem dt_chain {op op' : CmpOp} {f f' : D → D → (Sl → Prop) → Prop} (hr : CmpR op f) (hr' : CmpR op' f') (ha : DE G N sc k a ta) (hb : DE G N sc k b tb) (hc : DE G N sc k c tc)
    (hm : lastMarks [op, op'] [b, c] = false := by with_unfolding_all rfl) : DTe G N sc k (.Compare a [op, op'] [b, c] pos) (dTest (dChain f f' ta tb tc)) :=
  ⟨fun W => by
    obtain ⟨r, h1, h2⟩ := hr
    obtain ⟨r', h1', h2'⟩ := hr'
    obtain ⟨te, p1, i1⟩ := ha.ex W
    obtain ⟨tf, p2, i2⟩ := hb.ex W
    obtain ⟨tg, p3, i3⟩ := hc.ex W
    refine ⟨tTest (tChain (r G.K) (r' G.K) te tf tg), fun X S => pt_chain (by rw [← S.K]; exact h2 X S.units) (by rw [← S.K]; exact h2' X S.units) (p1 X S) (p2 X S) (p3 X S) hm, imT_of (te := tChain (r G.K) (r' G.K) te tf tg) (fun e Ex hl env T F σ H Q R hh ht hR => ?_) fun _ _ _ h => h⟩
    refine i1 e Ex hl env T F σ H _ _ hh ht fun v H1 F1 env1 x hh1 q1 => ?_
    refine i2 e Ex hl env1 _ F1 σ H1 _ _ hh1 q1 fun u H2 F2 env2 y hh2 q2 => ?_
    obtain ⟨d, rd, q3⟩ := hh2.wd (v := v) (sl := x) (List.mem_cons_of_mem _ List.mem_cons_self) q2
    obtain ⟨d', rd', q4⟩ := hh2.wd (v := u) (sl := y) List.mem_cons_self q3
    refine h1 _ F2 H2 v u d d' _ _ hh2.fh rd rd' q4 fun z F3 H3 sl g ok own q5 => ?_
    have hh3 := hh2.push g ok own
    cases sl with
    | ext dz =>
      cases dz with
      | bl bb =>
        refine ⟨bb, hh3.temps (z, .ext (.bl bb)) List.mem_cons_self, ?_⟩
        cases bb with
        | true =>
          rw [if_pos rfl]
          refine i3 e Ex hl env2 _ F3 σ H3 _ _ hh3.pop q5 fun w H4 F4 env4 x4 hh4 q6 => ?_
          obtain ⟨d1, rd1, q7⟩ := hh4.wd (v := u) (sl := y) (List.mem_cons_of_mem _ List.mem_cons_self) q6
          obtain ⟨d2, rd2, q8⟩ := hh4.wd (v := w) (sl := x4) List.mem_cons_self q7
          exact h1' _ F4 H4 u w d1 d2 _ R hh4.fh rd1 rd2 q8 (hh4.pop.pop.pop.done hR)
        | false =>
          rw [if_neg Bool.false_ne_true]
          exact hR (.bl false) H3 F3 env2 (.ext (.bl false)) (hh3.pop.pop.pop.pushE rfl) q5
      | _ => exact q5.elim
    | _ => exact q5.elim⟩
def dAnd (t u : DTT) : DTT := fun Ex env Q => t Ex env fun b env1 => if b = true then u Ex env1 Q else Q false env1
def dOr (t u : DTT) : DTT := fun Ex env Q => t Ex env fun b env1 => if b = true then Q true env1 else u Ex env1 Q
def dNot (t : DTT) : DTT := fun Ex env Q => t Ex env fun b env1 => Q (!b) env1
structure DWe (G : GG) (N : List Str) (sc : SC) (k : Nat) (e : Expr) (t : DTT) : Prop where
  ex : ∀ W : WX, ∃ te, (∀ X, Sit G N sc W k X → PW X e te) ∧ ImT G.K W te t
variable {rest : List Expr} {t u : DTT}
theorem imT_and {K : PySem.W.Frag} {W : WX} {te tf : TT} (h : ImT K W te t) (g : ImT K W tf u) : ImT K W (tAnd te tf) (dAnd t u) := fun e Ex hl env T F σ H Q R hh ht hR => by
  refine h e Ex hl env T F σ H _ _ hh ht fun b H1 F1 env1 hh1 q1 => ?_
  cases b with
  | true =>
    rw [if_pos rfl] at q1 ⊢
    exact g e Ex hl env1 T F1 σ H1 _ _ hh1 q1 hR
  | false =>
    rw [if_neg Bool.false_ne_true] at q1 ⊢
    exact hR false H1 F1 env1 hh1 q1
theorem imT_or {K : PySem.W.Frag} {W : WX} {te tf : TT} (h : ImT K W te t) (g : ImT K W tf u) : ImT K W (tOr te tf) (dOr t u) := fun e Ex hl env T F σ H Q R hh ht hR => by
  refine h e Ex hl env T F σ H _ _ hh ht fun b H1 F1 env1 hh1 q1 => ?_
  cases b with
  | true =>
    rw [if_pos rfl] at q1 ⊢
    exact hR true H1 F1 env1 hh1 q1
  | false =>
    rw [if_neg Bool.false_ne_true] at q1 ⊢
    exact g e Ex hl env1 T F1 σ H1 _ _ hh1 q1 hR
theorem dw_and1 (h : DTe G N sc k a t) : DWe G N sc k (.BoolOp .And [a] pos) t := ⟨fun W => by
  obtain ⟨te, p1, i1⟩ := h.ex W
  exact ⟨te, fun X S => pw_and1 (p1 X S), i1⟩⟩
theorem dw_or1 (h : DTe G N sc k a t) : DWe G N sc k (.BoolOp .Or [a] pos) t := ⟨fun W => by
  obtain ⟨te, p1, i1⟩ := h.ex W
  exact ⟨te, fun X S => pw_or1 (p1 X S), i1⟩⟩
theorem dw_and (h : DTe G N sc k a t) (g : DWe G N sc k (.BoolOp .And (b :: rest) pos) u) : DWe G N sc k (.BoolOp .And (a :: b :: rest) pos) (dAnd t u) := ⟨fun W => by
  obtain ⟨te, p1, i1⟩ := h.ex W
  obtain ⟨tf, p2, i2⟩ := g.ex W
  exact ⟨tAnd te tf, fun X S => pw_and (p1 X S) (p2 X S), imT_and i1 i2⟩⟩
theorem dw_or (h : DTe G N sc k a t) (g : DWe G N sc k (.BoolOp .Or (b :: rest) pos) u) : DWe G N sc k (.BoolOp .Or (a :: b :: rest) pos) (dOr t u) := ⟨fun W => by
  obtain ⟨te, p1, i1⟩ := h.ex W
  obtain ⟨tf, p2, i2⟩ := g.ex W
  exact ⟨tOr te tf, fun X S => pw_or (p1 X S) (p2 X S), imT_or i1 i2⟩⟩
theorem DWe.te {e : Expr} (h : DWe G N sc k e t) : DTe G N sc k e t := ⟨fun W => by
  obtain ⟨te, p1, i1⟩ := h.ex W
  exact ⟨te, fun X S => (p1 X S).pt, i1⟩⟩
theorem dt_not (h : DTe G N sc k a t) : DTe G N sc k (.UnaryOp .Not a pos) (dNot t) := ⟨fun W => by
  obtain ⟨te, p1, i1⟩ := h.ex W
  exact ⟨tNot te, fun X S => pt_not (p1 X S), fun e Ex hl env T F σ H Q R hh ht hR => i1 e Ex hl env T F σ H _ _ hh ht fun b H1 F1 env1 hh1 q1 => hR (!b) H1 F1 env1 hh1 q1⟩⟩
def dAndV (ta tb : DT) : DT := fun Ex env Q => ta Ex env fun x env1 => match x with
  | .ext (.bl true) => tb Ex env1 Q
  | .ext (.bl false) => Q (.ext (.bl false)) env1
  | _ => False
def dOrV (ta tb : DT) : DT := fun Ex env Q => ta Ex env fun x env1 => match x with
  | .ext (.bl false) => tb Ex env1 Q
  | .ext (.bl true) => Q (.ext (.bl true)) env1
  | _ => False
def dNotV (ta : DT) : DT := fun Ex env Q => ta Ex env fun x env1 => match x with
  | .ext (.bl b) => Q (.ext (.bl (!b))) env1
  | _ => False
theorem de_one {op} {t : DT} (h : DE G N sc k a t) : DE G N sc k (.BoolOp op [a] pos) t := ⟨fun W => by
  obtain ⟨te, p1, i1⟩ := h.ex W
  exact ⟨te, fun X S => pe_one (p1 X S), i1⟩⟩
theorem de_and (h : DE G N sc k a ta) (g : DE G N sc k (.BoolOp .And (b :: rest) pos) tb) : DE G N sc k (.BoolOp .And (a :: b :: rest) pos) (dAndV ta tb) := ⟨fun W => by
  obtain ⟨te, p1, i1⟩ := h.ex W
  obtain ⟨tf, p2, i2⟩ := g.ex W
  refine ⟨tAndV te tf, fun X S => pe_and (p1 X S) (p2 X S), fun e Ex hl env T F σ H Q R hh ht hR => ?_⟩
  refine i1 e Ex hl env T F σ H _ _ hh ht fun v H1 F1 env1 x hh1 q1 => ?_
  cases x with
  | ext d =>
    cases d with
    | bl bb =>
      refine ⟨bb, hh1.temps (v, .ext (.bl bb)) List.mem_cons_self, ?_⟩
      cases bb with
      | true =>
        rw [if_pos rfl]
        exact i2 e Ex hl env1 T F1 σ H1 _ _ hh1.pop q1 hR
      | false =>
        rw [if_neg Bool.false_ne_true]
        exact hR (.bl false) H1 F1 env1 (.ext (.bl false)) (hh1.pop.pushE rfl) q1
    | _ => exact q1.elim
  | _ => exact q1.elim⟩
theorem de_not (h : DE G N sc k a ta) : DE G N sc k (.UnaryOp .Not a pos) (dNotV ta) := ⟨fun W => by
  obtain ⟨te, p1, i1⟩ := h.ex W
  refine ⟨tNotV te, fun X S => pe_not (p1 X S), fun e Ex hl env T F σ H Q R hh ht hR => ?_⟩
  refine i1 e Ex hl env T F σ H _ _ hh ht fun v H1 F1 env1 x hh1 q1 => ?_
  cases x with
  | ext d =>
    cases d with
    | bl bb => exact ⟨bb, hh1.temps (v, .ext (.bl bb)) List.mem_cons_self, hR _ H1 F1 env1 (.ext (.bl (!bb))) (hh1.pop.pushE rfl) q1⟩
    | _ => exact q1.elim
  | _ => exact q1.elim⟩
def dIf (t : DTT) (ta tb : DT) : DT := fun Ex env Q => t Ex env fun b env1 => if b = true then ta Ex env1 Q else tb Ex env1 Q
theorem de_if {t : DTT} (hc : DTe G N sc k c t) (ha : DE G N sc k a ta) (hb : DE G N sc k b tb) : DE G N sc k (.IfExp c a b pos) (dIf t ta tb) := ⟨fun W => by
  obtain ⟨tc, p0, i0⟩ := hc.ex W
  obtain ⟨te, p1, i1⟩ := ha.ex W
  obtain ⟨tf, p2, i2⟩ := hb.ex W
  refine ⟨tIf tc te tf, fun X S => pe_ifExp (p0 X S) (p1 X S) (p2 X S), fun e Ex hl env T F σ H Q R hh ht hR => ?_⟩
  refine i0 e Ex hl env T F σ H _ _ hh ht fun bb H1 F1 env1 hh1 q1 => ?_
  cases bb with
  | true =>
    rw [if_pos rfl] at q1 ⊢
    exact i1 e Ex hl env1 T F1 σ H1 _ _ hh1 q1 hR
  | false =>
    rw [if_neg Bool.false_ne_true] at q1 ⊢
    exact i2 e Ex hl env1 T F1 σ H1 _ _ hh1 q1 hR⟩
def froz (env : Env') : Sl → (D → Prop) → Prop
  | .ext d, q => q d
  | .lst _ ds, q => q (.lst ds)
  | _, _ => False
def frozs (env : Env') : List Sl → (List D → Prop) → Prop
  | [], q => q []
  | s :: ss, q => froz env s fun d => frozs env ss fun ds => q (d :: ds)
theorem Holds.froz1 {K : PySem.W.Frag} {e : Ent} {env : Env'} {T : Tmp} {F : Hp} {σ : St} {H : Hp} {v : V} {sl : Sl} {q : D → Prop} (h : Holds K e env ((v, sl) :: T) F σ H) (w : froz env sl q) : ∃ d F1, Same F F1 ∧ Holds K e env T F1 σ H ∧ Rep K F1 d v ∧ q d := by
  cases sl with
  | un => exact w.elim
  | reg _ _ => exact w.elim
  | ar _ _ => exact w.elim
  | al i a => exact w.elim
  | ext d => exact ⟨d, F, Same.refl _, h.pop, h.temps (v, .ext d) List.mem_cons_self, w⟩
  | lst a ds =>
    obtain ⟨F1, sm, h1⟩ := h.freezeT
    exact ⟨.lst ds, F1, sm, h1.pop, h1.temps (v, .ext (.lst ds)) List.mem_cons_self, w⟩
theorem Holds.frozs {K : PySem.W.Frag} {e : Ent} {env : Env'} {T : Tmp} {σ : St} {H : Hp} : ∀ {vs : List V} {xs : List Sl} {q : List D → Prop} {F : Hp}, vs.length = xs.length → Holds K e env (vs.zip xs ++ T) F σ H → HD.frozs env xs q → ∃ ds F1, Same F F1 ∧ Holds K e env T F1 σ H ∧ Reps K F1 ds vs ∧ q ds
  | [], [], q, F, _, h, w => ⟨[], F, Same.refl _, h, rfl, w⟩
  | [], _ :: _, _, _, e, _, _ => by cases e
  | _ :: _, [], _, _, e, _, _ => by cases e
  | v :: vs, x :: xs, q, F, le, h, w => by
    obtain ⟨d, F1, sm, h1, r1, w1⟩ := h.froz1 w
    obtain ⟨ds, F2, sm2, h2, r2, w2⟩ := Holds.frozs (vs := vs) (xs := xs) (by simpa using le) h1 w1
    exact ⟨d :: ds, F2, sm.trans sm2, h2, ⟨v, vs, rfl, Rep.same sm2 r1, r2⟩, w2⟩
def frzD (env : Env') : Sl → (D → Env' → Prop) → Prop
  | .ext d, q => q d env
  | .lst _ ds, q => q (.lst ds) env
  | .al i a, q => match env[i]? with
    | some (.lst b ds) => b = a ∧ q (.lst ds) (env.set i (.ext (.lst ds)))
    | some (.ext (.lst ds)) => False
    | _ => False
  | .un, _ => False
  | .reg _ _, _ => False
  | .ar _ _, _ => False
def frzDs (env : Env') : List Sl → (List D → Env' → Prop) → Prop
  | [], q => q [] env
  | s :: ss, q => frzD env s fun d env1 => frzDs env1 ss fun ds env2 => q (d :: ds) env2
theorem Holds.frz1 {K : PySem.W.Frag} {e : Ent} {env : Env'} {T : Tmp} {F : Hp} {σ : St} {H : Hp} {v : V} {sl : Sl} {q : D → Env' → Prop} (h : Holds K e env ((v, sl) :: T) F σ H) (w : frzD env sl q) : ∃ d F1 env', Same F F1 ∧ Holds K e env' T F1 σ H ∧ Rep K F1 d v ∧ q d env' := by
  cases sl with
  | un => exact w.elim
  | reg _ _ => exact w.elim
  | ar _ _ => exact w.elim
  | ext d => exact ⟨d, F, env, Same.refl _, h.pop, h.temps (v, .ext d) List.mem_cons_self, w⟩
  | lst a ds =>
    obtain ⟨F1, sm, h1⟩ := h.freezeT
    exact ⟨.lst ds, F1, env, sm, h1.pop, h1.temps (v, .ext (.lst ds)) List.mem_cons_self, w⟩
  | al i a =>
    have ev : v = .ref a := h.temps (v, .al i a) List.mem_cons_self
    have w' : (match env[i]? with | some (.lst b ds) => b = a ∧ q (.lst ds) (env.set i (.ext (.lst ds))) | some (.ext (.lst ds)) => False | _ => False) := w
    split at w'
    · rename_i b ds hb
      obtain ⟨rfl, w'⟩ := w'
      obtain ⟨F1, sm, h1⟩ := h.pop.freeze hb
      refine ⟨.lst ds, F1, _, sm, h1, ?_, w'⟩
      have hi : i < env.length := (List.getElem?_eq_some_iff.mp hb).1
      rcases h.slots i _ hb with z | ⟨u, hu, e1, _⟩
      · cases z
      · rcases h1.slots i (.ext (.lst ds)) (by rw [List.getElem?_set, if_pos rfl, if_pos hi]) with z | ⟨u', hu', ok⟩
        · cases z
        · rw [hu] at hu'
          cases hu'
          rw [ev, ← e1]
          exact ok
    · exact w'.elim
    · exact w'.elim
theorem Holds.frzs {K : PySem.W.Frag} {e : Ent} {T : Tmp} {σ : St} {H : Hp} : ∀ {vs : List V} {xs : List Sl} {q : List D → Env' → Prop} {F : Hp} {env : Env'}, vs.length = xs.length → Holds K e env (vs.zip xs ++ T) F σ H → HD.frzDs env xs q → ∃ ds F1 env', Same F F1 ∧ Holds K e env' T F1 σ H ∧ Reps K F1 ds vs ∧ q ds env'
  | [], [], q, F, env, _, h, w => ⟨[], F, env, Same.refl _, h, rfl, w⟩
  | [], _ :: _, _, _, _, e, _, _ => by cases e
  | _ :: _, [], _, _, _, e, _, _ => by cases e
  | v :: vs, x :: xs, q, F, env, le, h, w => by
    obtain ⟨d, F1, env1, sm, h1, r1, w1⟩ := h.frz1 w
    obtain ⟨ds, F2, env2, sm2, h2, r2, w2⟩ := Holds.frzs (vs := vs) (xs := xs) (by simpa using le) h1 w1
    exact ⟨d :: ds, F2, env2, sm.trans sm2, h2, ⟨v, vs, rfl, Rep.same sm2 r1, r2⟩, w2⟩
def dTup (t : DTA) : DT := fun Ex env Q => t Ex env fun xs env1 => xs.length ≤ sizeLine ∧ frzDs env1 xs fun ds env2 => Q (.ext (.tup ds)) env2
def dLst (t : DTA) : DT := fun Ex env Q => t Ex env fun xs env1 => xs.length ≤ sizeLine ∧ frzDs env1 xs fun ds env2 => ∀ a, Q (.lst a ds) env2
variable {es : List Expr} {tA : DTA}
theorem de_tup {x1} (h : DAs G N sc k es tA) : DE G N sc k (.Tuple es x1 pos) (dTup tA) := ⟨fun W => by
  obtain ⟨te, p1, i1⟩ := h.ex W
  refine ⟨tTupF te, fun X S => pe_tupF (p1 X S), fun e Ex hl env T F σ H Q R hh ht hR => ?_⟩
  refine i1 e Ex hl env T F σ H _ _ hh ht fun vs H1 F1 env1 xs le hh1 q1 => ⟨by rw [le]; exact q1.1, ?_⟩
  obtain ⟨ds, F2, env2, sm, hh2, r2, q2⟩ := hh1.frzs le q1.2
  exact (hh2.done hR).tup hh2.fh r2 q2⟩
theorem de_lst (h : DAs G N sc k es tA) : DE G N sc k (.List es pos) (dLst tA) := ⟨fun W => by
  obtain ⟨te, p1, i1⟩ := h.ex W
  refine ⟨tLst te, fun X S => pe_lst (p1 X S), fun e Ex hl env T F σ H Q R hh ht hR => ?_⟩
  refine i1 e Ex hl env T F σ H _ _ hh ht fun vs H1 F1 env1 xs le hh1 q1 => ⟨by rw [le]; exact q1.1, fun p n => ?_⟩
  obtain ⟨ds, F2, env2, sm, hh2, r2, q2⟩ := hh1.frzs le q1.2
  exact (hh2.done hR).lst hh2.fh n r2 (q2 p)⟩
def fIx : D → D → (Sl → Prop) → Prop
  | .lst ds, .int i, Q => ∃ d, atI ds i = some d ∧ Q (.ext d)
  | .tup ds, .int i, Q => ∃ d, atI ds i = some d ∧ Q (.ext d)
  | .tk ds, .int i, Q => ∃ d, atI ds i = some d ∧ Q (.ext d)
  | .fz ds, .int i, Q => ∃ d, atI ds i = some d ∧ Q (.ext d)
  | .str z, .int i, Q => z.length ≤ sizeLine ∧ ∃ c, atI z.cps.toList i = some c ∧ Q (.ext (.str ⟨#[c]⟩))
  | _, _, _ => False
theorem Reps.atI {K : PySem.W.Frag} {F : Hp} {ds : List D} {vs : List V} {i : Int} {d : D} (h : Reps K F ds vs) (e : L2.atI ds i = some d) : ∃ v, L2.atI vs i = some v ∧ Rep K F d v := by
  unfold L2.atI at e ⊢
  rw [← h.length]
  cases q : ixN ds.length i with
  | none =>
    rw [q] at e
    cases e
  | some j =>
    rw [q] at e
    exact h.get e
theorem pr_ix {K : PySem.W.Frag} : Pr2 K (rIx K) fIx := fun F H v u d d' Q R fh h1 h2 hf ha => by
  unfold fIx at hf
  split at hf
  · obtain ⟨a, vs, rfl, e1, r1⟩ := h1.lst fh
    obtain ⟨d, e, q⟩ := hf
    obtain ⟨w, e', r⟩ := r1.atI e
    exact .inl ⟨a, vs, _, w, rfl, h2.int, SqL.of e1, e', ha.ext fh r q⟩
  · obtain ⟨a, vs, rfl, e1, _, r1⟩ := h1.tup fh
    obtain ⟨d, e, q⟩ := hf
    obtain ⟨w, e', r⟩ := r1.atI e
    exact .inr (.inl ⟨a, vs, _, w, rfl, h2.int, e1, e', ha.ext fh r q⟩)
  · obtain ⟨a, vs, rfl, e1, _, r1⟩ := h1.tk fh
    obtain ⟨d, e, q⟩ := hf
    obtain ⟨w, e', r⟩ := r1.atI e
    exact .inr (.inl ⟨a, vs, _, w, rfl, h2.int, e1, e', ha.ext fh r q⟩)
  · obtain ⟨a, vs, rfl, e1, r1⟩ := h1.fz fh
    obtain ⟨d, e, q⟩ := hf
    obtain ⟨w, e', r⟩ := r1.atI e
    exact .inl ⟨a, vs, _, w, rfl, h2.int, e1, e', ha.ext fh r q⟩
  · obtain ⟨hz, c, e, q⟩ := hf
    exact .inr (.inr ⟨_, _, c, h1.str, h2.int, hz, e, ha.str fh q⟩)
  · exact hf.elim
theorem de_ix (ha : DE G N sc k a ta) (hb : DE G N sc k b tb) (hs : PlainIx b := by intro _ _; rfl) : DE G N sc k (.Subscript a b pos) (dOp fIx ta tb) := ⟨fun W => by
  obtain ⟨te, p1, i1⟩ := ha.ex W
  obtain ⟨tf, p2, i2⟩ := hb.ex W
  exact ⟨tOp (rIx G.K) te tf, fun X S => pe_ix (by rw [← S.K]; exact ix_seq) (p1 X S) (p2 X S) hs, im_op pr_ix i1 i2⟩⟩
abbrev DTO := DX → Env' → (Option Int → Env' → Prop) → Prop
def ImO (K : PySem.W.Frag) (W : WX) (to : TO) (t : DTO) : Prop :=
  ∀ (e : Ent) (Ex : DX), Link K e W Ex → ∀ (env : Env') (T : Tmp) (F : Hp) (σ : St) (H : Hp) (Q : Option Int → Env' → Prop) (R : Option Int → Hp → Prop),
    Holds K e env T F σ H → t Ex env Q → (∀ o H' F' env', Holds K e env' T F' σ H' → Q o env' → R o H') → to σ H R
structure DO' (G : GG) (N : List Str) (sc : SC) (k : Nat) (e : Option Expr) (t : DTO) : Prop where
  ex : ∀ W : WX, ∃ te, (∀ X, Sit G N sc W k X → PO X e te) ∧ ImO G.K W te t
def dNoPart : DTO := fun _ env Q => Q none env
def dPart (t : DT) : DTO := fun Ex env Q => t Ex env fun x env1 => match x with
  | .ext (.int i) => Q (some i) env1
  | _ => False
theorem do_none : DO' G N sc k none dNoPart := ⟨fun W => ⟨tNoPart, fun X S => po_none, fun e Ex hl env T F σ H Q R hh ht hR => hR none H F env hh ht⟩⟩
theorem do_some (h : DE G N sc k a ta) : DO' G N sc k (some a) (dPart ta) := ⟨fun W => by
  obtain ⟨te, p1, i1⟩ := h.ex W
  refine ⟨tPart te, fun X S => po_some (p1 X S), fun e Ex hl env T F σ H Q R hh ht hR => ?_⟩
  refine i1 e Ex hl env T F σ H _ _ hh ht fun v H1 F1 env1 x hh1 q1 => ?_
  cases x with
  | ext d =>
    cases d with
    | int i => exact ⟨i, hh1.temps (v, .ext (.int i)) List.mem_cons_self, hR (some i) H1 F1 env1 hh1.pop q1⟩
    | _ => exact q1.elim
  | _ => exact q1.elim⟩
def cutD (xs : List D) (lo hi : Option Int) : List D := (xs.drop (HT.sIx xs.length 0 lo)).take (HT.sIx xs.length xs.length hi - HT.sIx xs.length 0 lo)
theorem Reps.cut {K : PySem.W.Frag} {F : Hp} {ds : List D} {vs : List V} (h : Reps K F ds vs) (lo hi : Option Int) : Reps K F (cutD ds lo hi) (cutV vs lo hi) := by
  unfold cutD cutV
  rw [h.length]
  exact (h.drop _).take _
def fSl (d : D) (lo hi : Option Int) (Q : Sl → Prop) : Prop := match d with
  | .lst ds => ∀ a, Q (.lst a (cutD ds lo hi))
  | .fz ds => ∀ a, Q (.lst a (cutD ds lo hi))
  | .tup ds => Q (.ext (.tup (cutD ds lo hi)))
  | _ => False
def dSl (ta : DT) (tl th : DTO) : DT := fun Ex env Q => ta Ex env fun x env1 => tl Ex env1 fun lo env2 => th Ex env2 fun hi env3 => wd env3 x fun d => fSl d lo hi fun sl => Q sl env3
theorem cut_whole {α : Type} {xs : List α} {lo hi : Option Int} (h : HT.sIx xs.length 0 lo = 0 ∧ HT.sIx xs.length xs.length hi = xs.length) : (xs.drop (HT.sIx xs.length 0 lo)).take (HT.sIx xs.length xs.length hi - HT.sIx xs.length 0 lo) = xs := by
  rw [h.1, h.2, List.drop_zero, Nat.sub_zero, List.take_length]
theorem de_slice {lo hi : Option Expr} {tl th : DTO} {p2 : Pos} (h : DE G N sc k a ta) (hl : DO' G N sc k lo tl) (hh : DO' G N sc k hi th) : DE G N sc k (.Subscript a (.Slice lo hi none p2) pos) (dSl ta tl th) := ⟨fun W => by
  obtain ⟨te, p1, i1⟩ := h.ex W
  obtain ⟨tl', p2', i2⟩ := hl.ex W
  obtain ⟨th', p3, i3⟩ := hh.ex W
  refine ⟨tSl (fun x lo hi H Q => rSlL G.K x lo hi H Q ∨ rSlF G.K x lo hi H Q) te tl' th', fun X S => pe_slice (by rw [← S.K]; exact sl_list.or sl_tupF) (p1 X S) (p2' X S) (p3 X S), fun e Ex hl env T F σ H Q R hh ht hR => ?_⟩
  refine i1 e Ex hl env T F σ H _ _ hh ht fun v H1 F1 env1 x hh1 q1 => ?_
  refine i2 e Ex hl env1 _ F1 σ H1 _ _ hh1 q1 fun lo' H2 F2 env2 hh2 q2 => ?_
  refine i3 e Ex hl env2 _ F2 σ H2 _ _ hh2 q2 fun hi' H3 F3 env3 hh3 q3 => ?_
  obtain ⟨d, rd, q4⟩ := hh3.wd (v := v) (sl := x) List.mem_cons_self q3
  have dn := hh3.pop.done hR
  cases d with
  | lst ds =>
    obtain ⟨b, vs, rfl, e1, r1⟩ := rd.lst hh3.fh
    exact .inl ⟨b, vs, rfl, SqL.of e1, fun p n => dn.lst hh3.fh n (r1.cut lo' hi') (q4 p)⟩
  | fz ds =>
    obtain ⟨b, vs, rfl, e1, r1⟩ := rd.fz hh3.fh
    exact .inl ⟨b, vs, rfl, e1, fun p n => dn.lst hh3.fh n (r1.cut lo' hi') (q4 p)⟩
  | tup ds =>
    obtain ⟨b, vs, rfl, e1, e2, r1⟩ := rd.tup hh3.fh
    refine .inr ⟨b, vs, rfl, e1, fun z => ?_, fun _ => dn.tup hh3.fh (r1.cut lo' hi') q4⟩
    refine dn.ext (d := .tup (cutD ds lo' hi')) hh3.fh ⟨b, vs, rfl, e2, ?_⟩ q4
    have q := r1.cut lo' hi'
    unfold cutV at q
    rw [cut_whole z] at q
    exact q
  | _ => exact q4.elim⟩
end
end HD
namespace HD
open PySem L2
abbrev DSpec := List Sl → (Sl → List Sl → Prop) → (Str → List Sl → Prop) → Prop
abbrev entOf (F H : Hp) (args : Env') : Ent := ⟨F, H, ownedE args⟩
def toSp (K : PySem.W.Frag) (n : Nat) (spec : DSpec) : Sp := fun vs H Q E => ∃ (F : Hp) (args : Env') (Qd : Sl → List Sl → Prop) (Xd : Str → List Sl → Prop),
  vs.length = n ∧ Holds K (entOf F H args) args [] F (vs.map some) H ∧ spec args Qd Xd ∧
  (∀ v H' F' r fin, Holds K (entOf F H args) fin [(v, r)] F' (vs.map some) H' → Qd r fin → Q v H') ∧
  (∀ c H' F' fin, Holds K (entOf F H args) fin [] F' (vs.map some) H' → Xd c fin → E (clsV K c) none H')
def rootOf : D → Option Addr
  | .val (.ref a) => some a
  | _ => none
theorem rootOf_some {d : D} {a : Addr} (h : rootOf d = some a) : d = .val (.ref a) := by
  unfold rootOf at h
  split at h
  · cases h; rfl
  · cases h
theorem rootOf_eq {d d' : D} (h : (rootOf d).isSome = true ∧ rootOf d = rootOf d') : d = d' := by
  obtain ⟨h1, h2⟩ := h
  cases e : rootOf d with
  | none => rw [e] at h1; cases h1
  | some a =>
    have e2 : rootOf d' = some a := by rw [← h2]; exact e
    rw [rootOf_some e, rootOf_some e2]
def fin1 : Sl → Option Sl → Sl
  | .ext d, _ => .ext d
  | .lst a _, some (.lst b ds) => if a = b then .lst a ds else .un
  | .reg d _, some (.reg d' cs) => if (rootOf d).isSome = true ∧ rootOf d = rootOf d' then .reg d cs else .un
  | _, _ => .un
def finals (args env : Env') : Env' := (List.range args.length).map fun i => fin1 (args.getD i .un) env[i]?
theorem finals_get {args env : Env'} {i : Nat} {sl : Sl} (h : (finals args env)[i]? = some sl) : ∃ s, args[i]? = some s ∧ sl = fin1 s env[i]? := by
  unfold finals at h
  rw [List.getElem?_map] at h
  by_cases hi : i < args.length
  · rw [List.getElem?_range hi] at h
    have e := Option.some.inj h
    refine ⟨args[i], List.getElem?_eq_getElem hi, ?_⟩
    rw [← e]
    show fin1 (args.getD i .un) _ = _
    rw [List.getD_eq_getElem?_getD, List.getElem?_eq_getElem hi]
    rfl
  · rw [List.getElem?_eq_none (by rw [List.length_range]; omega)] at h
    cases h
theorem fin1_owned (s : Sl) (o : Option Sl) : (fin1 s o).owned.Sublist ((o.getD .un).owned) := by
  cases s with
  | un => exact List.nil_sublist _
  | ext d => exact List.nil_sublist _
  | al i a => exact List.nil_sublist _
  | ar i a => exact List.nil_sublist _
  | reg d cs =>
    cases o with
    | none => exact List.nil_sublist _
    | some s' =>
      cases s' with
      | reg d' cs' =>
        show (if (rootOf d).isSome = true ∧ rootOf d = rootOf d' then Sl.reg d cs' else .un).owned.Sublist (cs'.map (·.1))
        split
        · exact List.Sublist.refl _
        · exact List.nil_sublist _
      | _ => exact List.nil_sublist _
  | lst a ds =>
    cases o with
    | none => exact List.nil_sublist _
    | some s' =>
      cases s' with
      | lst b es =>
        show (if a = b then Sl.lst a es else .un).owned.Sublist [b]
        split
        · rename_i e
          subst e
          exact List.Sublist.refl _
        · exact List.nil_sublist _
      | _ => exact List.nil_sublist _
theorem finals_owned (args env : Env') : (ownedE (finals args env)).Sublist (ownedE env) := by
  have key : ∀ (n : Nat), (ownedE ((List.range n).map fun i => fin1 (args.getD i .un) env[i]?)).Sublist (ownedE (env.take n)) := by
    intro n
    induction n with
    | zero => exact List.nil_sublist _
    | succ n ih =>
      rw [List.range_succ, List.map_append]
      unfold ownedE at ih ⊢
      rw [List.flatMap_append, List.take_add_one, List.flatMap_append]
      refine ih.append ?_
      rw [List.map_cons, List.map_nil, List.flatMap_cons, List.flatMap_nil, List.append_nil]
      refine (fin1_owned _ _).trans ?_
      cases env[n]? with
      | none => exact List.Sublist.refl _
      | some s =>
        show s.owned.Sublist ([s].flatMap Sl.owned)
        rw [List.flatMap_cons, List.flatMap_nil, List.append_nil]
        exact List.Sublist.refl _
  refine (key args.length).trans ?_
  unfold ownedE
  have z := congrArg (List.flatMap Sl.owned) (List.take_append_drop args.length env)
  rw [List.flatMap_append] at z
  rw [← z]
  exact List.sublist_append_left _ _
theorem Holds.finals {K : PySem.W.Frag} {F H F' H' : Hp} {args env : Env'} {T : Tmp} {σ' : St} {vs : List V} (h0 : Holds K (entOf F H args) args [] F (vs.map some) H) (h : Holds K (entOf F H args) env T F' σ' H') : Holds K (entOf F H args) (HD.finals args env) T F' (vs.map some) H' := by
  have sub : (ownedE (HD.finals args env) ++ ownedT T).Sublist (ownedE env ++ ownedT T) := (finals_owned args env).append (List.Sublist.refl _)
  refine ⟨h.fh, ?_, fun i sl q => ?_, h.temps, h.nd.sublist sub, h.s1, h.s2, fun a ha => h.s3 a (sub.subset ha)⟩
  · rw [← h0.len]
    unfold HD.finals
    rw [List.length_map, List.length_range]
  · obtain ⟨s, hs, rfl⟩ := finals_get q
    rcases h0.slots i s hs with z | ⟨v, hv, ok⟩
    · subst z
      exact .inl rfl
    · cases s with
      | un => exact .inl rfl
      | al j a => exact .inl rfl
      | ar j a => exact .inl rfl
      | reg d cs =>
        cases e : env[i]? with
        | none => exact .inl rfl
        | some s' =>
          cases s' with
          | reg d' cs' =>
            show (if (rootOf d).isSome = true ∧ rootOf d = rootOf d' then Sl.reg d cs' else .un) = .un ∨ ∃ v, _ ∧ SlOk K F' H' v (if (rootOf d).isSome = true ∧ rootOf d = rootOf d' then Sl.reg d cs' else .un)
            split
            · rename_i dd
              have ed := rootOf_eq dd
              subst ed
              rcases h.slots i _ e with z | ⟨w, _, ok'⟩
              · cases z
              · exact .inr ⟨v, hv, Rep.same h.s1 ok.1, ok'.2⟩
            · exact .inl rfl
          | _ => exact .inl rfl
      | ext d => exact .inr ⟨v, hv, Rep.same h.s1 ok⟩
      | lst a ds =>
        obtain ⟨rfl, _⟩ := ok
        cases e : env[i]? with
        | none => exact .inl rfl
        | some s' =>
          cases s' with
          | lst b es =>
            show (if a = b then Sl.lst a es else .un) = .un ∨ ∃ v, _ ∧ SlOk K F' H' v (if a = b then Sl.lst a es else .un)
            split
            · rename_i ab
              subst ab
              rcases h.slots i _ e with z | ⟨w, _, ok'⟩
              · cases z
              · obtain ⟨rfl, r⟩ := ok'
                exact .inr ⟨_, hv, rfl, r⟩
            · exact .inl rfl
          | _ => exact .inl rfl
mutual
def D.imm : D → Bool
  | .lst _ => false
  | .exc _ => false
  | .fz _ => false
  | .dk _ _ => false
  | .dt _ _ => false
  | .tup ds => D.imms ds
  | .tk ds => D.imms ds
  | _ => true
def D.imms : List D → Bool
  | [] => true
  | d :: ds => D.imm d && D.imms ds
end
mutual
theorem Rep.ofT {K : PySem.W.Frag} {F F' : Hp} (t : ∀ a xs, SqT K F a xs → SqT K F' a xs) (t2 : ∀ a xs, TupD K F a xs → TupD K F' a xs) : ∀ {d : D} {v : V}, d.imm = true → Rep K F d v → Rep K F' d v
  | .non, _, _, h => h
  | .bl _, _, _, h => h
  | .int _, _, _, h => h
  | .str _, _, _, h => h
  | .val _, _, _, h => h
  | .lst _, _, n, _ => nomatch n
  | .fz _, _, n, _ => nomatch n
  | .exc _, _, n, _ => nomatch n
  | .dk _ _, _, n, _ => nomatch n
  | .dt _ _, _, n, _ => nomatch n
  | .glo _, _, _, h => h
  | .tup _, _, n, h => by
    obtain ⟨a, xs, rfl, hs, hr⟩ := h
    exact ⟨a, xs, rfl, t2 _ _ hs, Reps.ofT t t2 n hr⟩
  | .tk _, _, n, h => by
    obtain ⟨a, xs, rfl, hs, hr⟩ := h
    exact ⟨a, xs, rfl, t _ _ hs, Reps.ofT t t2 n hr⟩
theorem Reps.ofT {K : PySem.W.Frag} {F F' : Hp} (t : ∀ a xs, SqT K F a xs → SqT K F' a xs) (t2 : ∀ a xs, TupD K F a xs → TupD K F' a xs) : ∀ {ds : List D} {vs : List V}, D.imms ds = true → Reps K F ds vs → Reps K F' ds vs
  | [], _, _, h => h
  | d :: ds, _, n, h => by
    obtain ⟨v, r, rfl, h1, h2⟩ := h
    have n' : (D.imm d && D.imms ds) = true := n
    rw [Bool.and_eq_true] at n'
    exact ⟨v, r, rfl, Rep.ofT t t2 n'.1 h1, Reps.ofT t t2 n'.2 h2⟩
end
def Sl.imm : Sl → Bool
  | .ext d => d.imm
  | .lst _ ds => D.imms ds
  | _ => false
section
variable {K : PySem.W.Frag} {e : Ent} {env : Env'} {T : Tmp} {F : Hp} {σ : St} {H : Hp}
structure Left (A : List Addr) (F H F' H' : Hp) : Prop where
  ff : Same F F'
  fh : Same F' H'
  out : ∀ b o, H b = some o → b ∉ A → H' b = some o ∧ (F b = none → F' b = none)
theorem SlOk.left {A : List Addr} {F' H' : Hp} {v : V} {sl : Sl} (l : Left A F H F' H') (n : ∀ a ∈ sl.owned, a ∉ A) (h : SlOk K F H v sl) : SlOk K F' H' v sl := by
  cases sl with
  | un => trivial
  | ext d => exact Rep.same l.ff h
  | al i b => exact h
  | lst b ds =>
    obtain ⟨rfl, q, us, hv, hr⟩ := h
    obtain ⟨q1, q2⟩ := l.out b _ hv (n b (List.mem_singleton.mpr rfl))
    exact ⟨rfl, q2 q, us, q1, hr.same l.ff⟩
  | ar i b => exact h
  | reg b cs =>
    obtain ⟨rd, nd, hc⟩ := h
    refine ⟨Rep.same l.ff rd, nd, fun p hp => ?_⟩
    obtain ⟨q, o', ho, ok⟩ := hc p hp
    obtain ⟨q1, q2⟩ := l.out p.1 _ ho (n p.1 (List.mem_map.mpr ⟨p, hp, rfl⟩))
    exact ⟨q2 q, o', q1, ok.same l.ff⟩
theorem Holds.left0 {F' H' : Hp} {v : V} {r : Sl} (h : Holds K e env T F σ H) (l : Left [] F H F' H') (ok : SlOk K F' H' v r) (own : ∀ a ∈ r.owned, H a = none) : Holds K e env ((v, r) :: T) F' σ H' := by
  have h1 : Holds K e env T F' σ H' := by
    refine ⟨l.fh, h.len, fun i sl q => ?_, fun p hp => (h.temps p hp).left l (fun _ _ z => nomatch z), h.nd, h.s1.trans l.ff, fun a o q n => ?_, h.s3⟩
    · rcases h.slots i sl q with z | ⟨w, hw, ok⟩
      · exact .inl z
      · exact .inr ⟨w, hw, ok.left l fun _ _ z => nomatch z⟩
    · obtain ⟨q1, q2⟩ := h.s2 a o q n
      obtain ⟨r1, r2⟩ := l.out a o q1 (fun z => nomatch z)
      exact ⟨r1, fun z => r2 (q2 z)⟩
  have old := h.ownedH
  have ndo : r.owned.Nodup := ok.ndo
  have dis : ∀ a ∈ r.owned, a ∉ ownedE env ++ ownedT T := fun a ha hb => by
    obtain ⟨_, vs, q⟩ := old a hb
    rw [own a ha] at q
    cases q
  refine ⟨h1.fh, h1.len, h1.slots, fun p hp => ?_, ?_, h1.s1, h1.s2, fun a ha => ?_⟩
  · rcases List.mem_cons.mp hp with rfl | hp
    · exact ok
    · exact h1.temps p hp
  · show (ownedE env ++ (r.owned ++ ownedT T)).Nodup
    have z := h.nd
    rw [List.nodup_append] at z ⊢
    obtain ⟨z1, z2, z3⟩ := z
    refine ⟨z1, ?_, fun a ha b hb => ?_⟩
    · rw [List.nodup_append]
      exact ⟨ndo, z2, fun a ha b hb e => dis a ha (by rw [e]; exact List.mem_append_right _ hb)⟩
    · rcases List.mem_append.mp hb with hb | hb
      · exact fun e => dis b hb (by rw [← e]; exact List.mem_append_left _ ha)
      · exact z3 a ha b hb
  · have ha' : a ∈ ownedE env ++ (r.owned ++ ownedT T) := ha
    rcases List.mem_append.mp ha' with hb | hb
    · exact h.s3 a (List.mem_append_left _ hb)
    · rcases List.mem_append.mp hb with hb | hb
      · have hn := own a hb
        cases q : e.H0 a with
        | none => exact .inr rfl
        | some o =>
          by_cases hA : a ∈ e.A0
          · exact .inl hA
          · rw [(h.s2 a o q hA).1] at hn
            cases hn
      · exact h.s3 a (List.mem_append_right _ hb)
theorem Holds.left1 {F' H' : Hp} {v : V} {r s' : Sl} {i : Nat} {a : Addr} {ds : List D} (h : Holds K e env T F σ H) (hi : env[i]? = some (.lst a ds)) (l : Left [a] F H F' H') (ok : SlOk K F' H' v r) (ok' : SlOk K F' H' (.ref a) s')
    (own : ∀ b ∈ s'.owned ++ r.owned, b = a ∨ H b = none) (nd : (s'.owned ++ r.owned).Nodup) (hp : s'.plain) : Holds K e (env.set i s') ((v, r) :: T) F' σ H' := by
  obtain ⟨hv0, hF0⟩ : (∃ w, σ[i]? = some (some w) ∧ w = .ref a) ∧ F a = none := by
    rcases h.slots i _ hi with z | ⟨w, hw, e1, e2, _⟩
    · cases z
    · exact ⟨⟨w, hw, e1⟩, e2⟩
  obtain ⟨w, hw, rfl⟩ := hv0
  -- the slot's object as a temp, then dropped: the others
  have h0 := (h.take hi hw).pop
  have hx := h.take hi hw
  have na : ∀ b ∈ ownedE (env.set i .un) ++ ownedT T, b ≠ a := fun b hb z => by
    subst z
    have nd := hx.nd
    have perm : (ownedE (env.set i .un) ++ (([b] : List Addr) ++ ownedT T)).Perm ([b] ++ (ownedE (env.set i .un) ++ ownedT T)) := by
      rw [← List.append_assoc, ← List.append_assoc]
      exact List.Perm.append_right _ List.perm_append_comm
    have nd' : ([b] ++ (ownedE (env.set i .un) ++ ownedT T)).Nodup := perm.nodup nd
    exact (List.nodup_append.mp nd').2.2 b (List.mem_singleton.mpr rfl) b hb rfl
  have h1 : Holds K e (env.set i .un) T F' σ H' := by
    refine ⟨l.fh, h0.len, fun j sl q => ?_, fun p hp => (h0.temps p hp).left l (fun b hb z => ?_), h0.nd, h0.s1.trans l.ff, fun b o q n => ?_, h0.s3⟩
    · rcases h0.slots j sl q with z | ⟨w, hw, ok⟩
      · exact .inl z
      · refine .inr ⟨w, hw, ok.left l fun b hb z => ?_⟩
        exact na b (List.mem_append_left _ (mem_ownedE q hb)) (List.mem_singleton.mp z)
    · exact na b (List.mem_append_right _ (List.mem_flatMap.mpr ⟨p, hp, hb⟩)) (List.mem_singleton.mp z)
    · obtain ⟨q1, q2⟩ := h0.s2 b o q n
      have nb : b ∉ [a] := fun z => by
        rw [List.mem_singleton.mp z] at q n
        have mm : a ∈ ownedE env ++ ownedT T := List.mem_append_left _ (mem_ownedE hi (List.mem_singleton.mpr rfl))
        rcases h.s3 a mm with y | y
        · exact n y
        · rw [q] at y
          cases y
      obtain ⟨r1, r2⟩ := l.out b o q1 nb
      exact ⟨r1, fun z => r2 (q2 z)⟩
  have old := h0.ownedH
  have dis : ∀ b ∈ s'.owned ++ r.owned, b ∉ ownedE (env.set i .un) ++ ownedT T := fun b hb hc => by
    rcases own b hb with z | z
    · exact na b hc z
    · obtain ⟨_, vs, q⟩ := old b hc
      rw [z] at q
      cases q
  have fin3 : ∀ b ∈ s'.owned ++ r.owned, b ∈ e.A0 ∨ e.H0 b = none := fun b hb => by
    rcases own b hb with z | z
    · subst z
      exact h.s3 b (List.mem_append_left _ (mem_ownedE hi (List.mem_singleton.mpr rfl)))
    · cases q : e.H0 b with
      | none => exact .inr rfl
      | some o =>
        by_cases hA : b ∈ e.A0
        · exact .inl hA
        · rw [(h.s2 b o q hA).1] at z
          cases z
  -- both come in as temps, then the slot is set
  have h2 : Holds K e (env.set i .un) ((.ref a, s') :: (v, r) :: T) F' σ H' := by
    refine ⟨h1.fh, h1.len, h1.slots, fun p hp => ?_, ?_, h1.s1, h1.s2, fun b hb => ?_⟩
    · rcases List.mem_cons.mp hp with rfl | hp
      · exact ok'
      · rcases List.mem_cons.mp hp with rfl | hp
        · exact ok
        · exact h1.temps p hp
    · show (ownedE (env.set i .un) ++ (s'.owned ++ (r.owned ++ ownedT T))).Nodup
      have z := h0.nd
      rw [← List.append_assoc s'.owned]
      rw [List.nodup_append] at z ⊢
      obtain ⟨z1, z2, z3⟩ := z
      refine ⟨z1, ?_, fun b hb c hc => ?_⟩
      · rw [List.nodup_append]
        exact ⟨nd, z2, fun b hb c hc e => dis b hb (by rw [e]; exact List.mem_append_right _ hc)⟩
      · rcases List.mem_append.mp hc with hc | hc
        · exact fun e => dis c hc (by rw [← e]; exact List.mem_append_left _ hb)
        · exact z3 b hb c hc
    · have hb' : b ∈ ownedE (env.set i .un) ++ (s'.owned ++ (r.owned ++ ownedT T)) := hb
      rw [← List.append_assoc s'.owned] at hb'
      rcases List.mem_append.mp hb' with hc | hc
      · exact h0.s3 b (List.mem_append_left _ hc)
      · rcases List.mem_append.mp hc with hc | hc
        · exact fin3 b hc
        · exact h0.s3 b (List.mem_append_right _ hc)
  have h3 := h2.assign i hp
  rw [List.set_set] at h3
  have z : σ.set i (some (.ref a)) = σ := by
    obtain ⟨hl, q⟩ := List.getElem?_eq_some_iff.mp hw
    rw [← q]
    exact List.set_getElem_self hl
  rw [z] at h3
  exact h3
end
def anyAl : List Sl → Bool
  | [] => false
  | .al _ _ :: _ => true
  | .ar _ _ :: _ => true
  | _ :: r => anyAl r
section
variable {K : PySem.W.Frag} {e : Ent} {env : Env'} {T : Tmp} {σ : St} {H : Hp}
theorem Holds.lend : ∀ {vs : List V} {xs : List Sl} {q : List D → Prop} {F : Hp}, vs.length = xs.length → Holds K e env (vs.zip xs ++ T) F σ H → HD.wds env xs q →
    ∃ ds F1 Fc, q ds ∧ Holds K e env T F1 σ H ∧ Same F F1 ∧ Same F1 Fc ∧ Reps K Fc ds vs ∧ Same Fc H ∧ (∀ b, Fc b ≠ none → F1 b ≠ none ∨ b ∈ ownedE env) ∧ (anyAl xs = false → Fc = F1)
  | [], [], q, F, _, h, w => ⟨[], F, F, w, h, Same.refl _, Same.refl _, rfl, h.fh, fun _ z => .inl z, fun _ => rfl⟩
  | [], _ :: _, _, _, le, _, _ => by cases le
  | _ :: _, [], _, _, le, _, _ => by cases le
  | v :: vs, x :: xs, q, F, le, h, w => by
    have le' : vs.length = xs.length := by simpa using le
    cases x with
    | un => exact w.elim
    | reg _ _ => exact w.elim
    | ar i b =>
      have ev : v = .ref b := h.temps (v, .ar i b) List.mem_cons_self
      have h' : Holds K e env (vs.zip xs ++ T) F σ H := h.pop
      have w' : (match env[i]? with | some (.reg _ cs) => (match cellOf cs b with | some (.lst ds) => HD.wds env xs (fun es => q (.lst ds :: es)) | _ => False) | _ => False) := w
      split at w'
      · rename_i dr cs hb
        split at w'
        · rename_i es hc
          obtain ⟨ds, F1, Fc, w1, h1, s1, s2, r, fh, nw, na⟩ := Holds.lend (q := fun ds => q (.lst es :: ds)) le' h' w'
          obtain ⟨e2, o, hv, us, rfl, hr⟩ := h1.cell hb hc
          have s3 : Same Fc (upd Fc b (.lst us)) := fun c o qc => by
            by_cases nc : c = b
            · rw [nc] at qc ⊢
              have := fh _ _ qc
              rw [hv] at this
              rw [upd_same]
              exact this
            · rw [upd_ne nc]
              exact qc
          refine ⟨.lst es :: ds, F1, upd Fc b (.lst us), w1, h1, s1, s2.trans s3, ⟨v, vs, rfl, ⟨b, us, ev, upd_same, hr.same (s2.trans s3)⟩, r.same s3⟩, fun c o qc => ?_, fun c nc => ?_, fun z => nomatch z⟩
          · by_cases ec : c = b
            · rw [ec, upd_same] at qc
              rw [ec, hv]
              exact qc
            · rw [upd_ne ec] at qc
              exact fh _ _ qc
          · by_cases ec : c = b
            · rw [ec]
              exact .inr (mem_ownedE hb (List.mem_map.mpr ⟨(b, .lst es), cellOf_mem hc, rfl⟩))
            · rw [upd_ne ec] at nc
              exact nw c nc
        · exact w'.elim
      · exact w'.elim
    | ext d =>
      have rd : Rep K F d v := h.temps (v, .ext d) List.mem_cons_self
      have h' : Holds K e env (vs.zip xs ++ T) F σ H := h.pop
      obtain ⟨ds, F1, Fc, w1, h1, s1, s2, r, fh, nw, na⟩ := Holds.lend (q := fun ds => q (d :: ds)) le' h' w
      exact ⟨d :: ds, F1, Fc, w1, h1, s1, s2, ⟨v, vs, rfl, Rep.same (s1.trans s2) rd, r⟩, fh, nw, na⟩
    | lst a es =>
      obtain ⟨F0, s0, h0⟩ := h.freezeT
      have rd : Rep K F0 (.lst es) v := h0.temps (v, .ext (.lst es)) List.mem_cons_self
      have h' : Holds K e env (vs.zip xs ++ T) F0 σ H := h0.pop
      obtain ⟨ds, F1, Fc, w1, h1, s1, s2, r, fh, nw, na⟩ := Holds.lend (q := fun ds => q (.lst es :: ds)) le' h' w
      exact ⟨.lst es :: ds, F1, Fc, w1, h1, s0.trans s1, s2, ⟨v, vs, rfl, Rep.same (s1.trans s2) rd, r⟩, fh, nw, na⟩
    | al i a =>
      have ev : v = .ref a := h.temps (v, .al i a) List.mem_cons_self
      have h' : Holds K e env (vs.zip xs ++ T) F σ H := h.pop
      have w' : (match env[i]? with | some (.lst b ds) => b = a ∧ HD.wds env xs (fun es => q (.lst ds :: es)) | _ => False) := w
      split at w'
      · rename_i b es hb
        obtain ⟨rfl, w'⟩ := w'
        obtain ⟨ds, F1, Fc, w1, h1, s1, s2, r, fh, nw, na⟩ := Holds.lend (q := fun ds => q (.lst es :: ds)) le' h' w'
        rcases h1.slots i _ hb with z | ⟨u, hu, e1, e2, us, hv, hr⟩
        · cases z
        · have s3 : Same Fc (upd Fc b (.lst us)) := fun c o qc => by
            by_cases nc : c = b
            · rw [nc] at qc ⊢
              have := fh _ _ qc
              rw [hv] at this
              rw [upd_same]
              exact this
            · rw [upd_ne nc]
              exact qc
          refine ⟨.lst es :: ds, F1, upd Fc b (.lst us), w1, h1, s1, s2.trans s3, ⟨v, vs, rfl, ⟨b, us, ev, upd_same, hr.same (s2.trans s3)⟩, r.same s3⟩, fun c o qc => ?_, fun c nc => ?_, fun z => nomatch z⟩
          · by_cases ec : c = b
            · rw [ec, upd_same] at qc
              rw [ec, hv]
              exact qc
            · rw [upd_ne ec] at qc
              exact fh _ _ qc
          · by_cases ec : c = b
            · rw [ec]
              exact .inr (mem_ownedE hb (List.mem_singleton.mpr rfl))
            · rw [upd_ne ec] at nc
              exact nw c nc
      · exact w'.elim
theorem Holds.thaw {F1 Fc F' H' : Hp} (h : Holds K e env T F1 σ H) (s2 : Same F1 Fc) (nw : ∀ b, Fc b ≠ none → F1 b ≠ none ∨ b ∈ ownedE env) (l : Left [] Fc H F' H') :
    ∃ F2, Left [] F1 H F2 H' ∧ (∀ (d : D) (v : V), d.imm = true → Rep K F' d v → Rep K F2 d v) ∧ (∀ (ds : List D) (vs : List V), D.imms ds = true → Reps K F' ds vs → Reps K F2 ds vs) ∧ ∀ b, F' b = none → F2 b = none := by
  have old := h.ownedL
  have sT : ∀ a xs, SqT K F' a xs → SqT K (fun b => if b ∈ ownedE env then none else F' b) a xs := fun a xs hs => by
    have out : ∀ o, F' a = some o → a ∈ ownedE env → Loose o := fun o q m => by
      obtain ⟨_, us, hu, lo⟩ := old a (List.mem_append_left _ m)
      have z := (l.out a _ hu (fun z => nomatch z)).1
      rw [l.fh _ _ q] at z
      rw [Option.some.inj z]
      exact lo
    rcases hs with (hs | ⟨o, hs⟩) | hs
    · refine .inl (.inl ?_)
      have n : a ∉ ownedE env := fun m => by
        obtain ⟨z1, z2⟩ := out _ hs m
        first | exact z1 _ rfl | exact z2 _ _ rfl
      show (if a ∈ ownedE env then none else F' a) = _
      rw [if_neg n]
      exact hs
    · refine .inl (.inr ⟨o, ?_⟩)
      have n : a ∉ ownedE env := fun m => by
        obtain ⟨z1, z2⟩ := out _ hs m
        first | exact z1 _ rfl | exact z2 _ _ rfl
      show (if a ∈ ownedE env then none else F' a) = _
      rw [if_neg n]
      exact hs
    · exact .inr hs
  have sD : ∀ a xs, TupD K F' a xs → TupD K (fun b => if b ∈ ownedE env then none else F' b) a xs := fun a xs hs => by
    rcases hs with ⟨o, hs, d⟩ | hs
    · refine .inl ⟨o, ?_, d⟩
      have n : a ∉ ownedE env := fun m => by
        obtain ⟨_, us, hu, lo⟩ := old a (List.mem_append_left _ m)
        have z := (l.out a _ hu (fun z => nomatch z)).1
        rw [l.fh _ _ hs] at z
        cases z
        obtain ⟨z1, z2⟩ := lo
        first | exact z1 _ rfl | exact z2 _ _ rfl
      show (if a ∈ ownedE env then none else F' a) = _
      rw [if_neg n]
      exact hs
    · exact .inr hs
  refine ⟨fun b => if b ∈ ownedE env then none else F' b, ⟨fun b o q => ?_, fun b o q => ?_, fun b o q n => ?_⟩, fun d v n r => Rep.ofT sT sD n r, fun ds vs n r => Reps.ofT sT sD n r, fun b q => ?_⟩
  · have n : b ∉ ownedE env := fun m => by
      rw [(old b (List.mem_append_left _ m)).1] at q
      cases q
    show (if b ∈ ownedE env then none else F' b) = _
    rw [if_neg n]
    exact l.ff _ _ (s2 _ _ q)
  · have q' : (if b ∈ ownedE env then none else F' b) = some o := q
    split at q'
    · cases q'
    · exact l.fh _ _ q'
  · obtain ⟨r1, r2⟩ := l.out b o q n
    refine ⟨r1, fun z => ?_⟩
    show (if b ∈ ownedE env then none else F' b) = none
    by_cases m : b ∈ ownedE env
    · rw [if_pos m]
    · rw [if_neg m]
      refine r2 ?_
      cases y : Fc b with
      | none => rfl
      | some o' =>
        rcases nw b (by rw [y]; simp) with t | t
        · exact absurd z t
        · exact absurd t m
  · show (if b ∈ ownedE env then none else F' b) = none
    split
    · rfl
    · exact q
theorem ownedE_ext (ds : List D) : ownedE (ds.map Sl.ext) = [] := by
  unfold ownedE
  rw [List.flatMap_eq_nil_iff]
  intro x hx
  obtain ⟨d, _, rfl⟩ := List.mem_map.mp hx
  rfl
theorem argsE {F : Hp} {ds : List D} {vs : List V} (fh : Same F H) (r : Reps K F ds vs) : Holds K (entOf F H (ds.map .ext)) (ds.map .ext) [] F (vs.map some) H := by
  have own := ownedE_ext ds
  refine ⟨fh, by rw [List.length_map, List.length_map, r.length], fun i sl q => ?_, (fun p hp => nomatch hp), by rw [own]; exact List.nodup_nil, Same.refl _, fun a o q _ => ⟨q, fun z => z⟩, fun a ha => ?_⟩
  · rw [List.getElem?_map] at q
    cases z : ds[i]? with
    | none =>
      rw [z] at q
      cases q
    | some d =>
      rw [z] at q
      have e := Option.some.inj q
      subst e
      obtain ⟨v, hv, rd⟩ := r.get z
      exact .inr ⟨v, by rw [List.getElem?_map, hv]; rfl, rd⟩
  · rw [own] at ha
    cases ha
end
def dCall (spec : DSpec) (ta : DTA) : DT := fun Ex env Q => ta Ex env fun xs env1 => wds env1 xs fun ds =>
  spec (ds.map .ext) (fun r _ => (anyAl xs = false ∨ r.imm = true) ∧ r.plain ∧ Q r env1) (fun c _ => Ex c env1)
theorem im_call {K : PySem.W.Frag} {W : WX} {spec : DSpec} {n : Nat} {ta : TA} {t : DTA} (h : ImA K W ta t) (hn : ∀ ds Q X, spec ds Q X → ds.length = n) : Im K W (tCallS (toSp K n spec) (WE W) ta) (dCall spec t) := fun e Ex hl env T F σ H Q R hh ht hR => by
  refine h e Ex hl env T F σ H _ _ hh ht fun vs H1 F1 env1 xs le hh1 q1 => ?_
  obtain ⟨ds, F2, Fc, q2, hh2, sm1, sm2, rr, fh, nw, na⟩ := hh1.lend le q1
  have back : ∀ (H' F' : Hp), Same Fc F' → Same F' H' → (∀ a o, H1 a = some o → a ∉ ownedE (ds.map Sl.ext) → H' a = some o ∧ (Fc a = none → F' a = none)) → Left [] Fc H1 F' H' := fun H' F' a b c => ⟨a, b, fun x o q _ => c x o q (by rw [ownedE_ext]; exact fun z => nomatch z)⟩
  refine ⟨Fc, ds.map .ext, _, _, ?_, argsE fh rr, q2, fun v H' F' r fin hf hq => ?_, fun c H' F' fin hf hq => ?_⟩
  · rw [← hn _ _ _ q2, List.length_map, rr.length]
  · obtain ⟨qi, qp, q3⟩ := hq
    have l := back H' F' hf.s1 hf.fh hf.s2
    have own : ∀ a ∈ r.owned, H1 a = none := fun a ha => by
      have m : a ∈ ownedE fin ++ ownedT [(v, r)] := List.mem_append_right _ (by
        show a ∈ r.owned ++ []
        rw [List.append_nil]
        exact ha)
      rcases hf.s3 a m with z | z
      · have z' : a ∈ ownedE (ds.map Sl.ext) := z
        rw [ownedE_ext] at z'
        cases z'
      · exact z
    have ok := hf.temps (v, r) List.mem_cons_self
    by_cases al : anyAl xs = false
    · have ec := na al
      subst ec
      exact hR v H' F' env1 r (hh2.left0 l ok own) q3
    · have im : r.imm = true := by
        rcases qi with z | z
        · exact absurd z al
        · exact z
      obtain ⟨F3, l3, t1, t2, t3⟩ := hh2.thaw sm2 nw l
      refine hR v H' F3 env1 r (hh2.left0 l3 ?_ own) q3
      cases r with
      | un => exact nomatch im
      | al i a => exact nomatch im
      | reg _ _ => exact nomatch im
      | ar _ _ => exact nomatch im
      | ext d => exact t1 d v im ok
      | lst a es =>
        obtain ⟨e1, e2, us, hu, hr⟩ := ok
        exact ⟨e1, t3 _ e2, us, hu, t2 es us im hr⟩
  · have l := back H' F' hf.s1 hf.fh hf.s2
    obtain ⟨F3, l3, _, _, _⟩ := hh2.thaw sm2 nw l
    have h4 := hh2.left0 (v := .non) (r := .ext .non) l3 rfl (fun a z => nomatch z)
    exact hl c env1 F3 σ H' h4.bare hq
def dCallJ (spec : DSpec) (i : Nat) (ta : DTA) : DT := fun Ex env Q => match env[i]? with
  | some (.lst a _) => ta Ex env fun xs env1 => match env1[i]? with
    | some (.lst b ds) => b = a ∧ frozs env1 xs fun es => spec (.lst a ds :: es.map .ext)
        (fun r fin => match fin with | s' :: _ => s'.plain ∧ r.plain ∧ Q r (env1.set i s') | [] => False) (fun c fin => match fin with | s' :: _ => s'.plain ∧ Ex c (env1.set i s') | [] => False)
    | _ => False
  | _ => False
theorem im_callJ {K : PySem.W.Frag} {W : WX} {spec : DSpec} {n i : Nat} {ta : TA} {t : DTA} (h : ImA K W ta t) (hn : ∀ ds Q X, spec ds Q X → ds.length = n) : Im K W (tCallS (toSp K n spec) (WE W) (tCons (tVar i) ta)) (dCallJ spec i t) := fun e Ex hl env T F σ H Q R hh ht hR => by
  unfold dCallJ at ht
  split at ht
  · rename_i a ds0 hi0
    rcases hh.slots i _ hi0 with z | ⟨v0, hv0, e0, _⟩
    · cases z
    · subst e0
      refine ⟨_, hv0, ?_⟩
      refine h e Ex hl env T F σ H _ _ hh ht fun vs H1 F1 env1 xs le hh1 q1 => ?_
      split at q1
      · rename_i b ds hi
        obtain ⟨rfl, q1⟩ := q1
        obtain ⟨es, F2, sm, hh2, rr, q2⟩ := hh1.frozs le q1
        have own0 : ownedE (Sl.lst b ds :: es.map Sl.ext) = [b] := by
          show [b] ++ ownedE (es.map Sl.ext) = [b]
          rw [ownedE_ext, List.append_nil]
        have hs := hh2.slots i _ hi
        have okJ : SlOk K F2 H1 (.ref b) (.lst b ds) := by
          rcases hs with z | ⟨w, _, e1, r⟩
          · cases z
          · exact ⟨rfl, r⟩
        have hE := argsE (K := K) hh2.fh rr
        have hA : Holds K (entOf F2 H1 (Sl.lst b ds :: es.map Sl.ext)) (Sl.lst b ds :: es.map Sl.ext) [] F2 ((V.ref b :: vs).map some) H1 := by
          refine ⟨hh2.fh, ?_, fun j sl q => ?_, (fun p hp => nomatch hp), ?_, Same.refl _, fun a o q _ => ⟨q, fun z => z⟩, fun a ha => ?_⟩
          · have z := hE.len
            show (es.map Sl.ext).length + 1 = (vs.map some).length + 1
            rw [z]
          · cases j with
            | zero =>
              have z := Option.some.inj q
              subst z
              exact .inr ⟨.ref b, rfl, okJ⟩
            | succ j => exact hE.slots j sl q
          · rw [own0]
            show ([b] ++ ([] : List Addr)).Nodup
            simp
          · rw [show ownedT ([] : Tmp) = [] from rfl, List.append_nil] at ha
            exact .inl ha
        have back : ∀ (H' F' : Hp) (fin : Env') (U : Tmp), Holds K (entOf F2 H1 (Sl.lst b ds :: es.map Sl.ext)) fin U F' ((V.ref b :: vs).map some) H' → Left [b] F2 H1 F' H' := fun H' F' fin U hf =>
          ⟨hf.s1, hf.fh, fun x o q nx => hf.s2 x o q (by
            show x ∉ ownedE (Sl.lst b ds :: es.map Sl.ext)
            rw [own0]
            exact nx)⟩
        have ownF : ∀ (H' F' : Hp) (fin : Env') (U : Tmp), Holds K (entOf F2 H1 (Sl.lst b ds :: es.map Sl.ext)) fin U F' ((V.ref b :: vs).map some) H' → ∀ x ∈ ownedE fin ++ ownedT U, x = b ∨ H1 x = none := fun H' F' fin U hf x hx => by
          rcases hf.s3 x hx with z | z
          · have z' : x ∈ ownedE (Sl.lst b ds :: es.map Sl.ext) := z
            rw [own0] at z'
            exact .inl (List.mem_singleton.mp z')
          · exact .inr z
        refine ⟨F2, Sl.lst b ds :: es.map Sl.ext, _, _, ?_, hA, q2, fun v H' F' r fin hf hq => ?_, fun c H' F' fin hf hq => ?_⟩
        · rw [← hn _ _ _ q2]
          show vs.length + 1 = (es.map Sl.ext).length + 1
          rw [List.length_map, rr.length]
        · cases fin with
          | nil => exact hq.elim
          | cons s' fr =>
            obtain ⟨qs, qr, q3⟩ := hq
            have ok' : SlOk K F' H' (.ref b) s' := by
              rcases hf.slots 0 s' rfl with z | ⟨w, hw, ok⟩
              · subst z
                trivial
              · have z := Option.some.inj (Option.some.inj hw)
                subst z
                exact ok
            have sub : (s'.owned ++ r.owned).Sublist (ownedE (s' :: fr) ++ ownedT [(v, r)]) := by
              show (s'.owned ++ r.owned).Sublist ((s'.owned ++ ownedE fr) ++ (r.owned ++ []))
              rw [List.append_nil]
              exact (List.sublist_append_left _ _).append (List.Sublist.refl _)
            exact hR v H' F' _ r (hh2.left1 hi (back H' F' _ _ hf) (hf.temps (v, r) List.mem_cons_self) ok' (fun x hx => ownF H' F' _ _ hf x (sub.subset hx)) (hf.nd.sublist sub) qs) q3
        · cases fin with
          | nil => exact hq.elim
          | cons s' fr =>
            obtain ⟨qs, q3⟩ := hq
            have ok' : SlOk K F' H' (.ref b) s' := by
              rcases hf.slots 0 s' rfl with z | ⟨w, hw, ok⟩
              · subst z
                trivial
              · have z := Option.some.inj (Option.some.inj hw)
                subst z
                exact ok
            have sub : (s'.owned ++ (Sl.ext .non).owned).Sublist (ownedE (s' :: fr) ++ ownedT []) := by
              show (s'.owned ++ []).Sublist ((s'.owned ++ ownedE fr) ++ [])
              rw [List.append_nil, List.append_nil]
              exact List.sublist_append_left _ _
            have h5 := hh2.left1 (v := .non) (r := .ext .non) hi (back H' F' _ _ hf) rfl ok' (fun x hx => ownF H' F' _ _ hf x (sub.subset hx)) (hf.nd.sublist sub) qs
            exact hl c _ F' σ H' h5.bare q3
      · exact q1.elim
  · exact ht.elim
structure Def (G : GG) (kf : Nat) (x : Str) (n : Nat) (spec : DSpec) : Prop where
  ex : ∃ f fd ps, FnG G.P G.w G.K G.mg G.base (L2.CX G.P G.w) kf f fd ps (toSp G.K n spec) ∧ G.mg x = some (.ref f) ∧ PySem.W.keepIn G.K (.ref f) = true ∧ Binds G.K fd ps []
  len : ∀ ds Q X, spec ds Q X → ds.length = n
section
variable {G : GG} {N : List Str} {sc : SC} {k kf n : Nat} {x : Str} {spec : DSpec} {e : Expr} {es : List Expr} {p pos : Pos}
theorem Def.pe {W : WX} {X : Cx} {ta : TA} (d : Def G kf x n spec) (S : Sit G N sc W k X) (hk : kf ≤ k) (hg : GlS sc x) (ha : PA X (e :: es) ta) (hdb : (x == ("__debug__" : Str)) = false) (he : NoStar e es) (hpl : ∀ env, (backTo pos (starEach es env)).any (·.1) = false) :
    PE X (.Call (.Name x p) (e :: es) [] pos) (tCallS (toSp G.K n spec) (WE W) ta) := by
  obtain ⟨f, fd, ps, h1, h2, h3, h4⟩ := d.ex
  have pass : ∀ σ, PassesAt (L2.CX X.prog X.w) X σ (WE W σ) := fun σ => passAt S.tk σ
  rw [← S.prog, ← S.w, ← S.K, ← S.mg, ← S.base] at h1
  rw [← S.K] at h3 h4 ⊢
  rw [← S.mg] at h2
  refine ⟨fun pins s σ H Q I h => ?_⟩
  refine wpAny_Call_Name_kw (ld_glob I (S.gl hg) h2 ?_ hdb)
  refine PySem.W.callWith_K (h₀ := X.base) I.ok.mod.kin h3 (thn (ha.run pos pins s σ H _ I h) fun us s1 ⟨vs, H1, I1, r, q⟩ => ⟨I1.kIn, ?_⟩) (he _) (hpl _)
  exact runG h1 S.gd (S.room.mono hk) h4 (pass σ) I1 r q
theorem de_call {ta : DTA} (d : Def G kf x n spec) (ha : DAs G N sc k (e :: es) ta) (hk : kf ≤ k := by decide) (hg : GlS sc x := by rfl) (hdb : (x == ("__debug__" : Str)) = false := by decide) (he : NoStar e es := by intro _; rfl) (hpl : ∀ env, (backTo pos (starEach es env)).any (·.1) = false := by intro _; rfl) :
    DE G N sc k (.Call (.Name x p) (e :: es) [] pos) (dCall spec ta) := ⟨fun W => by
  obtain ⟨te, p1, i1⟩ := ha.ex W
  exact ⟨tCallS (toSp G.K n spec) (WE W) te, fun X S => d.pe S hk hg (p1 X S) hdb he hpl, im_call i1 d.len⟩⟩
theorem de_callJ {ta : DTA} {y : Str} {py : Pos} (i : Nat) (d : Def G kf x n spec) (ha : DAs G N sc k es ta) (hk : kf ≤ k := by decide) (hg : GlS sc x := by rfl) (hN : N[i]? = some y := by rfl)
    (hv : Vis sc.sc y := by first | exact Or.inl rfl | exact Or.inr (Or.inl rfl) | exact Or.inr (Or.inr rfl)) (hdb : (x == ("__debug__" : Str)) = false := by decide) (hdy : (y == ("__debug__" : Str)) = false := by decide) (hcy : (y == ("__classdict__" : Str)) = false := by decide)
    (he : NoStar (.Name y py) es := by intro _; rfl) (hpl : ∀ env, (backTo pos (starEach es env)).any (·.1) = false := by intro _; rfl) :
    DE G N sc k (.Call (.Name x p) (.Name y py :: es) [] pos) (dCallJ spec i ta) := ⟨fun W => by
  obtain ⟨te, p1, i1⟩ := ha.ex W
  refine ⟨tCallS (toSp G.K n spec) (WE W) (tCons (tVar i) te), fun X S => d.pe S hk hg (pa_cons (pe_var (by rw [S.nms]; exact hN) (S.vis hv) hdy hcy) (p1 X S) (he _)) hdb he hpl, im_callJ i1 d.len⟩⟩
end
end HD
namespace HD
open PySem L2
structure DEnds where
  nx : Env' → Prop
  rt : Sl → Env' → Prop
  bk : Env' → Prop := fun _ => False
  ct : Env' → Prop := fun _ => False
abbrev DTS := DX → DEnds → Env' → Prop
structure EndsOk (K : PySem.W.Frag) (e : Ent) (E : DEnds) (Dn : Ends) : Prop where
  nx : ∀ env F σ H, Holds K e env [] F σ H → E.nx env → Dn.nx σ H
  rt : ∀ env F σ H v r, Holds K e env [(v, r)] F σ H → E.rt r env → Dn.rt v H
  bk : ∀ env F σ H, Holds K e env [] F σ H → E.bk env → Dn.bk σ H
  ct : ∀ env F σ H, Holds K e env [] F σ H → E.ct env → Dn.ct σ H
def ImS (K : PySem.W.Frag) (W : WX) (ts : TS) (t : DTS) : Prop :=
  ∀ (e : Ent) (Ex : DX), Link K e W Ex → ∀ (env : Env') (F : Hp) (σ : St) (H : Hp) (E : DEnds) (Dn : Ends), Holds K e env [] F σ H → t Ex E env → EndsOk K e E Dn → ts Dn σ H
structure DS (G : GG) (N : List Str) (sc : SC) (k : Nat) (st : Stmt) (t : DTS) : Prop where
  ex : ∀ W : WX, ∃ ts, (∀ X, Sit G N sc W k X → PS X st ts) ∧ ImS G.K W ts t
structure DSs (G : GG) (N : List Str) (sc : SC) (k : Nat) (st : List Stmt) (t : DTS) : Prop where
  ex : ∀ W : WX, ∃ ts, (∀ X, Sit G N sc W k X → PSs X st ts) ∧ ImS G.K W ts t
section
variable {G : GG} {N : List Str} {sc : SC} {k : Nat} {st : Stmt} {rest : List Stmt} {t u : DTS} {a : Expr} {ta : DT} {pos : Pos}
def sNext : DTS := fun _ E env => E.nx env
def sSeq (t u : DTS) : DTS := fun Ex E env => t Ex { E with nx := fun env1 => u Ex E env1 } env
theorem dss_nil : DSs G N sc k [] sNext := ⟨fun W => ⟨tNext, fun X S => pss_nil, fun e Ex hl env F σ H E Dn hh ht ok => ok.nx env F σ H hh ht⟩⟩
theorem dss_cons (h1 : DS G N sc k st t) (h2 : DSs G N sc k rest u) : DSs G N sc k (st :: rest) (sSeq t u) := ⟨fun W => by
  obtain ⟨ts, p1, i1⟩ := h1.ex W
  obtain ⟨us, p2, i2⟩ := h2.ex W
  refine ⟨tSeq ts us, fun X S => pss_cons (p1 X S) (p2 X S), fun e Ex hl env F σ H E Dn hh ht ok => ?_⟩
  exact i1 e Ex hl env F σ H _ _ hh ht ⟨fun env1 F1 σ1 H1 hh1 q1 => i2 e Ex hl env1 F1 σ1 H1 E Dn hh1 q1 ok, ok.rt, ok.bk, ok.ct⟩⟩
theorem dss_one (h1 : DS G N sc k st t) : DSs G N sc k [st] t := ⟨fun W => by
  obtain ⟨ts, p1, i1⟩ := h1.ex W
  exact ⟨ts, fun X S => pss_one (p1 X S), i1⟩⟩
def sBreak : DTS := fun _ E env => E.bk env
def sCont : DTS := fun _ E env => E.ct env
def sDrop (t : DT) : DTS := fun Ex E env => t Ex env fun _ env1 => E.nx env1
theorem ds_expr (h : DE G N sc k a ta) (hs : ∀ env, swapsWith a none pos.line env = pure false := by intro _; rfl) : DS G N sc k (.Expr a pos) (sDrop ta) := ⟨fun W => by
  obtain ⟨te, p1, i1⟩ := h.ex W
  refine ⟨tDrop te, fun X S => ps_expr (p1 X S) (hs _), fun e Ex hl env F σ H E Dn hh ht ok => ?_⟩
  exact i1 e Ex hl env [] F σ H _ _ hh ht fun v H1 F1 env1 x hh1 q1 => ok.nx env1 F1 σ H1 hh1.pop q1⟩
def retD (env : Env') (x : Sl) (q : Sl → Env' → Prop) : Prop := match x with
  | .al i a => match env[i]? with
    | some (.lst b ds) => b = a ∧ q (.lst a ds) (env.set i .un)
    | _ => False
  | .un => False
  | .ext d => q (.ext d) env
  | .lst a ds => q (.lst a ds) env
  | .reg a cs => q (.reg a cs) env
  | .ar _ _ => False
def sRet (t : DT) : DTS := fun Ex E env => t Ex env fun x env1 => retD env1 x E.rt
theorem Holds.ret {K : PySem.W.Frag} {e : Ent} {env : Env'} {T : Tmp} {F : Hp} {σ : St} {H : Hp} {v : V} {x : Sl} {q : Sl → Env' → Prop} (h : Holds K e env ((v, x) :: T) F σ H) (w : retD env x q) : ∃ r env', Holds K e env' ((v, r) :: T) F σ H ∧ r.plain ∧ q r env' := by
  cases x with
  | un => exact w.elim
  | ext d => exact ⟨_, _, h, trivial, w⟩
  | lst a ds => exact ⟨_, _, h, trivial, w⟩
  | reg a ds => exact ⟨_, _, h, trivial, w⟩
  | ar _ _ => exact w.elim
  | al i a =>
    have ev : v = .ref a := h.temps (v, .al i a) List.mem_cons_self
    have w' : (match env[i]? with | some (.lst b ds) => b = a ∧ q (.lst a ds) (env.set i .un) | _ => False) := w
    split at w'
    · rename_i b ds hb
      obtain ⟨rfl, w'⟩ := w'
      rcases h.slots i _ hb with z | ⟨u, hu, e1, _⟩
      · cases z
      · subst e1
        subst ev
        exact ⟨_, _, h.pop.take hb hu, trivial, w'⟩
    · exact w'.elim
theorem ds_ret (h : DE G N sc k a ta) : DS G N sc k (.Return (some a) pos) (sRet ta) := ⟨fun W => by
  obtain ⟨te, p1, i1⟩ := h.ex W
  refine ⟨tRet te, fun X S => ps_ret (p1 X S), fun e Ex hl env F σ H E Dn hh ht ok => ?_⟩
  refine i1 e Ex hl env [] F σ H _ _ hh ht fun v H1 F1 env1 x hh1 q1 => ?_
  obtain ⟨r, env2, hh2, _, q2⟩ := hh1.ret q1
  exact ok.rt env2 F1 σ H1 v r hh2 q2⟩
def sRetN : DTS := fun _ E env => E.rt (.ext .non) env
def sIf (c : DTT) (t u : DTS) : DTS := fun Ex E env => c Ex env fun b env1 => if b = true then t Ex E env1 else u Ex E env1
theorem ds_if {c : Expr} {x y : List Stmt} {tc : DTT} (hc : DTe G N sc k c tc) (h1 : DSs G N sc k x t) (h2 : DSs G N sc k y u) : DS G N sc k (.If c x y pos) (sIf tc t u) := ⟨fun W => by
  obtain ⟨tt, p0, i0⟩ := hc.ex W
  obtain ⟨ts, p1, i1⟩ := h1.ex W
  obtain ⟨us, p2, i2⟩ := h2.ex W
  refine ⟨tIfS tt ts us, fun X S => ps_if (p0 X S) (p1 X S) (p2 X S), fun e Ex hl env F σ H E Dn hh ht ok => ?_⟩
  refine i0 e Ex hl env [] F σ H _ _ hh ht fun b H1 F1 env1 hh1 q1 => ?_
  cases b with
  | true =>
    rw [if_pos rfl] at q1 ⊢
    exact i1 e Ex hl env1 F1 σ H1 E Dn hh1 q1 ok
  | false =>
    rw [if_neg Bool.false_ne_true] at q1 ⊢
    exact i2 e Ex hl env1 F1 σ H1 E Dn hh1 q1 ok⟩
def sFz (i : Nat) (t : DTS) : DTS := fun Ex E env => match env[i]? with
  | some (.lst _ ds) => t Ex E (env.set i (.ext (.lst ds)))
  | _ => t Ex E env
theorem imS_fz {K : PySem.W.Frag} {W : WX} {ts : TS} (i : Nat) (h : ImS K W ts t) : ImS K W ts (sFz i t) := fun e Ex hl env F σ H E Dn hh ht ok => by
  unfold sFz at ht
  split at ht
  · rename_i b ds hb
    obtain ⟨F1, _, hh1⟩ := hh.freeze hb
    exact h e Ex hl _ F1 σ H E Dn hh1 ht ok
  · exact h e Ex hl env F σ H E Dn hh ht ok
theorem ds_fz (i : Nat) (h : DS G N sc k st t) : DS G N sc k st (sFz i t) := ⟨fun W => by
  obtain ⟨ts, p1, i1⟩ := h.ex W
  exact ⟨ts, p1, imS_fz i i1⟩⟩
abbrev DTG := D → Env' → (Env' → Prop) → Prop
def Only (vs : List Nat) (σ σ' : St) : Prop := (∀ i, i ∉ vs → σ'[i]? = σ[i]?) ∧ σ'.length = σ.length
def ImG (K : PySem.W.Frag) (vs : List Nat) (g : TG) (t : DTG) : Prop := ∀ (e : Ent) (env : Env') (T : Tmp) (F : Hp) (σ : St) (H : Hp) (v : V) (d : D) (Q : Env' → Prop) (R : St → Hp → Prop),
  Holds K e env T F σ H → Rep K F d v → t d env Q → (∀ env' σ', Holds K e env' T F σ' H → Only vs σ σ' → Q env' → R σ' H) → g v σ H R
structure DG (G : GG) (N : List Str) (sc : SC) (tg : Expr) (vs : List Nat) (t : DTG) : Prop where
  ex : ∃ g, (∀ W k X, Sit G N sc W k X → PG X tg g) ∧ ImG G.K vs g t
def LocS (sc : SC) (x : Str) : Prop := sc.sc.names.lookup x = some .local ∨ (sc.sc.names.lookup x = some .cell ∧ sc.own x = true)
theorem Sit.loc {W : WX} {X : Cx} {x : Str} (S : Sit G N sc W k X) (h : LocS sc x) : Loc X.env.scope x ∧ (X.fn x = true ∨ X.env.scope.names.lookup x = some .local) := by
  rcases h with h | h
  · exact ⟨.inl (by rw [S.scp]; exact h), .inr (by rw [S.scp]; exact h)⟩
  · exact ⟨.inr (by rw [S.scp]; exact h.1), .inl (S.fn x h.2)⟩
def gSet (i : Nat) : DTG := fun d env Q => Q (env.set i (.ext d))
theorem dg_name {x : Str} (i : Nat) (hi : N[i]? = some x := by rfl) (hx : LocS sc x := by first | exact Or.inl rfl | exact Or.inr ⟨rfl, rfl⟩) : DG G N sc (.Name x pos) [i] (gSet i) :=
  ⟨gName i, fun W k X S => pg_name (by rw [S.nms]; exact S.nd) (by rw [S.nms]; exact hi) (S.loc hx).1 (S.loc hx).2,
    fun e env T F σ H v d Q R hh rd ht hR => hR _ _ ((hh.pushE rd).assign i trivial) ⟨fun j hj => List.getElem?_set_ne (fun z => hj (by rw [← z]; exact List.mem_singleton.mpr rfl)), List.length_set⟩ ht⟩
abbrev DTGs := List D → Env' → (Env' → Prop) → Prop
def ImGs (K : PySem.W.Frag) (us : List Nat) (g : TGs) (t : DTGs) : Prop := ∀ (e : Ent) (env : Env') (T : Tmp) (F : Hp) (σ : St) (H : Hp) (vs : List V) (ds : List D) (Q : Env' → Prop) (R : St → Hp → Prop),
  Holds K e env T F σ H → Reps K F ds vs → t ds env Q → (∀ env' σ', Holds K e env' T F σ' H → Only us σ σ' → Q env' → R σ' H) → g vs σ H R
structure DGs (G : GG) (N : List Str) (sc : SC) (tgs : List Expr) (vs : List Nat) (t : DTGs) : Prop where
  ex : ∃ g, (∀ W k X, Sit G N sc W k X → PGs X tgs g) ∧ ImGs G.K vs g t
def gsNil : DTGs := fun ds env Q => ds = [] ∧ Q env
def gsCons (t : DTG) (u : DTGs) : DTGs := fun ds env Q => match ds with
  | d :: r => t d env fun env1 => u r env1 Q
  | [] => False
theorem dgs_nil : DGs G N sc [] [] gsNil := ⟨gNil, fun W k X S => pgs_nil, fun e env T F σ H vs ds Q R hh rd ht hR => by
    obtain ⟨rfl, ht⟩ := ht
    exact ⟨rd, hR env σ hh ⟨fun _ _ => rfl, rfl⟩ ht⟩⟩
theorem dgs_cons {e : Expr} {es : List Expr} {vs us : List Nat} {t : DTG} {u : DTGs} (h1 : DG G N sc e vs t) (h2 : DGs G N sc es us u)
    (hs : ∀ env, (assignEach (e :: es) env).map (·.2) = assign e env :: (assignEach es env).map (·.2) := by intro _; rfl) : DGs G N sc (e :: es) (vs ++ us) (gsCons t u) := by
  obtain ⟨g, p1, i1⟩ := h1.ex
  obtain ⟨gs, p2, i2⟩ := h2.ex
  refine ⟨gCons g gs, fun W k X S => pgs_cons (p1 W k X S) (p2 W k X S) (hs _), fun en env T F σ H xs ds Q R hh rd ht hR => ?_⟩
  cases ds with
  | nil => exact ht.elim
  | cons d r =>
    obtain ⟨v, vr, rfl, r1, r2⟩ := rd
    refine ⟨v, vr, rfl, i1 en env T F σ H v d _ _ hh r1 ht fun env1 σ1 hh1 o1 q1 => ?_⟩
    exact i2 en env1 T F σ1 H vr r Q R hh1 r2 q1 fun env2 σ2 hh2 o2 q2 => hR env2 σ2 hh2 ⟨fun i hi => (o2.1 i fun z => hi (List.mem_append_right _ z)).trans (o1.1 i fun z => hi (List.mem_append_left _ z)), o2.2.trans o1.2⟩ q2
def gTupD (n : Nat) (t : DTGs) : DTG := fun d env Q => match d with
  | .tup ds => ds.length = n ∧ t ds env Q
  | .tk ds => ds.length = n ∧ t ds env Q
  | _ => False
theorem dg_tup {es : List Expr} {kk : Nat} {vs : List Nat} {t : DTGs} {n : Nat} (h : DGs G N sc es vs t) (hn : ∀ env, (assignEach es env).length = n := by intro _; rfl) (hst : ∀ env, (assignEach es env).findIdx? (·.1) = none := by intro _; rfl) : DG G N sc (.Tuple es kk pos) vs (gTupD n t) := by
  obtain ⟨g, p1, i1⟩ := h.ex
  refine ⟨gTup G.K n g, fun W k X S => ?_, fun en env T F σ H v d Q R hh rd ht hR => ?_⟩
  · rw [← S.K]
    exact pg_tup S.calm (p1 W k X S) (hn _) (hst _)
  · cases d with
    | tup ds =>
      obtain ⟨a, xs, rfl, hs, hr⟩ := rd
      obtain ⟨hl, ht⟩ := ht
      exact ⟨a, xs, rfl, SqT.same hh.fh hs.sq, by rw [← hr.length]; exact hl, i1 en env T F σ H xs ds Q R hh hr ht hR⟩
    | tk ds =>
      obtain ⟨a, xs, rfl, hs, hr⟩ := rd
      obtain ⟨hl, ht⟩ := ht
      exact ⟨a, xs, rfl, SqT.same hh.fh hs, by rw [← hr.length]; exact hl, i1 en env T F σ H xs ds Q R hh hr ht hR⟩
    | _ => exact ht.elim
def sSet (i : Nat) (t : DT) : DTS := fun Ex E env => t Ex env fun x env1 => retD env1 x fun r env2 => E.nx (env2.set i r)
theorem imS_set {K : PySem.W.Frag} {W : WX} {te : TE} {t : DT} (i : Nat) (h : Im K W te t) : ImS K W (tAsg te (gName i)) (sSet i t) := fun e Ex hl env F σ H E Dn hh ht ok => by
  refine h e Ex hl env [] F σ H _ _ hh ht fun v H1 F1 env1 x hh1 q1 => ?_
  obtain ⟨r, env2, hh2, hp, q2⟩ := hh1.ret q1
  exact ok.nx _ F1 _ H1 (hh2.assign i hp) q2
theorem ds_set {x : Str} {pos' : Pos} (i : Nat) (h : DE G N sc k a ta) (hi : N[i]? = some x := by rfl) (hx : LocS sc x := by first | exact Or.inl rfl | exact Or.inr ⟨rfl, rfl⟩) (hs : ∀ env, env.scope = sc.sc → swapsWith a (some (.Name x pos')) pos.line env = pure false := by intro _ _; rfl) : DS G N sc k (.Assign [.Name x pos'] a pos) (sSet i ta) := ⟨fun W => by
  obtain ⟨te, p1, i1⟩ := h.ex W
  exact ⟨tAsg te (gName i), fun X S => ps_set (by rw [S.nms]; exact S.nd) (by rw [S.nms]; exact hi) (S.loc hx).1 (p1 X S) (hs _ S.scp) (S.loc hx).2, imS_set i i1⟩⟩
def sSetE (i : Nat) (t : DT) : DTS := fun Ex E env => t Ex env fun x env1 => frzD env1 x fun d env2 => E.nx (env2.set i (.ext d))
theorem imS_setE {K : PySem.W.Frag} {W : WX} {te : TE} {t : DT} (i : Nat) (h : Im K W te t) : ImS K W (tAsg te (gName i)) (sSetE i t) := fun e Ex hl env F σ H E Dn hh ht ok => by
  refine h e Ex hl env [] F σ H _ _ hh ht fun v H1 F1 env1 x hh1 q1 => ?_
  obtain ⟨d, F2, env2, _, hh2, rd, q2⟩ := hh1.frz1 q1
  exact ok.nx _ F2 _ H1 ((hh2.pushE rd).assign i trivial) q2
theorem ds_setE {x : Str} {pos' : Pos} (i : Nat) (h : DE G N sc k a ta) (hi : N[i]? = some x := by rfl) (hx : LocS sc x := by first | exact Or.inl rfl | exact Or.inr ⟨rfl, rfl⟩) (hs : ∀ env, env.scope = sc.sc → swapsWith a (some (.Name x pos')) pos.line env = pure false := by intro _ _; rfl) : DS G N sc k (.Assign [.Name x pos'] a pos) (sSetE i ta) := ⟨fun W => by
  obtain ⟨te, p1, i1⟩ := h.ex W
  exact ⟨tAsg te (gName i), fun X S => ps_set (by rw [S.nms]; exact S.nd) (by rw [S.nms]; exact hi) (S.loc hx).1 (p1 X S) (hs _ S.scp) (S.loc hx).2, imS_setE i i1⟩⟩
def sAsg (t : DT) (g : DTG) : DTS := fun Ex E env => t Ex env fun x env1 => frzD env1 x fun d env2 => g d env2 E.nx
theorem ds_asg {tg : Expr} {vs : List Nat} {g : DTG} (h : DE G N sc k a ta) (hg : DG G N sc tg vs g) (hs : ∀ env, swapsWithSole [tg] a pos.line env = pure false := by intro _; rfl) (hw : ∀ env, swappedStores [tg] a env = pure none := by intro _; rfl)
    (h1 : ∀ env, (assignEach [tg] env).map (·.2) = [assign tg env] := by intro _; rfl) : DS G N sc k (.Assign [tg] a pos) (sAsg ta g) := ⟨fun W => by
  obtain ⟨te, p1, i1⟩ := h.ex W
  obtain ⟨gg, p2, i2⟩ := hg.ex
  refine ⟨tAsg te gg, fun X S => ps_asg (p1 X S) (p2 W k X S) (hs _) (hw _) (h1 _), fun e Ex hl env F σ H E Dn hh ht ok => ?_⟩
  refine i1 e Ex hl env [] F σ H _ _ hh ht fun v H1 F1 env1 x hh1 q1 => ?_
  obtain ⟨d, F2, env2, _, hh2, rd, q2⟩ := hh1.frz1 q1
  exact i2 e env2 [] F2 σ H1 v d E.nx Dn.nx hh2 rd q2 fun env3 σ3 hh3 _ q3 => ok.nx env3 F2 σ3 H1 hh3 q3⟩
def Src (K : PySem.W.Frag) (J : It) (items : List D) (keep : Env' → Prop) (F0 : Hp) : Prop :=
  ∀ (e : Ent) (env : Env') (T : Tmp) (F : Hp) (σ : St) (H : Hp) (i : Nat), Holds K e env T F σ H → Same F0 F → keep env →
    (items.length = i → J.stop i H) ∧ ∀ d, items[i]? = some d → J.go i H ∧ ∀ x H2, J.yld i H x H2 → ∃ F2, Grow F H F2 H2 ∧ Rep K F2 d x
abbrev DTI := DX → Env' → (List D → (Env' → Prop) → Env' → Prop) → Prop
def ImI (K : PySem.W.Frag) (W : WX) (wi : TI) (t : DTI) : Prop := ∀ (e : Ent) (Ex : DX), Link K e W Ex → ∀ (env : Env') (T : Tmp) (F : Hp) (σ : St) (H : Hp) (Q : List D → (Env' → Prop) → Env' → Prop) (R : It → Hp → Prop),
  Holds K e env T F σ H → t Ex env Q → (∀ J H' F' env' items keep, Holds K e env' T F' σ H' → Src K J items keep F' → Q items keep env' → R J H') → wi σ H R
structure DI (G : GG) (N : List Str) (sc : SC) (k : Nat) (tg iter : Expr) (t : DTI) : Prop where
  ex : ∀ W : WX, ∃ wi, (∀ X, Sit G N sc W k X → PI X tg iter wi) ∧ ImI G.K W wi t
def atC (i : Nat) (b : Addr) (ds : List D) (env : Env') : Prop := ∃ d cs, env[i]? = some (.reg d cs) ∧ cellOf cs b = some (.lst ds)
def iterD (env : Env') (x : Sl) (q : List D → (Env' → Prop) → Prop) : Prop := match x with
  | .ext (.lst ds) => q ds fun _ => True
  | .lst _ ds => q ds fun _ => True
  | .al i a => match env[i]? with
    | some (.lst b ds) => b = a ∧ q ds fun env' => env'[i]? = some (.lst a ds)
    | _ => False
  | .ar i b => match env[i]? with
    | some (.reg _ cs) => match cellOf cs b with
      | some (.lst ds) => q ds (atC i b ds)
      | _ => False
    | _ => False
  | _ => False
def dIterT (t : DT) : DTI := fun Ex env Q => t Ex env fun x env1 => match x with
  | .ext (.tup ds) => Q ds (fun _ => True) env1
  | _ => False
def rgD (lo hi : Int) : List D := (List.range (hi - lo).toNat).map fun i => D.int (lo + (i : Nat))
theorem src_range {K : PySem.W.Frag} {F0 : Hp} {lo hi : Int} : Src K (Itr lo (hi - lo).toNat) (rgD lo hi) (fun _ => True) F0 := fun e env T F σ H i hh sm _ => by
  have hl : (rgD lo hi).length = (hi - lo).toNat := by
    unfold rgD
    rw [List.length_map, List.length_range]
  refine ⟨fun h => by rw [hl] at h; exact Nat.le_of_eq h, fun d hd => ?_⟩
  have hi' : i < (hi - lo).toNat := by
    rw [← hl]
    exact (List.getElem?_eq_some_iff.mp hd).1
  unfold rgD at hd
  rw [List.getElem?_map, List.getElem?_range hi'] at hd
  have ed := Option.some.inj hd
  refine ⟨hi', fun x H2 hy => ?_⟩
  obtain ⟨rfl, ex⟩ := hy
  refine ⟨F, Grow.refl hh.fh, ?_⟩
  rw [ex, ← ed]
  exact rfl
def small62 (i : Int) : Prop := -(2 ^ 62) ≤ i ∧ i < 2 ^ 62
def dRange1 (t : DTA) : DTI := fun Ex env Q => t Ex env fun xs env1 => match xs with
  | [.ext (.int j)] => small62 j ∧ Q (rgD 0 j) (fun _ => True) env1
  | _ => False
def dRange2 (t : DTA) : DTI := fun Ex env Q => t Ex env fun xs env1 => match xs with
  | [.ext (.int i), .ext (.int j)] => small62 i ∧ small62 j ∧ Q (rgD i j) (fun _ => True) env1
  | _ => False
theorem di_range1 {tg : Expr} {t : DTA} {p : Pos} (h : DAs G N sc k [a] t) (hm : G.mg "range" = none) (hg : GlS sc "range" := by rfl) (hs : ∀ env, starEach [a] env = [(false, eval a env)] := by intro _; rfl) : DI G N sc k tg (.Call (.Name "range" p) [a] [] pos) (dRange1 t) := ⟨fun W => by
  obtain ⟨te, p1, i1⟩ := h.ex W
  refine ⟨iRng1 te, fun X S => pi_range1 (S.gl hg) (by rw [S.mg]; exact hm) (p1 X S) (hs _), fun e Ex hl env T F σ H Q R hh ht hR => ?_⟩
  refine i1 e Ex hl env T F σ H _ _ hh ht fun vs H1 F1 env1 xs le hh1 q1 => ?_
  split at q1
  · rename_i j
    match vs, le, hh1 with
    | [v], _, hh1 =>
      have ev : v = .int j := hh1.temps (v, .ext (.int j)) List.mem_cons_self
      have z := src_range (K := G.K) (F0 := F1) (lo := 0) (hi := j)
      rw [Int.sub_zero] at z
      exact ⟨j, by rw [ev], q1.1.1, q1.1.2, hR _ H1 F1 env1 _ _ hh1.pop z q1.2⟩
  · exact q1.elim⟩
theorem di_range2 {b : Expr} {tg : Expr} {t : DTA} {p : Pos} (h : DAs G N sc k [a, b] t) (hm : G.mg "range" = none) (hg : GlS sc "range" := by rfl) (hs : ∀ env, starEach [a, b] env = [(false, eval a env), (false, eval b env)] := by intro _; rfl) (hs2 : ∀ env, starEach [b] env = [(false, eval b env)] := by intro _; rfl) :
    DI G N sc k tg (.Call (.Name "range" p) [a, b] [] pos) (dRange2 t) := ⟨fun W => by
  obtain ⟨te, p1, i1⟩ := h.ex W
  refine ⟨iRng2 te, fun X S => pi_range2 (S.gl hg) (by rw [S.mg]; exact hm) (p1 X S) (hs _) (hs2 _), fun e Ex hl env T F σ H Q R hh ht hR => ?_⟩
  refine i1 e Ex hl env T F σ H _ _ hh ht fun vs H1 F1 env1 xs le hh1 q1 => ?_
  split at q1
  · rename_i i j
    match vs, le, hh1 with
    | [v, w], _, hh1 =>
      have ev : v = .int i := hh1.temps (v, .ext (.int i)) List.mem_cons_self
      have ew : w = .int j := hh1.temps (w, .ext (.int j)) (List.mem_cons_of_mem _ List.mem_cons_self)
      exact ⟨i, j, by rw [ev, ew], ⟨q1.1.1, q1.1.2, q1.2.1.1, q1.2.1.2⟩, hR _ H1 F1 env1 _ _ hh1.pop.pop src_range q1.2.2⟩
  · exact q1.elim⟩
abbrev Ent.at (e : Ent) (F1 : Hp) : Ent := ⟨F1, e.H0, e.A0⟩
section
variable {K : PySem.W.Frag} {e : Ent} {env env1 : Env'} {T T1 : Tmp} {F F1 : Hp} {σ σ1 : St} {H H1 : Hp}
theorem Holds.on (h1 : Holds K e env1 T1 F1 σ1 H1) (h : Holds K e env T F σ H) (sm : Same F1 F) : Holds K (e.at F1) env T F σ H :=
  ⟨h.fh, h.len, h.slots, h.temps, h.nd, sm, fun a o q n => ⟨(h.s2 a o q n).1, fun z => (h.s2 a o q n).2 (h1.s1.free z)⟩, h.s3⟩
theorem Holds.off (h1 : Holds K e env1 T1 F1 σ1 H1) (h : Holds K (e.at F1) env T F σ H) : Holds K e env T F σ H :=
  ⟨h.fh, h.len, h.slots, h.temps, h.nd, h1.s1.trans h.s1, fun a o q n => ⟨(h.s2 a o q n).1, fun z => (h.s2 a o q n).2 ((h1.s2 a o q n).2 z)⟩, h.s3⟩
theorem Link.on {W : WX} {Ex : DX} (h1 : Holds K e env1 T1 F1 σ1 H1) (hl : Link K e W Ex) : Link K (e.at F1) W Ex := fun c env F σ H h q => hl c env F σ H (h1.off h) q
theorem EndsOk.on {E : DEnds} {Dn : Ends} (h1 : Holds K e env1 T1 F1 σ1 H1) (ok : EndsOk K e E Dn) : EndsOk K (e.at F1) E Dn :=
  ⟨fun env F σ H h q => ok.nx env F σ H (h1.off h) q, fun env F σ H v r h q => ok.rt env F σ H v r (h1.off h) q, fun env F σ H h q => ok.bk env F σ H (h1.off h) q, fun env F σ H h q => ok.ct env F σ H (h1.off h) q⟩
end
def forD (g : DTG) (body : DTS) (keep : Env' → Prop) (Ex : DX) (E : DEnds) : List D → Env' → Prop
  | [], env => keep env ∧ E.nx env
  | d :: ds, env => keep env ∧ g d env fun env1 => body Ex { E with nx := forD g body keep Ex E ds, ct := forD g body keep Ex E ds, bk := E.nx } env1
def sFor (ti : DTI) (g : DTG) (body : DTS) : DTS := fun Ex E env => ti Ex env fun items keep env1 => forD g body keep Ex E items env1
theorem forD_keep {g : DTG} {body : DTS} {keep : Env' → Prop} {Ex : DX} {E : DEnds} : ∀ {ds : List D} {env : Env'}, forD g body keep Ex E ds env → keep env
  | [], _, h => h.1
  | _ :: _, _, h => h.1
theorem ds_for {tg iter : Expr} {body : List Stmt} {ti : DTI} {vs : List Nat} {g : DTG} {tb : DTS} (hi : DI G N sc k tg iter ti) (hg : DG G N sc tg vs g) (hb : DSs G N sc k body tb) (hs : ∀ env x, foldedSetIterable iter env x = pure x := by intro _ _; rfl) : DS G N sc k (.For tg iter body [] pos) (sFor ti g tb) := ⟨fun W => by
  obtain ⟨wi, p1, i1⟩ := hi.ex W
  obtain ⟨gg, p2, i2⟩ := hg.ex
  obtain ⟨ts, p3, i3⟩ := hb.ex W
  refine ⟨tFor wi gg ts, fun X S => ps_for S.own S.calm (p1 X S) (p2 W k X S) (p3 X S) (hs _), fun e Ex hl env F σ H E Dn hh ht ok => ?_⟩
  refine i1 e Ex hl env [] F σ H _ _ hh ht fun J H1 F1 env1 items keep hh1 src q1 => ?_
  have ok' := ok.on hh1
  refine ⟨fun i m σ' H' => ∃ env' F', Holds G.K (e.at F1) env' [] F' σ' H' ∧ i + m = items.length ∧ forD g tb keep Ex E (items.drop i) env', ⟨items.length, env1, F1, hh1.on hh1 (Same.refl _), by omega, q1⟩, ?_⟩
  rintro i m σ2 H2 ⟨env2, F2, hh2, em, q2⟩
  obtain ⟨s1, s2⟩ := src (e.at F1) env2 [] F2 σ2 H2 i hh2 hh2.s1 (forD_keep q2)
  cases hd : items[i]? with
  | none =>
    have hi : items.length ≤ i := List.getElem?_eq_none_iff.mp hd
    rw [List.drop_eq_nil_of_le hi] at q2
    exact .inl ⟨s1 (by omega), ok'.nx env2 F2 σ2 H2 hh2 q2.2⟩
  | some d =>
    obtain ⟨hi, ed⟩ := List.getElem?_eq_some_iff.mp hd
    rw [List.drop_eq_getElem_cons hi, ed] at q2
    obtain ⟨_, q2⟩ := q2
    obtain ⟨go, yl⟩ := s2 d hd
    refine .inr ⟨go, fun σ' H' => ∃ env' F', Holds G.K (e.at F1) env' [] F' σ' H' ∧ forD g tb keep Ex E (items.drop (i + 1)) env', fun σ' H' ⟨env', F', a1, a3⟩ => ⟨m - 1, by omega, env', F', a1, by omega, a3⟩, fun x H3 hy => ?_⟩
    obtain ⟨F3, gr, rd⟩ := yl x H3 hy
    refine i2 (e.at F1) env2 [] F3 σ2 H3 x d _ _ (hh2.grow gr) rd q2 fun env4 σ4 hh4 _ q4 => ?_
    exact i3 (e.at F1) Ex (hl.on hh1) env4 F3 σ4 H3 _ _ hh4 q4 ⟨fun env5 F5 σ5 H5 hh5 q5 => ⟨env5, F5, hh5, q5⟩, ok'.rt, fun env5 F5 σ5 H5 hh5 q5 => ok'.nx env5 F5 σ5 H5 hh5 q5, fun env5 F5 σ5 H5 hh5 q5 => ⟨env5, F5, hh5, q5⟩⟩⟩
def sWhile (c : DTT) (body : DTS) : DTS := fun Ex E env => ∃ I : Nat → Env' → Prop, (∃ m, I m env) ∧ ∀ m env, I m env → c Ex env fun b env1 =>
  if b = true then body Ex { E with nx := fun env' => ∃ m', m' < m ∧ I m' env', ct := fun env' => ∃ m', m' < m ∧ I m' env', bk := E.nx } env1 else E.nx env1
theorem ds_while {c : Expr} {body : List Stmt} {tc : DTT} {tb : DTS} (hc : DTe G N sc k c tc) (hb : DSs G N sc k body tb) : DS G N sc k (.While c body [] pos) (sWhile tc tb) := ⟨fun W => by
  obtain ⟨tt, p1, i1⟩ := hc.ex W
  obtain ⟨ts, p2, i2⟩ := hb.ex W
  refine ⟨tWhile tt ts, fun X S => ps_while S.own (p1 X S) (p2 X S), fun e Ex hl env F σ H E Dn hh ht ok => ?_⟩
  obtain ⟨I, ⟨m0, h0⟩, turn⟩ := ht
  refine ⟨fun m σ' H' => ∃ env' F', Holds G.K e env' [] F' σ' H' ∧ I m env', ⟨m0, env, F, hh, h0⟩, ?_⟩
  rintro m σ1 H1 ⟨env1, F1, hh1, q1⟩
  refine i1 e Ex hl env1 [] F1 σ1 H1 _ _ hh1 (turn m env1 q1) fun b H2 F2 env2 hh2 q2 => ?_
  cases b with
  | true =>
    rw [if_pos rfl] at q2 ⊢
    refine ⟨fun σ' H' => ∃ m', m' < m ∧ ∃ env' F', Holds G.K e env' [] F' σ' H' ∧ I m' env', fun σ' H' z => z, ?_⟩
    exact i2 e Ex hl env2 F2 σ1 H2 _ _ hh2 q2 ⟨fun env5 F5 σ5 H5 hh5 ⟨m', hm, q5⟩ => ⟨m', hm, env5, F5, hh5, q5⟩, ok.rt, fun env5 F5 σ5 H5 hh5 q5 => ok.nx env5 F5 σ5 H5 hh5 q5, fun env5 F5 σ5 H5 hh5 ⟨m', hm, q5⟩ => ⟨m', hm, env5, F5, hh5, q5⟩⟩
  | false =>
    rw [if_neg Bool.false_ne_true] at q2 ⊢
    exact ok.nx env2 F2 σ1 H2 hh2 q2⟩
end
end HD
namespace HD
open PySem L2
def wipeE (env : Env') : List Nat → Env'
  | [] => env
  | v :: vs => (wipeE env vs).set v .un
section
variable {K : PySem.W.Frag} {e : Ent} {env : Env'} {T : Tmp} {F : Hp} {σ : St} {H : Hp}
theorem Holds.wipe1 (h : Holds K e env T F σ H) (i : Nat) : Holds K e (env.set i .un) T F (σ.set i none) H := by
  have h1 := h.unset i
  refine ⟨h1.fh, by rw [List.length_set, List.length_set]; exact h.len, fun j sl q => ?_, h1.temps, h1.nd, h1.s1, h1.s2, h1.s3⟩
  by_cases ij : i = j
  · subst ij
    rw [List.getElem?_set] at q
    rw [if_pos rfl] at q
    split at q
    · cases q
      exact .inl rfl
    · cases q
  · rcases h1.slots j sl q with z | ⟨v, hv, ok⟩
    · exact .inl z
    · exact .inr ⟨v, by rw [List.getElem?_set_ne ij]; exact hv, ok⟩
theorem Holds.wipe (h : Holds K e env T F σ H) : ∀ vs : List Nat, Holds K e (wipeE env vs) T F (wipe σ vs) H
  | [] => h
  | v :: vs => (Holds.wipe h vs).wipe1 v
theorem Holds.unwipe {vs : List Nat} (h : Holds K e env T F (L2.wipe σ vs) H) : Holds K e env T F σ H :=
  ⟨h.fh, by rw [h.len, wipe_length], fun j sl q => by
    rcases h.slots j sl q with z | ⟨v, hv, ok⟩
    · exact .inl z
    · exact .inr ⟨v, (wipe_some hv).1, ok⟩, h.temps, h.nd, h.s1, h.s2, h.s3⟩
end
theorem wipe_in {σ : St} {i : Nat} : ∀ {vs : List Nat}, i ∈ vs → i < σ.length → (wipe σ vs)[i]? = some none
  | [], h, _ => nomatch h
  | v :: vs, h, hl => by
    unfold wipe
    rw [List.getElem?_set]
    by_cases e : v = i
    · rw [if_pos e, if_pos (by rw [wipe_length, e]; exact hl)]
    · rw [if_neg e]
      rcases List.mem_cons.mp h with z | z
      · exact absurd z.symm e
      · exact wipe_in z hl
theorem wipe_only {σ σ2 : St} {vs : List Nat} (h : Only vs (wipe σ vs) σ2) : wipe σ2 vs = wipe σ vs := by
  have hl : σ2.length = σ.length := by rw [h.2, wipe_length]
  refine List.ext_getElem? fun i => ?_
  by_cases m : i ∈ vs
  · by_cases il : i < σ.length
    · rw [wipe_in m il, wipe_in m (by rw [hl]; exact il)]
    · rw [List.getElem?_eq_none (by rw [wipe_length, hl]; omega), List.getElem?_eq_none (by rw [wipe_length]; omega)]
  · rw [wipe_out m, h.1 i m]
section
variable {G : GG} {N : List Str} {sc : SC} {k : Nat}
theorem Sit.blk {W : WX} {X : Cx} (S : Sit G N sc W k X) (s : Shared) (H : Hp) (scope : Scope) (C : Addr) (cl : List (Str × Addr)) (fp : List Addr) : Sit G N (lcS scope sc) (fun _ _ _ _ => False) k (X.blk s H scope (compEnvC scope cl C X.env) fp) where
  prog := S.prog
  w := S.w
  K := S.K
  mg := S.mg
  base := S.base
  nms := S.nms
  nd := S.nd
  scp := by
    show relabel scope X.env = relab scope sc.sc
    unfold relabel relab
    rw [← S.scp]
    rfl
  calm := S.calm
  room := S.room
  tk := L2.takes0
  fn := fun x h => h
  own := PassesOwn.never
  stk := fun z => by cases z
  gd := S.gd
def dYes : DTT := fun _ env Q => Q true env
structure DTl (G : GG) (N : List Str) (sc : SC) (k : Nat) (ifs : List Expr) (t : DTT) : Prop where
  ex : ∀ W : WX, ∃ te, (∀ X, Sit G N sc W k X → PTs X ifs te) ∧ ImT G.K W te t
theorem dtl_nil : DTl G N sc k [] dYes := ⟨fun W => ⟨tYes, fun X S => pts_nil, fun e Ex hl env T F σ H Q R hh ht hR => hR true H F env hh ht⟩⟩
theorem dtl_one {c : Expr} {t : DTT} (h : DTe G N sc k c t) : DTl G N sc k [c] t := ⟨fun W => by
  obtain ⟨te, p1, i1⟩ := h.ex W
  exact ⟨te, fun X S => pts_one (p1 X S), i1⟩⟩
abbrev noX : DX := fun _ _ => False
def lcD (g : DTG) (tt : DTT) (te : DT) (vs : List Nat) (keep : Env' → Prop) (Q : Sl → Env' → Prop) : List D → List D → Env' → Prop
  | [], acc, env => keep env ∧ ∀ a, Q (.lst a acc) env
  | d :: ds, acc, env => keep env ∧ acc.length < sizeLine ∧ g d env fun env1 => tt noX env1 fun b env2 =>
      if b = true then te noX env2 fun x env3 => frzD env3 x fun d' env4 => lcD g tt te vs keep Q ds (acc ++ [d']) (wipeE env4 vs) else lcD g tt te vs keep Q ds acc (wipeE env2 vs)
def dLc (ti : DTI) (g : DTG) (tt : DTT) (te : DT) (vs : List Nat) : DT := fun Ex env Q => ti Ex env fun items keep env1 => lcD g tt te vs keep Q items [] (wipeE env1 vs)
theorem lcD_keep {g : DTG} {tt : DTT} {te : DT} {vs : List Nat} {keep : Env' → Prop} {Q : Sl → Env' → Prop} : ∀ {ds acc : List D} {env : Env'}, lcD g tt te vs keep Q ds acc env → keep env
  | [], _, _, h => h.1
  | _ :: _, _, _, h => h.1
theorem im_lc {K : PySem.W.Frag} {W : WX} {wi : TI} {gg : TG} {tt' : TT} {te' : TE} {ti : DTI} {g : DTG} {tt : DTT} {te : DT} {vs : List Nat} (i1 : ImI K W wi ti) (i2 : ImG K vs gg g) (i3 : ImT K (fun _ _ _ _ => False) tt' tt) (i4 : Im K (fun _ _ _ _ => False) te' te) : Im K W (tLc wi gg tt' te' vs) (dLc ti g tt te vs) := fun e Ex hl env T F σ H Q R hh ht hR => by
  refine i1 e Ex hl env T F σ H _ _ hh ht fun J H1 F1 env1 items keep hh1 src q1 => fun D hD => ?_
  have nl : Link K (e.at F1) (fun _ _ _ _ => False) noX := fun _ _ _ _ _ _ z => z
  have h0 : Holds K e env1 ((V.ref D, Sl.lst D []) :: T) F1 σ (upd H1 D (.lst [])) := hh1.push (Grow.loose hh1.fh hD) ⟨rfl, hh1.fh.free hD, [], upd_same, rfl⟩ fun a ha => by
    rw [List.mem_singleton.mp ha]
    exact hD
  refine ⟨fun i m H' => ∃ env' F' acc, Holds K (e.at F1) env' ((V.ref D, Sl.lst D acc) :: T) F' (wipe σ vs) H' ∧ i + m = items.length ∧ lcD g tt te vs keep Q (items.drop i) acc env',
    ⟨items.length, wipeE env1 vs, F1, [], (hh1.on h0 (Same.refl _)).wipe vs, by omega, q1⟩, ?_⟩
  rintro i m H2 ⟨env2, F2, acc, hh2, em, q2⟩
  obtain ⟨s1, s2⟩ := src (e.at F1) env2 _ F2 _ H2 i hh2 hh2.s1 (lcD_keep q2)
  cases hd : items[i]? with
  | none =>
    have hi : items.length ≤ i := List.getElem?_eq_none_iff.mp hd
    rw [List.drop_eq_nil_of_le hi] at q2
    exact .inl ⟨s1 (by omega), hR _ H2 F2 env2 _ (hh1.off hh2.unwipe) (q2.2 D)⟩
  | some d =>
    obtain ⟨hi, ed⟩ := List.getElem?_eq_some_iff.mp hd
    rw [List.drop_eq_getElem_cons hi, ed] at q2
    obtain ⟨_, hz, q2⟩ := q2
    obtain ⟨go, yl⟩ := s2 d hd
    refine .inr ⟨go, fun H' => ∃ env' F' acc, Holds K (e.at F1) env' ((V.ref D, Sl.lst D acc) :: T) F' (wipe σ vs) H' ∧ lcD g tt te vs keep Q (items.drop (i + 1)) acc env', fun H' ⟨env', F', acc', a1, a3⟩ => ⟨m - 1, by omega, env', F', acc', a1, by omega, a3⟩, fun x H3 hy => ?_⟩
    obtain ⟨F3, gr, rd⟩ := yl x H3 hy
    refine i2 (e.at F1) env2 _ F3 _ H3 x d _ _ (hh2.grow gr) rd q2 fun env4 σ4 hh4 on4 q4 => ⟨wipe_only on4, ?_⟩
    refine i3 (e.at F1) noX nl env4 _ F3 σ4 H3 _ _ hh4 q4 fun b H5 F5 env5 hh5 q5 => ?_
    cases b with
    | false =>
      rw [if_neg Bool.false_ne_true] at q5 ⊢
      have z := hh5.wipe vs
      rw [wipe_only on4] at z
      exact ⟨_, F5, acc, z, q5⟩
    | true =>
      rw [if_pos rfl] at q5 ⊢
      refine i4 (e.at F1) noX nl env5 _ F5 σ4 H5 _ _ hh5 q5 fun y H6 F6 env6 sl hh6 q6 => ?_
      obtain ⟨d', F7, env7, _, hh7, rd', q7⟩ := hh6.frz1 q6
      obtain ⟨_, _, us, hu, hr⟩ := hh7.temps (V.ref D, Sl.lst D acc) List.mem_cons_self
      refine ⟨us, hu, by rw [← hr.length]; exact hz, ?_⟩
      have z := (hh7.writeT (hr.append (.one rd'))).wipe vs
      rw [wipe_only on4] at z
      exact ⟨_, F7, _, z, q7⟩
variable {elt tg iter : Expr} {ifs : List Expr} {scope : Scope} {own : List (Str × Nat)} {pos : Pos} {ti : DTI} {g : DTG} {tt : DTT} {te : DT}
theorem de_lc (own : List (Str × Nat)) (hi : DI G N sc k tg iter ti) (ok : blkC N sc.sc scope own = true) (hg : DG G N (lcS scope sc) tg (own.map (·.2)) g) (ht : DTl G N (lcS scope sc) k ifs tt) (he : DE G N (lcS scope sc) k elt te) (hs : ∀ env x, foldedSetIterable iter env x = pure x := by intro _ _; rfl) :
    DE G N sc k (.ListComp elt [⟨tg, iter, ifs, 0⟩] scope pos) (dLc ti g tt te (own.map (·.2))) := ⟨fun W => by
  obtain ⟨wi, p1, i1⟩ := hi.ex W
  obtain ⟨gg, p2, i2⟩ := hg.ex
  obtain ⟨tt', p3, i3⟩ := ht.ex fun _ _ _ _ => False
  obtain ⟨te', p4, i4⟩ := he.ex fun _ _ _ _ => False
  refine ⟨tLc wi gg tt' te' (own.map (·.2)), fun X S => ?_, im_lc i1 i2 i3 i4⟩
  exact pe_lc S.calm (by rw [S.nms]; exact S.nd) (p1 X S) (by rw [S.nms, S.scp]; exact blkOk_by ok) (fun s H C cl fp => p2 _ _ _ (S.blk s H scope C cl fp)) (fun s H C cl fp => p3 _ (S.blk s H scope C cl fp)) (fun s H C cl fp => p4 _ (S.blk s H scope C cl fp)) (hs _)⟩
theorem ds_setLc (own : List (Str × Nat)) {y : Str} {py spos : Pos} (i : Nat) (hi : DI G N sc k tg iter ti) (ok : blkC N sc.sc scope own = true) (hg : DG G N (lcS scope sc) tg (own.map (·.2)) g) (ht : DTl G N (lcS scope sc) k ifs tt) (he : DE G N (lcS scope sc) k elt te) (hy : N[i]? = some y := by rfl) (hyl : sc.sc.names.lookup y = some .local := by rfl)
    (hk : sc.sc.kind = .function := by rfl) (hl : (py.line == pos.line) = true := by rfl) (ha : (scope.names.any fun (n, k) => n == y && (k == .local || k == .cell)) = false := by decide +kernel) (hs : ∀ env x, foldedSetIterable iter env x = pure x := by intro _ _; rfl) :
    DS G N sc k (.Assign [.Name y py] (.ListComp elt [⟨tg, iter, ifs, 0⟩] scope pos) spos) (sSet i (dLc ti g tt te (own.map (·.2)))) := ⟨fun W => by
  obtain ⟨wi, p1, i1⟩ := hi.ex W
  obtain ⟨gg, p2, i2⟩ := hg.ex
  obtain ⟨tt', p3, i3⟩ := ht.ex fun _ _ _ _ => False
  obtain ⟨te', p4, i4⟩ := he.ex fun _ _ _ _ => False
  refine ⟨tAsg (tLc wi gg tt' te' (own.map (·.2))) (gName i), fun X S => ?_, imS_set i (im_lc i1 i2 i3 i4)⟩
  have hyX : X.env.scope.names.lookup y = some .local := by
    rw [S.scp]
    exact hyl
  exact ps_setLc S.calm (by rw [S.nms]; exact S.nd) (by rw [S.nms]; exact hy) hyX (sw_true (by rw [S.scp]; exact hk) hyX hl ha) (p1 X S) (by rw [S.nms, S.scp]; exact blkOk_by ok) (fun s H C cl fp => p2 _ _ _ (S.blk s H scope C cl fp)) (fun s H C cl fp => p3 _ (S.blk s H scope C cl fp)) (fun s H C cl fp => p4 _ (S.blk s H scope C cl fp)) (hs _)⟩
theorem ds_setLcE (own : List (Str × Nat)) {y : Str} {py spos : Pos} (i : Nat) (hi : DI G N sc k tg iter ti) (ok : blkC N sc.sc scope own = true) (hg : DG G N (lcS scope sc) tg (own.map (·.2)) g) (ht : DTl G N (lcS scope sc) k ifs tt) (he : DE G N (lcS scope sc) k elt te) (hy : N[i]? = some y := by rfl) (hyl : sc.sc.names.lookup y = some .local := by rfl)
    (hk : sc.sc.kind = .function := by rfl) (hl : (py.line == pos.line) = true := by rfl) (ha : (scope.names.any fun (n, k) => n == y && (k == .local || k == .cell)) = false := by decide +kernel) (hs : ∀ env x, foldedSetIterable iter env x = pure x := by intro _ _; rfl) :
    DS G N sc k (.Assign [.Name y py] (.ListComp elt [⟨tg, iter, ifs, 0⟩] scope pos) spos) (sSetE i (dLc ti g tt te (own.map (·.2)))) := ⟨fun W => by
  obtain ⟨wi, p1, i1⟩ := hi.ex W
  obtain ⟨gg, p2, i2⟩ := hg.ex
  obtain ⟨tt', p3, i3⟩ := ht.ex fun _ _ _ _ => False
  obtain ⟨te', p4, i4⟩ := he.ex fun _ _ _ _ => False
  refine ⟨tAsg (tLc wi gg tt' te' (own.map (·.2))) (gName i), fun X S => ?_, imS_setE i (im_lc i1 i2 i3 i4)⟩
  have hyX : X.env.scope.names.lookup y = some .local := by
    rw [S.scp]
    exact hyl
  exact ps_setLc S.calm (by rw [S.nms]; exact S.nd) (by rw [S.nms]; exact hy) hyX (sw_true (by rw [S.scp]; exact hk) hyX hl ha) (p1 X S) (by rw [S.nms, S.scp]; exact blkOk_by ok) (fun s H C cl fp => p2 _ _ _ (S.blk s H scope C cl fp)) (fun s H C cl fp => p3 _ (S.blk s H scope C cl fp)) (fun s H C cl fp => p4 _ (S.blk s H scope C cl fp)) (hs _)⟩
theorem start_holds {K : PySem.W.Frag} {e : Ent} {args : Env'} {F H : Hp} {vs : List V} (N : List Str) (h : Holds K e args [] F (vs.map some) H) : Holds K e (args ++ List.replicate (N.length - vs.length) .un) [] F (L2.start N vs) H := by
  have own : ownedE (args ++ List.replicate (N.length - vs.length) Sl.un) = ownedE args := by
    unfold ownedE
    rw [List.flatMap_append]
    have z : (List.replicate (N.length - vs.length) Sl.un).flatMap Sl.owned = [] := by
      rw [List.flatMap_eq_nil_iff]
      intro x hx
      rw [List.eq_of_mem_replicate hx]
      rfl
    rw [z, List.append_nil]
  have hl : args.length = vs.length := by
    have z := h.len
    rw [List.length_map] at z
    exact z
  refine ⟨h.fh, ?_, fun i sl q => ?_, h.temps, by rw [own]; exact h.nd, h.s1, h.s2, by rw [own]; exact h.s3⟩
  · unfold L2.start
    rw [List.length_append, List.length_append, List.length_replicate, List.length_replicate, h.len]
  · by_cases hi : i < args.length
    · rw [List.getElem?_append_left hi] at q
      rcases h.slots i sl q with z | ⟨v, hv, ok⟩
      · exact .inl z
      · refine .inr ⟨v, ?_, ok⟩
        unfold L2.start
        rw [List.getElem?_append_left (by rw [List.length_map, ← hl]; exact hi)]
        exact hv
    · rw [List.getElem?_append_right (by omega)] at q
      rw [List.getElem?_replicate] at q
      split at q
      · cases q
        exact .inl rfl
      · cases q
abbrev endsOf (args : Env') (Qd : Sl → List Sl → Prop) : DEnds := { nx := fun env => Qd (.ext .non) (finals args env), rt := fun r env => Qd r (finals args env) }
abbrev exOf (args : Env') (Xd : Str → List Sl → Prop) : DX := fun c env => Xd c (finals args env)
theorem fn_ok {st : Stmt} {x qual : Str} {f : Addr} {fd : FuncData} {ps : List Str} {tb : DTS} {spec : DSpec} (F : Fun G.K x qual st f fd) (S : FnScope N ps (defScope st)) (hb : DSs G N (fnS (defScope st)) k (defBody st) tb)
    (h : ∀ args Qd Xd, spec args Qd Xd → args.length = ps.length → tb (exOf args Xd) (endsOf args Qd) (args ++ List.replicate (N.length - args.length) .un)) : FnG G.P G.w G.K G.mg G.base (L2.CX G.P G.w) (k + 1) f fd ps (toSp G.K ps.length spec) := by
  refine fnG_of F S (fun vs H Q E h => ?_) (fun cdv A outer s H vs Q E gd hr hsp => ?_)
  · obtain ⟨_, _, _, _, hl, _⟩ := h
    exact hl
  · obtain ⟨F0, args, Qd, Xd, hl, hA, hs, hQ, hX⟩ := hsp
    obtain ⟨ts, p1, i1⟩ := hb.ex fun cls d _ H => E cls d H
    have al : args.length = vs.length := by
      have z := hA.len
      rw [List.length_map] at z
      exact z
    refine ⟨ts, p1 _ ?_, ?_⟩
    · exact ⟨rfl, rfl, rfl, rfl, rfl, rfl, S.nd, rfl, rfl, hr, takes_of rfl rfl rfl rfl, fun _ _ => rfl, passes_of rfl, fun _ => ⟨rfl, rfl⟩, gd⟩
    · have hh := start_holds N hA
      rw [← al] at hh
      refine i1 (entOf F0 H args) (exOf args Xd) (fun c env F' σ' H' hh' q => hX c H' F' _ (hA.finals hh') q) _ F0 _ H (endsOf args Qd) _ hh (h args Qd Xd hs (al.trans hl)) ⟨fun env F' σ' H' hh' q => ?_, fun env F' σ' H' v r hh' q => hQ v H' F' r _ (hA.finals hh') q, fun _ _ _ _ _ z => z, fun _ _ _ _ _ z => z⟩
      exact hQ .non H' F' (.ext .non) _ (hA.finals (hh'.pushE rfl)) q
end
end HD
namespace HD
open PySem L2
def SqX (b : Bool) (K : PySem.W.Frag) (H : Hp) (a : Addr) (xs : List V) : Prop := if b = true then SqT K H a xs else SqL K H a xs
def ItX (b : Bool) (h : Heap) (it a : Addr) (i : Nat) : Prop := if b = true then h.IsTupleIter it a i else h.IsListIter it a i
def IsX (b : Bool) (h : Heap) (a : Addr) (items : Array Value) : Prop := if b = true then h.IsTuple a items else h.IsList a items
def objX (b : Bool) (a : Addr) : Obj := if b = true then { cls := .type "tuple_iterator", data := .fields #[.ref a, .int 0 0] } else { cls := .type "list_iterator", data := .fields #[.ref a, .int 0 0] }
theorem IsX.lt {b : Bool} {h : Heap} {a : Addr} {items : Array Value} (x : IsX b h a items) : a < h.objs.size := by
  cases b with
  | true =>
    obtain ⟨o, e, _⟩ := (x : h.IsTuple a items)
    exact Heap.lt_size e
  | false =>
    obtain ⟨o, e, _⟩ := (x : h.IsList a items)
    exact Heap.lt_size e
theorem draws_X {prog : Program} {w : World} {A : Around} (b : Bool) (hh : A.handled = none) (it l : Addr) (hne : l ≠ it) (items : Array Value) : Draws prog w A it [it, l] items.size (fun i v => items[i]? = some v) (fun i h => ItX b h it l i ∧ IsX b h l items) := by
  cases b with
  | true => exact Draws.tuple hh it l hne items
  | false => exact Draws.list hh it l hne items
theorem begins_X (b : Bool) (l : Addr) (items : Array Value) : Begins (.ref l) (objX b l) fun h => IsX b h l items := by
  cases b with
  | true => exact begins_tuple l items
  | false => exact begins_list l items
theorem itX_new {b : Bool} {h : Heap} {it a : Addr} (e : h.get? it = some (objX b a)) : ItX b h it a 0 := by
  cases b with
  | true => exact ⟨_, e, rfl, rfl⟩
  | false => exact ⟨_, e, rfl, rfl⟩
theorem ItX.at {b : Bool} {h h' : Heap} {it a : Addr} {i : Nat} (x : ItX b h it a i) (k : ∀ o, h.get? it = some o → h'.get? it = some o) : ItX b h' it a i := by
  cases b with
  | true => exact Heap.IsTupleIter.at (h := h) x k
  | false => exact Heap.IsListIter.at (h := h) x k
theorem ItX.obj {b : Bool} {h : Heap} {it a : Addr} {i : Nat} (x : ItX b h it a i) : ∃ o, h.get? it = some o ∧ ∀ v, o.data ≠ .cell v := by
  cases b with
  | true =>
    obtain ⟨o, e, _, d⟩ := (x : h.IsTupleIter it a i)
    exact ⟨o, e, fun v q => by rw [d] at q; cases q⟩
  | false =>
    obtain ⟨o, e, _, d⟩ := (x : h.IsListIter it a i)
    exact ⟨o, e, fun v q => by rw [d] at q; cases q⟩
theorem Inv.seqX {X : Cx} {pins : List (Addr × Obj)} {σ : L2.St} {H : Hp} {s : Shared} {b : Bool} {a : Addr} {xs : List V} (I : L2.Inv X pins σ H s) (h : SqX b X.K H a xs) : ∃ its : List Value, Vals xs its ∧ IsX b s.heap a its.toArray := by
  cases b with
  | true =>
    obtain ⟨its, r, p, _⟩ := I.tuple h
    exact ⟨its, r, p⟩
  | false =>
    obtain ⟨its, r, p, _⟩ := I.list h
    exact ⟨its, r, p.isList⟩
theorem seqX_inj {X : Cx} {pins : List (Addr × Obj)} {σ : L2.St} {H : Hp} {s : Shared} {b : Bool} {a : Addr} {xs ys : List V} (I : L2.Inv X pins σ H s) (h : SqX b X.K H a xs) (h' : SqX b X.K H a ys) : xs = ys := by
  cases b with
  | true => exact I.tuple_inj h h'
  | false => exact I.list_inj h h'
def seqD (env : Env') (x : Sl) (q : List D → (Env' → Prop) → Prop) : Prop := match x with
  | .ext (.tup ds) => q ds fun _ => True
  | x => iterD env x q
def dZip (ta tb : DT) : DTI := fun Ex env Q => ta Ex env fun x env1 => tb Ex env1 fun y env2 => seqD env2 x fun xs k1 => seqD env2 y fun ys k2 => Q ((xs.zip ys).map fun p => D.tk [p.1, p.2]) (fun env' => k1 env' ∧ k2 env') env2
def Stands (K : PySem.W.Frag) (b : Bool) (a : Addr) (ds : List D) (k : Env' → Prop) (F0 : Hp) : Prop :=
  ∀ (e : Ent) (env : Env') (T : Tmp) (F : Hp) (σ : L2.St) (H : Hp), Holds K e env T F σ H → Same F0 F → k env → ∃ vs, SqX b K H a vs ∧ Reps K F ds vs
theorem Holds.seqD {K : PySem.W.Frag} {e : Ent} {env : Env'} {T : Tmp} {F : Hp} {σ : L2.St} {H : Hp} {v : V} {x : Sl} {q : List D → (Env' → Prop) → Prop} (h : Holds K e env ((v, x) :: T) F σ H) (w : HD.seqD env x q) :
    ∃ b a ds k F1, v = .ref a ∧ q ds k ∧ Same F F1 ∧ Holds K e env T F1 σ H ∧ Stands K b a ds k F1 ∧ k env := by
  have fz : ∀ (ds : List D) (F1 : Hp), Same F F1 → Holds K e env ((v, .ext (.lst ds)) :: T) F1 σ H → q ds (fun _ => True) → ∃ b a ds k F1, v = .ref a ∧ q ds k ∧ Same F F1 ∧ Holds K e env T F1 σ H ∧ Stands K b a ds k F1 ∧ k env := fun ds F1 sm h1 w => by
    obtain ⟨a, vs, rfl, hb, hr⟩ := h1.temps (v, .ext (.lst ds)) List.mem_cons_self
    exact ⟨false, a, ds, _, F1, rfl, w, sm, h1.pop, fun e' env' T' F' σ' H' hh s _ => ⟨vs, SqL.of (hh.fh _ _ (s _ _ hb)), hr.same s⟩, trivial⟩
  cases x with
  | un => exact w.elim
  | reg _ _ => exact w.elim
  | ar i b =>
    have ev : v = .ref b := h.temps (v, .ar i b) List.mem_cons_self
    have w' : (match env[i]? with | some (.reg _ cs) => (match cellOf cs b with | some (.lst ds) => q ds (atC i b ds) | _ => False) | _ => False) := w
    split at w'
    · rename_i d cs hc
      split at w'
      · rename_i ds hd
        refine ⟨false, b, ds, _, F, ev, w', Same.refl _, h.pop, fun e' env' T' F' σ' H' hh s kk => ?_, ⟨d, cs, hc, hd⟩⟩
        obtain ⟨d0, cs0, k1, k2⟩ := kk
        obtain ⟨_, o, hv, vs, rfl, hr⟩ := hh.cell k1 k2
        exact ⟨vs, SqL.of hv, hr⟩
      · exact w'.elim
    · exact w'.elim
  | ext d =>
    cases d with
    | tup ds =>
      obtain ⟨a, vs, rfl, hb, hr⟩ := h.temps (v, .ext (.tup ds)) List.mem_cons_self
      exact ⟨true, a, ds, _, F, rfl, w, Same.refl _, h.pop, fun e' env' T' F' σ' H' hh s _ => ⟨vs, SqT.same hh.fh (SqT.same s hb.sq), hr.same s⟩, trivial⟩
    | lst ds => exact fz ds F (Same.refl _) h w
    | _ => exact w.elim
  | lst b ds =>
    obtain ⟨F1, sm, h1⟩ := h.freezeT
    exact fz ds F1 sm h1 w
  | al i b =>
    have ev : v = .ref b := h.temps (v, .al i b) List.mem_cons_self
    have w' : (match env[i]? with | some (.lst c ds) => c = b ∧ q ds (fun env' => env'[i]? = some (.lst b ds)) | _ => False) := w
    split at w'
    · rename_i c ds hc
      obtain ⟨rfl, w'⟩ := w'
      refine ⟨false, c, ds, _, F, ev, w', Same.refl _, h.pop, fun e' env' T' F' σ' H' hh s kk => ?_, hc⟩
      rcases hh.slots i _ kk with z | ⟨u, hu, e1, e2, vs, hv, hr⟩
      · cases z
      · exact ⟨vs, SqL.of hv, hr⟩
    · exact w'.elim
end HD
namespace HD
open PySem L2
def dCB (f : List D → (Sl → Prop) → Prop) (t : DTA) : DT := fun Ex env Q => t Ex env fun xs env1 => wds env1 xs fun ds => f ds fun sl => Q sl env1
theorem im_cb {K : PySem.W.Frag} {W : WX} {r : List V → Hp → VK → Prop} {f : List D → (Sl → Prop) → Prop} {ta : TA} {t : DTA} (hr : Pr K r f) (h : ImA K W ta t) : Im K W (tCB r ta) (dCB f t) := fun e Ex hl env T F σ H Q R hh ht hR => by
  refine h e Ex hl env T F σ H _ _ hh ht fun vs H1 F1 env1 xs le hh1 q1 => ?_
  obtain ⟨ds, rr, q2⟩ := hh1.wds le (fun p hp => List.mem_append_left _ hp) q1
  exact hr F1 H1 vs ds _ R hh1.fh rr q2 ((hh1.sub (List.sublist_append_right _ _)).done hR)
abbrev RR := Program → World → PySem.W.Frag → List V → Hp → VK → Prop
def BR (id : String) (f : List D → (Sl → Prop) → Prop) : Prop := ∃ r : RR, (∀ P w K, Pr K (r P w K) f) ∧ ∀ X : Cx, X.calm = true → X.A.units + 64 < cLine → CallR X (.builtin id) (r X.prog X.w X.K)
def TR (T : String) (f : List D → (Sl → Prop) → Prop) : Prop := ∃ r : RR, (∀ P w K, Pr K (r P w K) f) ∧ ∀ X : Cx, X.calm = true → X.A.units + 64 < cLine → CallR X (.type T) (r X.prog X.w X.K)
section
variable {G : GG} {N : List Str} {sc : SC} {k : Nat} {e : Expr} {es : List Expr} {x : Str} {id T : String} {f : List D → (Sl → Prop) → Prop} {t : DTA} {p pos : Pos}
theorem de_cb (hr : BR id f) (hm : G.mg x = none) (ha : DAs G N sc k (e :: es) t) (hv : bootBuiltins x = some (.builtin id) := by decide +kernel) (hg : GlS sc x := by rfl) (hn : x ≠ "__name__" := by decide) (hdb : (x == ("__debug__" : Str)) = false := by decide)
    (he : NoStar e es := by intro _; rfl) (hpl : ∀ env, (backTo pos (starEach es env)).any (·.1) = false := by intro _; rfl) : DE G N sc k (.Call (.Name x p) (e :: es) [] pos) (dCB f t) := ⟨fun W => by
  obtain ⟨r, h1, h2⟩ := hr
  obtain ⟨ta, p1, i1⟩ := ha.ex W
  refine ⟨tCB (r G.P G.w G.K) ta, fun X S => ?_, im_cb (h1 _ _ _) i1⟩
  have c := h2 X S.calm S.units
  rw [S.prog, S.w, S.K] at c
  exact pe_callB c (S.gl hg) (by rw [S.mg]; exact hm) hv (p1 X S) hn hdb (he _) (hpl _)⟩
theorem de_ct (hr : TR T f) (hm : G.mg x = none) (ha : DAs G N sc k (e :: es) t) (hv : bootBuiltins x = some (.type T) := by decide +kernel) (hg : GlS sc x := by rfl) (hn : x ≠ "__name__" := by decide) (hdb : (x == ("__debug__" : Str)) = false := by decide)
    (he : NoStar e es := by intro _; rfl) (hpl : ∀ env, (backTo pos (starEach es env)).any (·.1) = false := by intro _; rfl) : DE G N sc k (.Call (.Name x p) (e :: es) [] pos) (dCB f t) := ⟨fun W => by
  obtain ⟨r, h1, h2⟩ := hr
  obtain ⟨ta, p1, i1⟩ := ha.ex W
  refine ⟨tCB (r G.P G.w G.K) ta, fun X S => ?_, im_cb (h1 _ _ _) i1⟩
  have c := h2 X S.calm S.units
  rw [S.prog, S.w, S.K] at c
  exact pe_callTy c (S.gl hg) (by rw [S.mg]; exact hm) hv (p1 X S) hn hdb (he _) (hpl _)⟩
end
def fLen : List D → (Sl → Prop) → Prop
  | [.lst ds], Q => Q (.ext (.int ds.length))
  | [.tup ds], Q => Q (.ext (.int ds.length))
  | [.fz ds], Q => Q (.ext (.int ds.length))
  | [.tk ds], Q => Q (.ext (.int ds.length))
  | [.str z], Q => z.length ≤ sizeLine ∧ Q (.ext (.int z.length))
  | _, _ => False
theorem b_len : BR "len" fLen := ⟨fun _ _ K xs H Q => (∃ p ys, xs = [.ref p] ∧ (SqL K H p ys ∨ SqT K H p ys) ∧ Q (.int ys.length) H) ∨ (∃ z, xs = [.str z] ∧ z.length ≤ sizeLine ∧ Q (.int z.length) H), fun _ _ K F H vs ds Q R fh hr hf ha => by
    unfold fLen at hf
    split at hf
    · obtain ⟨v, rfl, r⟩ := hr.one
      obtain ⟨a, vs, rfl, e1, r1⟩ := r.lst fh
      refine .inl ⟨a, vs, rfl, .inl (SqL.of e1), ?_⟩
      rw [← r1.length]
      exact ha.int fh hf
    · obtain ⟨v, rfl, r⟩ := hr.one
      obtain ⟨a, vs, rfl, e1, _, r1⟩ := r.tup fh
      refine .inl ⟨a, vs, rfl, .inr e1, ?_⟩
      rw [← r1.length]
      exact ha.int fh hf
    · obtain ⟨v, rfl, r⟩ := hr.one
      obtain ⟨a, vs, rfl, e1, r1⟩ := r.fz fh
      refine .inl ⟨a, vs, rfl, .inl e1, ?_⟩
      rw [← r1.length]
      exact ha.int fh hf
    · obtain ⟨v, rfl, r⟩ := hr.one
      obtain ⟨a, vs, rfl, e1, _, r1⟩ := r.tk fh
      refine .inl ⟨a, vs, rfl, .inr e1, ?_⟩
      rw [← r1.length]
      exact ha.int fh hf
    · obtain ⟨v, rfl, r⟩ := hr.one
      exact .inr ⟨_, by rw [r.str], hf.1, ha.int fh hf.2⟩
    · exact hf.elim, fun X _ _ => call_len_seq.or call_len_str⟩
def fMin : List D → (Sl → Prop) → Prop
  | [.int i, .int j], Q => Q (.ext (.int (if j < i then j else i)))
  | [.lst ds], Q => ∃ ns : List Int, ds = ns.map D.int ∧ ns ≠ [] ∧ ∀ m, m ∈ ns → (∀ y, y ∈ ns → m ≤ y) → Q (.ext (.int m))
  | _, _ => False
def fMax : List D → (Sl → Prop) → Prop
  | [.int i, .int j], Q => Q (.ext (.int (if j > i then j else i)))
  | [.lst ds], Q => ∃ ns : List Int, ds = ns.map D.int ∧ ns ≠ [] ∧ ∀ m, m ∈ ns → (∀ y, y ∈ ns → y ≤ m) → Q (.ext (.int m))
  | _, _ => False
theorem b_max : BR "max" fMax := ⟨fun _ _ K xs H Q => (∃ i j, xs = [.int i, .int j] ∧ Q (.int (if j > i then j else i)) H) ∨ rMax K xs H Q, fun _ _ K F H vs ds Q R fh hr hf ha => by
    unfold fMax at hf
    split at hf
    · obtain ⟨v, u, rfl, r1, r2⟩ := hr.two
      exact .inl ⟨_, _, by rw [r1.int, r2.int], ha.int fh hf⟩
    · obtain ⟨v, rfl, r⟩ := hr.one
      obtain ⟨ns, rfl, ne, q⟩ := hf
      obtain ⟨a, vs, rfl, e1, r1⟩ := r.lst fh
      have z := r1.ints
      subst z
      exact .inr ⟨a, ns, rfl, SqL.of e1, List.length_pos_iff.mpr ne, fun m h1 h2 => ha.int fh (q m h1 h2)⟩
    · exact hf.elim, fun X hc _ => (call_max2 hc).or (cr_max hc)⟩
def fSum : List D → (Sl → Prop) → Prop
  | [.lst ds], Q => ∃ ns : List Int, ds = ns.map D.int ∧ Q (.ext (.int ns.sum))
  | _, _ => False
def fAll : List D → (Sl → Prop) → Prop
  | [.lst ds], Q => ∃ bs : List Bool, ds = bs.map D.bl ∧ Q (.ext (.bl (bs.all id)))
  | _, _ => False
def fAny : List D → (Sl → Prop) → Prop
  | [.lst ds], Q => ∃ bs : List Bool, ds = bs.map D.bl ∧ Q (.ext (.bl (bs.any id)))
  | _, _ => False
theorem b_all : BR "all" fAll := ⟨fun _ _ K => rAll K, fun _ _ K F H vs ds Q R fh hr hf ha => by
    unfold fAll at hf
    split at hf
    · obtain ⟨v, rfl, r⟩ := hr.one
      obtain ⟨ns, rfl, q⟩ := hf
      obtain ⟨a, vs, rfl, e1, r1⟩ := r.lst fh
      have z := r1.bls
      subst z
      exact ⟨a, ns, rfl, SqL.of e1, ha.bl fh q⟩
    · exact hf.elim, fun X hc _ => cr_all hc⟩
theorem b_any : BR "any" fAny := ⟨fun _ _ K => rAny K, fun _ _ K F H vs ds Q R fh hr hf ha => by
    unfold fAny at hf
    split at hf
    · obtain ⟨v, rfl, r⟩ := hr.one
      obtain ⟨ns, rfl, q⟩ := hf
      obtain ⟨a, vs, rfl, e1, r1⟩ := r.lst fh
      have z := r1.bls
      subst z
      exact ⟨a, ns, rfl, SqL.of e1, ha.bl fh q⟩
    · exact hf.elim, fun X hc _ => cr_any hc⟩
def fSorted : List D → (Sl → Prop) → Prop
  | [.lst ds], Q => ∃ ns : List Int, ds = ns.map D.int ∧ ∀ (ns' : List Int) (a : Addr), ns'.Perm ns → ns'.Pairwise (· ≤ ·) → Q (.lst a (ns'.map D.int))
  | _, _ => False
theorem b_sorted : BR "sorted" fSorted := ⟨fun _ _ K => rSortedI K, fun _ _ K F H vs ds Q R fh hr hf ha => by
    unfold fSorted at hf
    split at hf
    · obtain ⟨v, rfl, r⟩ := hr.one
      obtain ⟨ns, rfl, q⟩ := hf
      obtain ⟨a, vs, rfl, e1, r1⟩ := r.lst fh
      have z := r1.ints
      subst z
      exact ⟨a, ns, rfl, SqL.of e1, fun ns' p h1 h2 n => ha.lst fh n (Reps.of_ints ns') (q ns' p h1 h2)⟩
    · exact hf.elim, fun X _ _ => cr_sortedI⟩
def fTuple : List D → (Sl → Prop) → Prop
  | [.lst ds], Q => Q (.ext (.tup ds))
  | [.tup ds], Q => Q (.ext (.tup ds))
  | _, _ => False
theorem t_tuple : TR "tuple" fTuple := ⟨fun _ _ K xs H Q => ∃ p ys, xs = [.ref p] ∧ ((SqL K H p ys ∧ newT H ys Q) ∨ (SqT K H p ys ∧ Q (.ref p) H)), fun _ _ K F H vs ds Q R fh hr hf ha => by
    unfold fTuple at hf
    split at hf
    · obtain ⟨v, rfl, r⟩ := hr.one
      obtain ⟨a, vs, rfl, e1, r1⟩ := r.lst fh
      exact ⟨a, vs, rfl, .inl ⟨SqL.of e1, ha.tup fh r1 hf⟩⟩
    · obtain ⟨v, rfl, r⟩ := hr.one
      obtain ⟨a, vs, rfl, e1, e2, r1⟩ := r.tup fh
      exact ⟨a, vs, rfl, .inr ⟨e1, ha.ext (d := .tup _) fh ⟨a, vs, rfl, e2, r1⟩ hf⟩⟩
    · exact hf.elim, fun X _ _ => call_tupleF⟩
def fList : List D → (Sl → Prop) → Prop
  | [.lst ds], Q => ∀ a, Q (.lst a ds)
  | [.tup ds], Q => ∀ a, Q (.lst a ds)
  | [.fz ds], Q => ∀ a, Q (.lst a ds)
  | _, _ => False
theorem t_list : TR "list" fList := ⟨fun _ _ K xs H Q => ∃ p ys, xs = [.ref p] ∧ (SqL K H p ys ∨ SqT K H p ys) ∧ ∀ l, H l = none → Q (.ref l) (upd H l (.lst ys)), fun _ _ K F H vs ds Q R fh hr hf ha => by
    unfold fList at hf
    split at hf
    · obtain ⟨v, rfl, r⟩ := hr.one
      obtain ⟨a, vs, rfl, e1, r1⟩ := r.lst fh
      exact ⟨a, vs, rfl, .inl (SqL.of e1), fun l n => ha.lst fh n r1 (hf l)⟩
    · obtain ⟨v, rfl, r⟩ := hr.one
      obtain ⟨a, vs, rfl, e1, e2, r1⟩ := r.tup fh
      exact ⟨a, vs, rfl, .inr e1, fun l n => ha.lst fh n r1 (hf l)⟩
    · obtain ⟨v, rfl, r⟩ := hr.one
      obtain ⟨a, vs, rfl, e1, r1⟩ := r.fz fh
      exact ⟨a, vs, rfl, .inl e1, fun l n => ha.lst fh n r1 (hf l)⟩
    · exact hf.elim, fun X _ _ => call_list_of⟩
def D.ty : D → String
  | .non => "NoneType"
  | .bl _ => "bool"
  | .int _ => "int"
  | .str _ => "str"
  | .lst _ => "list"
  | .fz _ => "list"
  | .tup _ => "tuple"
  | .tk _ => "tuple"
  | .val _ => "?"
  | .exc _ => "?"
  | .glo _ => "?"
  | .dk _ _ => "?"
  | .dt _ _ => "?"
theorem tyX_of {K : PySem.W.Frag} {H : Hp} {d : D} {v : V} (n : d.noVal = true) (h : Rep K H d v) : TyX K H v (.type d.ty) ∨ ∃ ds, d = .fz ds := by
  cases d with
  | non =>
    have e : v = .non := h
    rw [e]
    exact .inl (.base .non)
  | bl b =>
    have e : v = .bl b := h
    rw [e]
    exact .inl (.base (.bl b))
  | int b =>
    have e : v = .int b := h
    rw [e]
    exact .inl (.base (.int b))
  | str b =>
    have e : v = .str b := h
    rw [e]
    exact .inl (.base (.str b))
  | val u => cases n
  | exc c => cases n
  | glo c => cases n
  | dk _ _ => cases n
  | dt _ _ => cases n
  | fz ds => exact .inr ⟨ds, rfl⟩
  | lst ds =>
    obtain ⟨a, xs, rfl, hs, _⟩ := h
    exact .inl (.base (.lst hs))
  | tup ds =>
    obtain ⟨a, xs, rfl, hs, _⟩ := h
    left
    rcases hs.sq with (hs | ⟨o, hs⟩) | ⟨o, its, m, hs, hc, _⟩
    · exact .base (.tup hs)
    · exact .fTuple hs
    · exact .kTuple hs hc
  | tk ds =>
    obtain ⟨a, xs, rfl, hs, _⟩ := h
    left
    rcases hs with (hs | ⟨o, hs⟩) | ⟨o, its, m, hs, hc, _⟩
    · exact .base (.tup hs)
    · exact .fTuple hs
    · exact .kTuple hs hc
theorem tyX_T {K : PySem.W.Frag} {F H : Hp} {d : D} {v : V} (fh : Same F H) (n : d.noVal = true) (h : RepT K F H d v) (nf : ∀ ds, d ≠ .fz ds) : TyX K H v (.type d.ty) := by
  rcases tyX_of n (h.rep fh) with z | ⟨ds, z⟩
  · exact z
  · exact absurd z (nf ds)
def rIsiS (K : PySem.W.Frag) : List V → Hp → VK → Prop := fun xs H Q => ∃ (x : V) (tp : Addr) (cs : List V) (t : Value) (us : List Value) (b : Bool), xs = [x, .ref tp] ∧ SqT K H tp cs ∧ Paired ClsV cs us ∧ TyX K H x t ∧ PySem.W.kitAny K t us = some b ∧ Q (.bl b) H
theorem call_isiS {X : Cx} : CallR X (.builtin "isinstance") (rIsiS X.K) := by
  intro pins s σ H xs us Q I r h
  obtain ⟨x, tp, cs, t, ws, b, rfl, hT, k, ty, e, q⟩ := h
  obtain ⟨u1, u2, rfl, r1, r2⟩ := vals2 r
  cases (show u2 = Value.ref tp from r2)
  obtain ⟨P, Z, p, hx⟩ := kit_of I r1 ty
  obtain ⟨its, rv, ⟨o, h1, h2, n, h3⟩, _⟩ := I.tuple hT
  have e3 := ClsV.all k rv
  subst e3
  obtain ⟨oc, od, dt, sl⟩ := o
  simp only at h2 h3
  subst h2 h3
  exact PySem.W.kia_tup Z I.kIn p h1 e hx fun tk => ⟨.bl b, H, I.tok tk, rfl, q⟩
def D.isFz : D → Bool
  | .fz _ => true
  | _ => false
def fIsi : List D → (Sl → Prop) → Prop
  | [d, .val (.ty T)], Q => d.noVal = true ∧ d.isFz = false ∧ ∃ b, kitB d.ty T = some b ∧ Q (.ext (.bl b))
  | [d, .tup [.val (.ty T), .val (.ty U)]], Q => d.noVal = true ∧ d.isFz = false ∧ ∃ b c, kitB d.ty T = some b ∧ kitB d.ty U = some c ∧ Q (.ext (.bl (b || c)))
  | _, _ => False
theorem b_isi : BR "isinstance" fIsi := ⟨fun _ _ K xs H Q => rIsi K xs H Q ∨ rIsiS K xs H Q, fun _ _ K F H vs ds Q R fh hr hf ha => by
    unfold fIsi at hf
    split at hf
    · rename_i d T
      obtain ⟨v, u, rfl, r1, r2⟩ := hr.two
      obtain ⟨n, nf, b, hb, q⟩ := hf
      rw [r2.val]
      exact .inl ⟨v, _, _, _, b, rfl, .ty T, tyX_T fh n r1 (fun ds z => by subst z; cases nf), kit_ty hb, ha.bl fh q⟩
    · rename_i d T U
      obtain ⟨v, u, rfl, r1, r2⟩ := hr.two
      obtain ⟨n, nf, b, c, hb, hc, q⟩ := hf
      obtain ⟨a, vs, rfl, e1, _, rr⟩ := r2.tup fh
      obtain ⟨v1, w1, rfl, h1, h2⟩ := rr
      obtain ⟨v2, w2, rfl, h3, h4⟩ := h2
      have z1 : v1 = .ty T := h1
      have z2 : v2 = .ty U := h3
      have z3 : w2 = [] := h4
      subst z1 z2 z3
      refine .inr ⟨v, a, _, _, [.type T, .type U], (b || c), rfl, e1, .cons (.ty T) (.cons (.ty U) .nil), tyX_T fh n r1 (fun ds z => by subst z; cases nf), ?_, ha.bl fh q⟩
      cases b with
      | true => exact kitAny_cons (kit_ty hb) (fun z => nomatch z) (fun _ => rfl)
      | false => exact kitAny_cons (kit_ty hb) (fun _ => kitAny_cons (kit_ty hc) (fun z => by subst z; exact kitAny_nil) (fun z => by subst z; rfl)) (fun z => nomatch z)
    · exact hf.elim, fun X _ _ => call_isi.or call_isiS⟩
def fStr : List D → (Sl → Prop) → Prop
  | [.int i], Q => i.natAbs.log2 < 1920 ∧ Q (.ext (.str (toString i)))
  | _, _ => False
section
variable {G : GG} {N : List Str} {sc : SC} {k : Nat} {a b : Expr} {ta tb : DT} {p p2 pos pos2 : Pos}
structure DRg (G : GG) (N : List Str) (sc : SC) (k : Nat) (e : Expr) (t : DX → Env' → (Int → Int → Env' → Prop) → Prop) : Prop where
  ex : ∀ W : WX, ∃ te, (∀ X, Sit G N sc W k X → PRg X e te) ∧ ∀ (e : Ent) (Ex : DX), Link G.K e W Ex → ∀ (env : Env') (T : Tmp) (F : Hp) (σ : L2.St) (H : Hp) (Q : Int → Int → Env' → Prop) (R : Int → Int → Hp → Prop),
    Holds G.K e env T F σ H → t Ex env Q → (∀ i j H' F' env', Holds G.K e env' T F' σ H' → Q i j env' → R i j H') → te σ H R
def dRg1 (t : DT) : DX → Env' → (Int → Int → Env' → Prop) → Prop := fun Ex env Q => t Ex env fun x env1 => match x with
  | .ext (.int n) => Q 0 n env1
  | _ => False
def dRg2 (t u : DT) : DX → Env' → (Int → Int → Env' → Prop) → Prop := fun Ex env Q => t Ex env fun x env1 => u Ex env1 fun y env2 => match x, y with
  | .ext (.int n), .ext (.int m) => Q n m env2
  | _, _ => False
theorem drg_1 (h : DE G N sc k a ta) (hm : G.mg "range" = none) (hg : GlS sc "range" := by rfl) (na : NoStar a [] := by intro _; rfl) : DRg G N sc k (.Call (.Name "range" p) [a] [] pos) (dRg1 ta) := ⟨fun W => by
  obtain ⟨te, p1, i1⟩ := h.ex W
  refine ⟨tRg1 te, fun X S => prg_1 (S.gl hg) (by rw [S.mg]; exact hm) (p1 X S) (na _), fun e Ex hl env T F σ H Q R hh ht hR => ?_⟩
  refine i1 e Ex hl env T F σ H _ _ hh ht fun v H1 F1 env1 x hh1 q1 => ?_
  cases x with
  | ext d =>
    cases d with
    | int n => exact ⟨n, hh1.temps (v, .ext (.int n)) List.mem_cons_self, hR 0 n H1 F1 env1 hh1.pop q1⟩
    | _ => exact q1.elim
  | _ => exact q1.elim⟩
theorem Reps.rg {K : PySem.W.Frag} {F : Hp} (lo hi : Int) : Reps K F (rgD lo hi) (rgV lo hi) := by
  unfold rgD rgV
  refine Reps.of_get (by rw [List.length_map, List.length_map]) fun i d v h1 h2 => ?_
  rw [List.getElem?_map] at h1 h2
  cases e : (List.range (hi - lo).toNat)[i]? with
  | none =>
    rw [e] at h1
    cases h1
  | some j =>
    rw [e] at h1 h2
    cases h1
    cases h2
    exact rfl
def dLstRg (t : DX → Env' → (Int → Int → Env' → Prop) → Prop) : DT := fun Ex env Q => t Ex env fun lo hi env1 => RgOk lo hi ∧ ∀ a, Q (.lst a (rgD lo hi)) env1
def dTupRg (t : DX → Env' → (Int → Int → Env' → Prop) → Prop) : DT := fun Ex env Q => t Ex env fun lo hi env1 => RgOk lo hi ∧ Q (.ext (.tup (rgD lo hi))) env1
theorem de_listRg {e : Expr} {t : DX → Env' → (Int → Int → Env' → Prop) → Prop} (h : DRg G N sc k e t) (hm : G.mg "list" = none) (hg : GlS sc "list" := by rfl) (na : NoStar e [] := by intro _; rfl) : DE G N sc k (.Call (.Name "list" p) [e] [] pos) (dLstRg t) := ⟨fun W => by
  obtain ⟨te, p1, i1⟩ := h.ex W
  refine ⟨tLstRg te, fun X S => pe_listRg S.calm (S.gl hg) (by rw [S.mg]; exact hm) (p1 X S) (na _), fun e Ex hl env T F σ H Q R hh ht hR => ?_⟩
  refine i1 e Ex hl env T F σ H _ _ hh ht fun lo hi H1 F1 env1 hh1 q1 => ⟨q1.1, fun q n => ?_⟩
  exact (hh1.done hR).lst hh1.fh n (Reps.rg lo hi) (q1.2 q)⟩
theorem de_tupRg {e : Expr} {t : DX → Env' → (Int → Int → Env' → Prop) → Prop} (h : DRg G N sc k e t) (hm : G.mg "tuple" = none) (hg : GlS sc "tuple" := by rfl) (na : NoStar e [] := by intro _; rfl) : DE G N sc k (.Call (.Name "tuple" p) [e] [] pos) (dTupRg t) := ⟨fun W => by
  obtain ⟨te, p1, i1⟩ := h.ex W
  refine ⟨tTupRgF te, fun X S => pe_tupRgF S.calm (S.gl hg) (by rw [S.mg]; exact hm) (p1 X S) (na _), fun e Ex hl env T F σ H Q R hh ht hR => ?_⟩
  refine i1 e Ex hl env T F σ H _ _ hh ht fun lo hi H1 F1 env1 hh1 q1 => ⟨q1.1, ?_⟩
  exact (hh1.done hR).tup hh1.fh (Reps.rg lo hi) q1.2⟩
end
end HD
namespace HD
open PySem PyProof.Rows L2
section
variable {X : Cx} {o e : Expr} {es : List Expr} {to : TE} {t : TA} {name : Str} {apos cpos : Pos}
abbrev FewArgs (o : Expr) (name : Str) (e : Expr) (es : List Expr) (cpos : Pos) : Prop := ∀ env, attributeBase o name env (eval o env) = eval o env ∧
  ((backTo cpos (starEach (e :: es) env)).all (fun x => !x.1) && (backToKw cpos (keywordEach [] env)).all (fun x => x.1.isSome) && decide ((e :: es).length + ([] : List Keyword).length + (if ([] : List Keyword).isEmpty then 0 else 1) < 30)) = true ∧
  starEach (e :: es) env = (false, eval e env) :: starEach es env ∧ (backTo cpos (starEach es env)).any (·.1) = false
def tIndex (K : PySem.W.Frag) (rT rL : V → List V → Hp → VK → Prop) (to : TE) (t : TA) : TE := fun σ H Q => to σ H fun x H1 => ((∃ p xs, x = .ref p ∧ TupD K H1 p xs) ∧ t σ H1 fun xs H2 => rT x xs H2 Q) ∨ ((∃ p xs, x = .ref p ∧ SqL K H1 p xs) ∧ t σ H1 fun xs H2 => rL x xs H2 Q)
theorem pe_bmX {idT idL : String} {rT rL : V → List V → Hp → VK → Prop} (sT : Slot "tuple" name idT) (sL : Slot "list" name idL) (tyT : typeOf (.builtin idT) = pure (.type "method_descriptor")) (tyL : typeOf (.builtin idL) = pure (.type "method_descriptor")) (mT : MtR X idT rT) (mL : MtR X idL rL)
    (ho : PE X o to) (ha : PA X (e :: es) t) (hw : FewArgs o name e es cpos) (hline : (apos.endLine == cpos.line) = true) : PE X (.Call (.Attribute o name apos) (e :: es) [] cpos) (tIndex X.K rT rL to t) := by
  obtain ⟨hbase, hfew, hs, hplain⟩ := hw X.env
  refine ⟨fun pins s σ H Q I h => ?_⟩
  refine wpAny_Call_method_late hbase hfew hline rfl (thn (ho.run pins s σ H _ I h) fun v s1 ⟨x, H1, I1, r1, q1⟩ => ?_)
  rcases q1 with ⟨⟨p, xs, rfl, hT⟩, q1⟩ | ⟨⟨p, xs, rfl, hL⟩, q1⟩
  · obtain ⟨its, _, pt, _⟩ := I1.tuple hT.sq
    cases r1
    refine ⟨"tuple", idT, PySem.F.plainAttrs_tuple, sT, tyT, pt.typeIs, fun a ea => ?_, ?_⟩
    · cases ea
      exact hT.noDict I1
    · have hA := ha.run cpos pins s1 σ H1 _ I1 q1
      rw [hs] at hA ⊢
      refine Calls.callWith_builtin (by show (false || (backTo cpos (starEach es X.env)).any (·.1)) = false; rw [hplain] <;> rfl) (Calls.evalArgs_plain ?_)
      exact thn hA fun us s2 ⟨vs, H2, I2, r2, q2⟩ => mT pins s2 σ H2 (.ref p) vs _ us Q I2 rfl r2 q2
  · have ty : tyV X.K "list" (.ref p) H1 := .inl ⟨rfl, xs, hL⟩
    obtain ⟨h1, h2⟩ := tyV_is I1 r1 ty
    refine ⟨"list", idL, PySem.F.plainAttrs_list, sL, tyL, h1, h2, ?_⟩
    have hA := ha.run cpos pins s1 σ H1 _ I1 q1
    rw [hs] at hA ⊢
    refine Calls.callWith_builtin (by show (false || (backTo cpos (starEach es X.env)).any (·.1)) = false; rw [hplain] <;> rfl) (Calls.evalArgs_plain ?_)
    exact thn hA fun us s2 ⟨vs, H2, I2, r2, q2⟩ => mL pins s2 σ H2 _ vs _ us Q I2 r1 r2 q2
def rIndexT (K : PySem.W.Frag) : V → List V → Hp → VK → Prop := fun x xs H Q => ∃ (a : Addr) (ys : List V) (y : V) (j : Nat) (z : V), x = V.ref a ∧ xs = [y] ∧ SqT K H a ys ∧ flatV y = true ∧ ys.all flatV = true ∧ ys[j]? = some z ∧ eqV z y = true ∧
  (∀ m z', m < j → ys[m]? = some z' → eqV z' y = false) ∧ Q (.int (j : Nat)) H
theorem mt_indexT : MtR X "tuple.index" (rIndexT X.K) := by
  intro pins s σ H x xs v us Q I rx rs h
  obtain ⟨p, ys, y, j, z, rfl, rfl, hq, fy, fys, hz, hit, hno, q⟩ := h
  cases rx
  obtain ⟨u, rfl, ru⟩ := vals1 rs
  obtain ⟨its, r, pl, _⟩ := I.tuple hq
  obtain ⟨⟨cls, dd, dt, sl⟩, ho, hc, n, hd⟩ := pl
  simp only at hc hd
  subst hc
  subst hd
  have hl : its.toArray.size = ys.length := by rw [List.size_toArray, ← r.length]
  have hj : j < its.toArray.size := by rw [hl]; exact (List.getElem?_eq_some_iff.mp hz).1
  have key : ∀ (m : Nat) (hm : m < its.toArray.size) (w : V), ys[m]? = some w → eqU y its.toArray[m] = eqV w y := fun m hm w hw => by
    obtain ⟨iv, hiv, riv⟩ := r.get hw
    have e : its.toArray[m] = iv := by
      have e2 := (List.getElem?_eq_some_iff.mp hiv).2
      rw [← e2]
      simp
    rw [e]
    exact eqU_of riv (List.all_eq_true.mp fys w (List.mem_of_getElem? hw))
  refine call_meets PySem.F.slot_tuple_index ⟨_, ho, rfl⟩ PySem.F.entry_tuple_index (PySem.F.args_tuple_index_2 _ _) (TI.tuple_indexAt p its.toArray n dd sl u (eqU y) j hj ?_ ?_)
    ⟨ho, fun w hw => mem_eqAt ru fy r fys w (by simpa using hw), ⟨.int (j : Nat), H, I.tok _, ⟨_, rfl⟩, q⟩⟩
  · rw [key j hj z hz]
    exact hit
  · intro m hm hmj
    have hm' : m < ys.length := by rw [← hl]; exact hm
    rw [key m hm ys[m] (List.getElem?_eq_getElem hm')]
    exact hno m _ hmj (List.getElem?_eq_getElem hm')
end
def D.at? (d : D) (ds : List D) : Option Nat := ds.findIdx? fun z => eqV z.toV d.toV
def D.isSq : D → Bool
  | .tup _ => true
  | .lst _ => true
  | _ => false
def fIdx (d d' : D) (q : Sl → Prop) : Prop := match d with
  | .tup ds => d'.flat = true ∧ ds.all D.flat = true ∧ ∃ j, d'.at? ds = some j ∧ q (.ext (.int (j : Nat)))
  | .lst ds => d'.flat = true ∧ ds.all D.flat = true ∧ ∃ j, d'.at? ds = some j ∧ q (.ext (.int (j : Nat)))
  | _ => False
def dIndex (to ta : DT) : DT := fun Ex env Q => to Ex env fun x env1 => wd env1 x (fun d => d.isSq = true) ∧ ta Ex env1 fun y env2 => wd env2 x fun d => wd env2 y fun d' => fIdx d d' fun sl => Q sl env2
theorem at?_spec {K : PySem.W.Frag} {F : Hp} {d : D} {ds : List D} {vs : List V} {j : Nat} (r : Reps K F ds vs) (fd : d.flat = true) (fs : ds.all D.flat = true) (h : d.at? ds = some j) :
    flatV d.toV = true ∧ vs.all flatV = true ∧ ∃ z, vs[j]? = some z ∧ eqV z d.toV = true ∧ ∀ m z', m < j → vs[m]? = some z' → eqV z' d.toV = false := by
  obtain ⟨e1, e2⟩ := flat_reps r fs
  unfold D.at? at h
  obtain ⟨hj, h1, h2⟩ := List.findIdx?_eq_some_iff_getElem.mp h
  have fv : flatV d.toV = true := by
    cases d <;> first
      | rfl
      | exact nomatch fd
  refine ⟨fv, e2, ds[j].toV, ?_, h1, fun m z' hm hz => ?_⟩
  · rw [e1, List.getElem?_map, List.getElem?_eq_getElem hj]
    rfl
  · rw [e1, List.getElem?_map] at hz
    have hm' : m < ds.length := Nat.lt_trans hm hj
    rw [List.getElem?_eq_getElem hm'] at hz
    cases hz
    have z := h2 m hm
    simpa using z
section
variable {G : GG} {N : List Str} {sc : SC} {k : Nat} {a b : Expr} {ta tb : DT} {apos cpos p p2 pos pos2 : Pos}
theorem de_index (ha : DE G N sc k a ta) (hb : DE G N sc k b tb) (hw : FewArgs a "index" b [] cpos := by intro _; exact ⟨rfl, rfl, rfl, rfl⟩) (hline : (apos.endLine == cpos.line) = true := by rfl) : DE G N sc k (.Call (.Attribute a "index" apos) [b] [] cpos) (dIndex ta tb) := ⟨fun W => by
  obtain ⟨te, p1, i1⟩ := ha.ex W
  obtain ⟨tf, p2, i2⟩ := hb.ex W
  refine ⟨tIndex G.K (rIndexT G.K) (rIndex G.K) te (tCons tf tNil), fun X S => ?_, fun e Ex hl env T F σ H Q R hh ht hR => ?_⟩
  · rw [← S.K]
    exact pe_bmX PySem.F.slot_tuple_index PySem.F.slot_list_index PySem.F.type_tuple_index PySem.F.type_list_index mt_indexT mt_index (p1 X S) (pa_cons (p2 X S) pa_nil (hw X.env).2.2.1) hw hline
  · refine i1 e Ex hl env T F σ H _ _ hh ht fun v H1 F1 env1 x hh1 q1 => ?_
    obtain ⟨q0, q1⟩ := q1
    obtain ⟨d0, rd0, _⟩ := hh1.wd (v := v) (sl := x) List.mem_cons_self q0
    have finT : ∀ (u : V) (H2 F2 : Hp) (env2 : Env') (y : Sl) (ds : List D), Holds G.K e env2 ((u, y) :: (v, x) :: T) F2 σ H2 → RepT G.K F2 H2 (.tup ds) v → (HD.wd env2 y fun d' => fIdx (.tup ds) d' fun sl => Q sl env2) → rIndexT G.K v [u] H2 R := fun u H2 F2 env2 y ds hh2 rd q3 => by
      obtain ⟨d', rd', f1, f2, j, hj, q5⟩ := hh2.wd (v := u) (sl := y) List.mem_cons_self q3
      obtain ⟨c, vs, rfl, e1, _, r1⟩ := rd.tup hh2.fh
      obtain ⟨x1, _⟩ := flat_rep (rd'.rep hh2.fh) f1
      obtain ⟨g1, g2, z, g3, g4, g5⟩ := at?_spec r1 f1 f2 hj
      rw [x1]
      exact ⟨c, vs, _, j, z, rfl, rfl, e1, g1, g2, g3, g4, g5, (hh2.pop.pop.done hR).int hh2.fh q5⟩
    have finL : ∀ (u : V) (H2 F2 : Hp) (env2 : Env') (y : Sl) (ds : List D), Holds G.K e env2 ((u, y) :: (v, x) :: T) F2 σ H2 → RepT G.K F2 H2 (.lst ds) v → (HD.wd env2 y fun d' => fIdx (.lst ds) d' fun sl => Q sl env2) → rIndex G.K v [u] H2 R := fun u H2 F2 env2 y ds hh2 rd q3 => by
      obtain ⟨d', rd', f1, f2, j, hj, q5⟩ := hh2.wd (v := u) (sl := y) List.mem_cons_self q3
      obtain ⟨c, vs, rfl, e1, r1⟩ := rd.lst hh2.fh
      obtain ⟨x1, _⟩ := flat_rep (rd'.rep hh2.fh) f1
      obtain ⟨g1, g2, z, g3, g4, g5⟩ := at?_spec r1 f1 f2 hj
      rw [x1]
      exact ⟨c, vs, _, j, z, rfl, rfl, SqL.of e1, g1, g2, g3, g4, g5, (hh2.pop.pop.done hR).int hh2.fh q5⟩
    have never : ∀ (d : D), (∀ ds, d ≠ .tup ds) → (∀ ds, d ≠ .lst ds) → ∀ d' (q : Sl → Prop), ¬ fIdx d d' q := fun d h1 h2 d' q z => by
      cases d <;> first
        | exact h1 _ rfl
        | exact h2 _ rfl
        | exact z
    cases x with
    | un => exact q0.elim
    | ext d =>
      have rd : Rep G.K F1 d v := hh1.temps (v, .ext d) List.mem_cons_self
      by_cases ht : ∃ ds, d = .tup ds
      · obtain ⟨ds, rfl⟩ := ht
        obtain ⟨c, vs, rfl, e2, _⟩ := rd
        refine .inl ⟨⟨c, vs, rfl, TupD.same hh1.fh e2⟩, ?_⟩
        exact i2 e Ex hl env1 _ F1 σ H1 _ _ hh1 q1 fun u H2 F2 env2 y hh2 q2 => finT u H2 F2 env2 y ds hh2 (.inl (hh2.temps (_, .ext (.tup ds)) (List.mem_cons_of_mem _ List.mem_cons_self))) q2
      · by_cases hl' : ∃ ds, d = .lst ds
        · obtain ⟨ds, rfl⟩ := hl'
          obtain ⟨c, vs, rfl, e2, _⟩ := rd
          refine .inr ⟨⟨c, vs, rfl, SqL.of (hh1.fh _ _ e2)⟩, ?_⟩
          exact i2 e Ex hl env1 _ F1 σ H1 _ _ hh1 q1 fun u H2 F2 env2 y hh2 q2 => finL u H2 F2 env2 y ds hh2 (.inl (hh2.temps (_, .ext (.lst ds)) (List.mem_cons_of_mem _ List.mem_cons_self))) q2
        · have q0' : d.isSq = true := q0
          cases d <;> first
            | exact absurd ⟨_, rfl⟩ ht
            | exact absurd ⟨_, rfl⟩ hl'
            | exact nomatch q0'
    | lst b ds =>
      obtain ⟨rfl, _, vs, hv, _⟩ := hh1.temps (v, .lst b ds) List.mem_cons_self
      refine .inr ⟨⟨b, vs, rfl, SqL.of hv⟩, ?_⟩
      refine i2 e Ex hl env1 _ F1 σ H1 _ _ hh1 q1 fun u H2 F2 env2 y hh2 q2 => ?_
      obtain ⟨_, _, us, hu, hr⟩ := hh2.temps (V.ref b, .lst b ds) (List.mem_cons_of_mem _ List.mem_cons_self)
      exact finL u H2 F2 env2 y ds hh2 (.inr ⟨b, ds, us, rfl, rfl, hu, hr⟩) q2
    | reg _ _ => exact q0.elim
    | ar i b =>
      obtain rfl : v = .ref b := hh1.temps (v, .ar i b) List.mem_cons_self
      have q0' : (match env1[i]? with | some (.reg _ cs) => (match cellOf cs b with | some (.lst ds) => (D.lst ds).isSq = true | _ => False) | _ => False) := q0
      split at q0'
      · rename_i d0 cs hc
        split at q0'
        · rename_i ds0 hd0
          obtain ⟨_, o, hv, vs, rfl, _⟩ := hh1.cell hc hd0
          refine .inr ⟨⟨b, vs, rfl, SqL.of hv⟩, ?_⟩
          refine i2 e Ex hl env1 _ F1 σ H1 _ _ hh1 q1 fun u H2 F2 env2 y hh2 q2 => ?_
          have w' : (match env2[i]? with | some (.reg _ cs) => (match cellOf cs b with | some (.lst ds) => HD.wd env2 y (fun d' => fIdx (.lst ds) d' fun sl => Q sl env2) | _ => False) | _ => False) := q2
          split at w'
          · rename_i d1 cs1 hc1
            split at w'
            · rename_i ds hd1
              obtain ⟨_, o1, hv1, us, rfl, hr⟩ := hh2.cell hc1 hd1
              exact finL u H2 F2 env2 y ds hh2 (.inr ⟨b, ds, us, rfl, rfl, hv1, hr⟩) w'
            · exact w'.elim
          · exact w'.elim
        · exact q0'.elim
      · exact q0'.elim
    | al i b =>
      obtain rfl : v = .ref b := hh1.temps (v, .al i b) List.mem_cons_self
      have q0' : (match env1[i]? with | some (.lst c ds) => c = b ∧ (D.lst ds).isSq = true | _ => False) := q0
      split at q0'
      · rename_i c ds0 hc
        obtain ⟨rfl, _⟩ := q0'
        rcases hh1.slots i _ hc with z | ⟨_, _, _, _, vs, hv, _⟩
        · cases z
        · refine .inr ⟨⟨c, vs, rfl, SqL.of hv⟩, ?_⟩
          refine i2 e Ex hl env1 _ F1 σ H1 _ _ hh1 q1 fun u H2 F2 env2 y hh2 q2 => ?_
          have w' : (match env2[i]? with | some (.lst c' ds) => c' = c ∧ HD.wd env2 y (fun d' => fIdx (.lst ds) d' fun sl => Q sl env2) | _ => False) := q2
          split at w'
          · rename_i c' ds hc'
            obtain ⟨rfl, w'⟩ := w'
            rcases hh2.slots i _ hc' with z | ⟨_, _, _, _, us, hu, hr⟩
            · cases z
            · exact finL u H2 F2 env2 y ds hh2 (.inr ⟨c', ds, us, rfl, rfl, hu, hr⟩) w'
          · exact w'.elim
      · exact q0'.elim⟩
end
end HD
namespace HD
open PySem PyProof.Rows L2
abbrev DMut := List D → (D → List D → Prop) → Prop
def mutD (env : Env') (i : Nat) (a : Addr) (f : DMut) (Q : Sl → Env' → Prop) : Prop := match env[i]? with
  | some (.lst b ds) => b = a ∧ f ds fun d ds' => Q (.ext d) (env.set i (.lst a ds'))
  | _ => False
def PrM (K : PySem.W.Frag) (r : V → List V → Hp → VK → Prop) (vs : List V) (a : Addr) (F H : Hp) (ds : List D) (f : DMut) : Prop :=
  ∀ (q : D → List D → Prop) (R : VK), f ds q → (∀ v d us ds', Rep K F d v → Reps K F ds' us → q d ds' → R v (upd H a (.lst us))) → r (.ref a) vs H R
theorem Holds.mut {K : PySem.W.Frag} {e : Ent} {env : Env'} {T : Tmp} {F : Hp} {σ : L2.St} {H : Hp} {i : Nat} {a : Addr} {f : DMut} {Q : Sl → Env' → Prop} {R : VK} {r : V → List V → Hp → VK → Prop} {vs : List V} (h : Holds K e env T F σ H) (w : mutD env i a f Q)
    (hr : ∀ ds us, H a = some (.lst us) → Reps K F ds us → PrM K r vs a F H ds f) (hR : ∀ v H' F' env' sl, Holds K e env' ((v, sl) :: T) F' σ H' → Q sl env' → R v H') : r (.ref a) vs H R := by
  unfold mutD at w
  split at w
  · rename_i b ds hb
    obtain ⟨rfl, w⟩ := w
    rcases h.slots i _ hb with z | ⟨u, hu, e1, e2, us, hv, rr⟩
    · cases z
    · refine hr ds us hv rr _ R w fun v d us' ds' rd rs q => ?_
      exact hR v _ F _ (.ext d) ((h.write hb rs).pushE rd) q
  · exact w.elim
section
variable {G : GG} {N : List Str} {sc : SC} {k : Nat} {a b : Expr} {ta tb : DT} {apos cpos p p2 pos pos2 py : Pos} {x : Str}
abbrev VisV (N : List Str) (sc : SC) (i : Nat) (x : Str) : Prop := N[i]? = some x ∧ Vis sc.sc x ∧ (x == ("__debug__" : Str)) = false ∧ (x == ("__classdict__" : Str)) = false
def dAppend (i : Nat) (t : DT) : DT := fun Ex env Q => match env[i]? with
  | some (.lst a _) => t Ex env fun x env1 => frzD env1 x fun d env2 => mutD env2 i a (fun ds q => ds.length < sizeLine ∧ q .non (ds ++ [d])) Q
  | _ => False
theorem de_append (i : Nat) (hb : DE G N sc k b tb) (hw : FewArgs (.Name x py) "append" b [] cpos := by intro _; exact ⟨rfl, rfl, rfl, rfl⟩) (hv : VisV N sc i x := by exact ⟨rfl, by first | exact Or.inl rfl | exact Or.inr (Or.inl rfl) | exact Or.inr (Or.inr rfl), by decide, by decide⟩) (hline : (apos.endLine == cpos.line) = true := by rfl) :
    DE G N sc k (.Call (.Attribute (.Name x py) "append" apos) [b] [] cpos) (dAppend i tb) := ⟨fun W => by
  obtain ⟨tf, p2, i2⟩ := hb.ex W
  refine ⟨tBM G.K "list" rAppend (tVar i) (tCons tf tNil), fun X S => ?_, fun e Ex hl env T F σ H Q R hh ht hR => ?_⟩
  · obtain ⟨hbase, hfew, hs, hplain⟩ := hw X.env
    rw [← S.K]
    exact pe_bm PySem.F.plainAttrs_list PySem.F.slot_list_append PySem.F.type_list_append mt_append (pe_var (by rw [S.nms]; exact hv.1) (S.vis hv.2.1) hv.2.2.1 hv.2.2.2) (pa_cons (p2 X S) pa_nil hs) hbase hfew hline hs hplain
  · unfold dAppend at ht
    split at ht
    · rename_i c ds0 hc
      rcases hh.slots i _ hc with z | ⟨v0, hv0, e0, _, us0, hu0, _⟩
      · cases z
      · subst e0
        refine ⟨_, hv0, .inl ⟨rfl, us0, SqL.of hu0⟩, ?_⟩
        refine i2 e Ex hl env T F σ H _ _ hh ht fun u H2 F2 env2 y hh2 q2 => ?_
        obtain ⟨d, F3, env3, _, hh3, rd, q3⟩ := hh2.frz1 q2
        show rAppend (.ref c) [u] H2 R
        refine hh3.mut q3 (fun ds us hu rr q R' hf hk => ?_) hR
        obtain ⟨hz, hf⟩ := hf
        exact ⟨c, us, u, rfl, rfl, hu, by rw [← rr.length]; exact hz, hk .non .non _ _ rfl (rr.append (.one rd)) hf⟩
    · exact ht.elim⟩
def dExtend (i : Nat) (t : DT) : DT := fun Ex env Q => match env[i]? with
  | some (.lst a _) => t Ex env fun x env1 => wd env1 x fun d => match d with
    | .lst es => mutD env1 i a (fun ds q => ds.length + es.length ≤ sizeLine ∧ q .non (ds ++ es)) Q
    | _ => False
  | _ => False
theorem de_extend (i : Nat) (hb : DE G N sc k b tb) (hw : FewArgs (.Name x py) "extend" b [] cpos := by intro _; exact ⟨rfl, rfl, rfl, rfl⟩) (hv : VisV N sc i x := by exact ⟨rfl, by first | exact Or.inl rfl | exact Or.inr (Or.inl rfl) | exact Or.inr (Or.inr rfl), by decide, by decide⟩) (hline : (apos.endLine == cpos.line) = true := by rfl) :
    DE G N sc k (.Call (.Attribute (.Name x py) "extend" apos) [b] [] cpos) (dExtend i tb) := ⟨fun W => by
  obtain ⟨tf, p2, i2⟩ := hb.ex W
  refine ⟨tBM G.K "list" rExtend (tVar i) (tCons tf tNil), fun X S => ?_, fun e Ex hl env T F σ H Q R hh ht hR => ?_⟩
  · obtain ⟨hbase, hfew, hs, hplain⟩ := hw X.env
    rw [← S.K]
    exact pe_bm PySem.F.plainAttrs_list PySem.F.slot_list_extend PySem.F.type_list_extend mt_extend (pe_var (by rw [S.nms]; exact hv.1) (S.vis hv.2.1) hv.2.2.1 hv.2.2.2) (pa_cons (p2 X S) pa_nil hs) hbase hfew hline hs hplain
  · unfold dExtend at ht
    split at ht
    · rename_i c ds0 hc
      rcases hh.slots i _ hc with z | ⟨v0, hv0, e0, _, us0, hu0, _⟩
      · cases z
      · subst e0
        refine ⟨_, hv0, .inl ⟨rfl, us0, SqL.of hu0⟩, ?_⟩
        refine i2 e Ex hl env T F σ H _ _ hh ht fun u H2 F2 env2 y hh2 q2 => ?_
        obtain ⟨d, rd, q3⟩ := hh2.wd (v := u) (sl := y) List.mem_cons_self q2
        cases d with
        | lst es =>
          obtain ⟨c2, us2, rfl, hu2, rr2⟩ := rd.lst hh2.fh
          show rExtend (.ref c) [.ref c2] H2 R
          refine hh2.pop.mut q3 (fun ds us hu rr q R' hf hk => ?_) hR
          obtain ⟨hz, hf⟩ := hf
          exact ⟨c, c2, us, us2, rfl, rfl, hu, hu2, by rw [← rr.length, ← rr2.length]; exact hz, hk .non .non _ _ rfl (rr.append rr2) hf⟩
        | _ => exact q3.elim
    · exact ht.elim⟩
def dPopAt (i : Nat) (t : DT) : DT := fun Ex env Q => match env[i]? with
  | some (.lst a _) => t Ex env fun x env1 => match x with
    | .ext (.int n) => mutD env1 i a (fun ds q => 0 ≤ n ∧ n < 2 ^ 63 ∧ ∃ d, ds[n.toNat]? = some d ∧ q d (ds.eraseIdx n.toNat)) Q
    | _ => False
  | _ => False
theorem de_popAt (i : Nat) (hb : DE G N sc k b tb) (hw : FewArgs (.Name x py) "pop" b [] cpos := by intro _; exact ⟨rfl, rfl, rfl, rfl⟩) (hv : VisV N sc i x := by exact ⟨rfl, by first | exact Or.inl rfl | exact Or.inr (Or.inl rfl) | exact Or.inr (Or.inr rfl), by decide, by decide⟩) (hline : (apos.endLine == cpos.line) = true := by rfl) :
    DE G N sc k (.Call (.Attribute (.Name x py) "pop" apos) [b] [] cpos) (dPopAt i tb) := ⟨fun W => by
  obtain ⟨tf, p2, i2⟩ := hb.ex W
  refine ⟨tBM G.K "list" rPopAt (tVar i) (tCons tf tNil), fun X S => ?_, fun e Ex hl env T F σ H Q R hh ht hR => ?_⟩
  · obtain ⟨hbase, hfew, hs, hplain⟩ := hw X.env
    rw [← S.K]
    exact pe_bm PySem.F.plainAttrs_list PySem.F.slot_list_pop PySem.F.type_list_pop mt_popAt (pe_var (by rw [S.nms]; exact hv.1) (S.vis hv.2.1) hv.2.2.1 hv.2.2.2) (pa_cons (p2 X S) pa_nil hs) hbase hfew hline hs hplain
  · unfold dPopAt at ht
    split at ht
    · rename_i c ds0 hc
      rcases hh.slots i _ hc with z | ⟨v0, hv0, e0, _, us0, hu0, _⟩
      · cases z
      · subst e0
        refine ⟨_, hv0, .inl ⟨rfl, us0, SqL.of hu0⟩, ?_⟩
        refine i2 e Ex hl env T F σ H _ _ hh ht fun u H2 F2 env2 y hh2 q2 => ?_
        cases y with
        | ext d =>
          cases d with
          | int n =>
            have eu : u = .int n := hh2.temps (u, .ext (.int n)) List.mem_cons_self
            show rPopAt (.ref c) [u] H2 R
            refine hh2.pop.mut q2 (fun ds us hu rr q R' hf hk => ?_) hR
            obtain ⟨h0, h1, d, hd, hf⟩ := hf
            obtain ⟨v, hv', rd⟩ := rr.get hd
            have hlt : n.toNat < us.length := (List.getElem?_eq_some_iff.mp hv').1
            refine ⟨c, us, n, n.toNat, v, rfl, by rw [eu], hu, Int.le_trans (by decide) h0, h1, ?_, hv', hk v d _ _ rd (rr.eraseIdx _) hf⟩
            obtain ⟨m, rfl⟩ := Int.eq_ofNat_of_zero_le h0
            exact (ixN_seq (n := us.length) (i := (m : Int)) (j := m) (by
              unfold ixN
              rw [if_pos h0, if_pos (by rw [Int.toNat_natCast] at hlt; omega)]
              rfl)).1
          | _ => exact q2.elim
        | _ => exact q2.elim
    · exact ht.elim⟩
def dPop (i : Nat) : DT := fun Ex env Q => match env[i]? with
  | some (.lst a _) => mutD env i a (fun ds q => ∃ d, ds[ds.length - 1]? = some d ∧ q d ds.dropLast) Q
  | _ => False
def sSetItem (i : Nat) (tI te : DT) : DTS := fun Ex E env => te Ex env fun y env0 => frzD env0 y fun d env1 => match env1[i]? with
  | some (.lst a _) => tI Ex env1 fun z env2 => match z with
    | .ext (.int n) => match env2[i]? with
      | some (.lst b ds) => b = a ∧ ∃ j, ixN ds.length n = some j ∧ E.nx (env2.set i (.lst a (ds.set j d)))
      | _ => False
    | _ => False
  | _ => False
theorem ds_setitem {spos : Pos} (i : Nat) (hb : DE G N sc k b tb) (ha : DE G N sc k a ta) (hv : VisV N sc i x := by exact ⟨rfl, by first | exact Or.inl rfl | exact Or.inr (Or.inl rfl) | exact Or.inr (Or.inr rfl), by decide, by decide⟩)
    (hs : ∀ env, swapsWithSole [.Subscript (.Name x py) b spos] a pos.line env = pure false := by intro _; rfl) (hw : ∀ env, swappedStores [.Subscript (.Name x py) b spos] a env = pure none := by intro _; rfl)
    (h1 : ∀ env, (assignEach [.Subscript (.Name x py) b spos] env).map (·.2) = [assign (.Subscript (.Name x py) b spos) env] := by intro _; rfl)
    (h2 : ∀ env v, assign (.Subscript (.Name x py) b spos) env v = (do
      let ov ← holding [v] (eval (.Name x py) env)
      let iv ← holding [v, ov] (eval b env)
      standAt spos
      holding [v, ov, iv] (setItem ov iv v)
      release [v, ov, iv] []) := by intro _ _; rfl) :
    DS G N sc k (.Assign [.Subscript (.Name x py) b spos] a pos) (sSetItem i tb ta) := ⟨fun W => by
  obtain ⟨te, p1, i1⟩ := ha.ex W
  obtain ⟨tf, p2, i2⟩ := hb.ex W
  refine ⟨tAsg te (gSub (tVar i) tf rSetL), fun X S => ?_, fun e Ex hl env F σ H E Dn hh ht ok => ?_⟩
  · exact ps_asg (p1 X S) (pg_sub (pe_var (by rw [S.nms]; exact hv.1) (S.vis hv.2.1) hv.2.2.1 hv.2.2.2) (p2 X S) set_list (h2 _)) (hs _) (hw _) (h1 _)
  · refine i1 e Ex hl env [] F σ H _ _ hh ht fun v H1 F1 env0 y hh1 q1 => ?_
    obtain ⟨d, F2, env1, _, hh2, rd, q2⟩ := hh1.frz1 q1
    split at q2
    · rename_i c ds0 hc
      rcases hh2.slots i _ hc with z | ⟨v0, hv0, e0, _⟩
      · cases z
      · subst e0
        refine ⟨_, hv0, ?_⟩
        refine i2 e Ex hl env1 [(v, .ext d)] F2 σ H1 _ _ (hh2.pushE rd) q2 fun u H3 F3 env3 z hh3 q3 => ?_
        have rd3 : Rep G.K F3 d v := hh3.temps (v, .ext d) (List.mem_cons_of_mem _ List.mem_cons_self)
        cases z with
        | ext dz =>
          cases dz with
          | int n =>
            have eu : u = .int n := hh3.temps (u, .ext (.int n)) List.mem_cons_self
            have q3' : (match env3[i]? with | some (.lst b ds) => b = c ∧ ∃ j, ixN ds.length n = some j ∧ E.nx (env3.set i (.lst c (ds.set j d))) | _ => False) := q3
            split at q3'
            · rename_i c' ds hc'
              obtain ⟨rfl, j, hj, q4⟩ := q3'
              rcases hh3.slots i _ hc' with z | ⟨_, _, _, _, us, hu, rr⟩
              · cases z
              · exact ⟨c', us, n, j, rfl, eu, hu, by rw [← rr.length]; exact hj, ok.nx _ F3 σ _ (hh3.bare.write hc' (rr.set j rd3)) q4⟩
            · exact q3'.elim
          | _ => exact q3.elim
        | _ => exact q3.elim
    · exact q2.elim⟩
end
def rSetT (K : PySem.W.Frag) (w : World) : List V → Hp → VK → Prop := fun xs H Q => ∃ (a : Addr) (ns : List Int), xs = [.ref a] ∧ SqT K H a (ns.map V.int) ∧ ns.length + 1 < scanBound ∧ ∀ (p : Addr) (c : Nat), H p = none → c ≤ ns.length → Q (.ref p) (upd H p (SetO w p (fun j => decide (j ∈ ns)) c))
theorem cr_setT {X : Cx} (hc : X.calm = true) : CallR X (.type "set") (rSetT X.K X.w) := by
  intro pins s σ H xs us Q I r h
  obtain ⟨a, ns, rfl, hq, hb, q⟩ := h
  rw [Vals.ref1 r]
  obtain ⟨its, r', pl, _⟩ := I.tuple hq
  refine call_set_tupI ns (I.ok.hd hc) (show s.heap.IsTuple a its.toArray from pl) (by rw [List.toList_toArray]; exact intsAre_of r') hb fun h' tk c R hc' hk => ?_
  have hn : H s.heap.objs.size = none := I.hok.fresh (Nat.le_refl _)
  exact ⟨.ref s.heap.objs.size, _, I.laid (t' := tk) hk (Nat.le_refl _) (setO_new R), rfl, q _ c hn hc'⟩
section
variable {G : GG} {N : List Str} {sc : SC} {k : Nat} {a : Expr} {ta : DT} {p p2 pos pos2 : Pos}
def dSortSet (t : DT) : DT := fun Ex env Q => t Ex env fun x env1 => wd env1 x fun d => match d with
  | .tup ds => ∃ ns : List Int, ds = ns.map D.int ∧ ns.length < 64 ∧ ∀ (ns' : List Int) (b : Addr), ns'.Pairwise (· < ·) → (∀ n : Int, n ∈ ns' ↔ n ∈ ns) → Q (.lst b (ns'.map D.int)) env1
  | _ => False
theorem de_sortset (ha : DE G N sc k a ta) (hm : G.mg "sorted" = none) (hm2 : G.mg "set" = none) (hg : GlS sc "sorted" := by rfl) (hg2 : GlS sc "set" := by rfl) (n1 : NoStar a [] := by intro _; rfl) (n2 : NoStar (.Call (.Name "set" p2) [a] [] pos2) [] := by intro _; rfl) (hp1 : ∀ env, (backTo pos (starEach [] env)).any (·.1) = false := by intro _; rfl) (hp2 : ∀ env, (backTo pos2 (starEach [] env)).any (·.1) = false := by intro _; rfl) :
    DE G N sc k (.Call (.Name "sorted" p) [.Call (.Name "set" p2) [a] [] pos2] [] pos) (dSortSet ta) := ⟨fun W => by
  obtain ⟨te, p1, i1⟩ := ha.ex W
  refine ⟨tCB (rSortedSet G.w) (tCons (tCB (rSetT G.K G.w) (tCons te tNil)) tNil), fun X S => ?_, fun e Ex hl env T F σ H Q R hh ht hR => ?_⟩
  · have c1 := cr_sortedSet (X := X) S.calm
    have c2 := cr_setT (X := X) S.calm
    rw [S.w] at c1
    rw [S.w, S.K] at c2
    exact pe_callB c1 (S.gl hg) (by rw [S.mg]; exact hm) (by decide +kernel) (pa_cons (pe_callTy c2 (S.gl hg2) (by rw [S.mg]; exact hm2) (by decide +kernel) (pa_cons (p1 X S) pa_nil (n1 _)) (by decide) (by decide) (n1 _) (hp2 _)) pa_nil (n2 _)) (by decide) (by decide) (n2 _) (hp1 _)
  · refine i1 e Ex hl env T F σ H _ _ hh ht fun v H1 F1 env1 x hh1 q1 => ?_
    obtain ⟨d, rd, q2⟩ := hh1.wd (v := v) (sl := x) List.mem_cons_self q1
    cases d with
    | tup ds =>
      obtain ⟨ns, rfl, hl64, q⟩ := q2
      obtain ⟨c, vs, rfl, e1, _, r1⟩ := rd.tup hh1.fh
      have z := r1.ints
      subst z
      refine ⟨c, ns, rfl, e1, Nat.lt_of_lt_of_le (Nat.add_lt_add_right hl64 1) (by decide), fun p' cn hn hc => ?_⟩
      refine ⟨p', _, cn, rfl, upd_same, Nat.lt_of_le_of_lt hc hl64, fun ns' p'' h1 h2 h3 hn2 => ?_⟩
      have aft := (hh1.pop.done hR).more (o := SetO G.w p' (fun j => decide (j ∈ ns)) cn) hh1.fh hn
      refine aft.lst (Grow.loose hh1.fh hn).fh hn2 (Reps.of_ints ns') (q ns' p'' h1 fun n => ?_)
      rw [h2 n]
      exact decide_eq_true_iff
    | _ => exact q2.elim⟩
end
end HD
namespace HD
open PySem PyProof.Rows L2
abbrev Tab := List (Str × Int)
def dTable (tab : Tab) (i : Nat) : DT := fun _ env Q => match env[i]? with
  | some (.ext (.str w)) => ∃ n, tab.lookup w = some n ∧ Q (.ext (.int n)) env
  | _ => False
structure Blt (G : GG) : Prop where
  len : G.mg "len" = none
  range : G.mg "range" = none
  sorted : G.mg "sorted" = none
  set : G.mg "set" = none
  tuple : G.mg "tuple" = none
  list : G.mg "list" = none
  dict : G.mg "dict" = none
  zip : G.mg "zip" = none
  enumerate : G.mg "enumerate" = none
  all : G.mg "all" = none
  any : G.mg "any" = none
  sum : G.mg "sum" = none
  min : G.mg "min" = none
  max : G.mg "max" = none
  isinstance : G.mg "isinstance" = none
  str : G.mg "str" = none
  int : G.mg "int" = none
  repr : G.mg "repr" = none
  bool : G.mg "bool" = none
def lawSpec (n : Nat) : DSpec := fun args Q _ => ∃ ns : List Int, args = [.ext (.fz (ns.map D.int))] ∧ ns.length ≤ n ∧ ∀ fin, Q (.ext (.bl true)) fin
theorem law_sp {K : PySem.W.Frag} {n : Nat} {H : Hp} {a : Addr} {ns : List Int} (hl : ns.length ≤ n) (hS : SqL K H a (ns.map V.int)) : toSp K 1 (lawSpec n) [.ref a] H (fun v _ => v = .bl true) fun _ _ _ => False := by
  have r : Reps K H [.fz (ns.map D.int)] [.ref a] := ⟨_, _, rfl, ⟨a, _, rfl, hS, Reps.of_ints ns⟩, rfl⟩
  refine ⟨H, [.ext (.fz (ns.map D.int))], fun r _ => r = .ext (.bl true), fun _ _ => False, rfl, argsE (Same.refl _) r, ⟨ns, rfl, hl, fun _ => rfl⟩, fun v H' F' r fin hf hq => ?_, fun _ _ _ _ _ z => z⟩
  subst hq
  exact hf.temps (v, .ext (.bl true)) List.mem_cons_self
theorem cx_no {P : Program} {w : World} (H : Hp) (s : Shared) (e : Value) (s' : Shared) (h : L2.CX P w [] H s (fun _ _ _ => False) e s') : False := by
  obtain ⟨_, _, _, _, _, _, _, _, _, _, _, _, z⟩ := h
  exact z
end HD
namespace HD
open PySem PyProof.Rows L2
def iSeq (K : PySem.W.Frag) (tl : TE) : TI := fun σ H R => tl σ H fun x H1 => ∃ a, x = .ref a ∧ (((∃ xs, SqL K H1 a xs) ∧ R (Itl K a) H1) ∨ ((∃ xs, SqT K H1 a xs) ∧ R (Itt K a) H1))
theorem pi_seq {X : Cx} {tg l : Expr} {tl : TE} (hl : PE X l tl) : PI X tg l (iSeq X.K tl) := by
  refine ⟨fun pins s σ H R I h => ?_⟩
  refine thn (hl.run pins s σ H _ I h) fun v s1 ⟨x, H1, I1, r1, q1⟩ => ?_
  obtain ⟨a, ex, q1⟩ := q1
  subst ex
  cases r1
  have fp : ∀ b ∈ [s1.heap.objs.size], FpOk X pins H1 b := fun b hb => by
    have eb : b = s1.heap.objs.size := by simpa using hb
    subst eb
    exact I1.fpOk (Nat.le_refl _) (I1.hok.fresh (Nat.le_refl _))
  rcases q1 with ⟨⟨xs, hq⟩, q⟩ | ⟨⟨xs, hq⟩, q⟩
  · obtain ⟨its, rv, p, hz⟩ := I1.list hq
    refine wpAny_pyIter_list p.isList ?_
    exact ⟨s1.heap.objs.size, [s1.heap.objs.size], _, _, H1, rfl, I1.kept (t' := s1.toks) fun b o e => Heap.get?_push_of_some _ e, turn_list a _, ⟨_, Heap.get?_push_size _ rfl, rfl, rfl⟩, fp, q⟩
  · obtain ⟨its, rv, p, hz⟩ := I1.tuple hq
    refine wpAny_pyIter_tuple (show s1.heap.IsTuple a its.toArray from p) ?_
    exact ⟨s1.heap.objs.size, [s1.heap.objs.size], _, _, H1, rfl, I1.kept (t' := s1.toks) fun b o e => Heap.get?_push_of_some _ e, turn_tuple a _, ⟨_, Heap.get?_push_size _ rfl, rfl, rfl⟩, fp, q⟩
def dSeq (t : DT) : DTI := fun Ex env Q => t Ex env fun x env1 => seqD env1 x fun ds keep => Q ds keep env1
theorem src_stands {K : PySem.W.Frag} {b : Bool} {a : Addr} {ds : List D} {k : Env' → Prop} {F0 : Hp} (h : Stands K b a ds k F0) : Src K (if b = true then Itt K a else Itl K a) ds k F0 := fun e env T F σ H i hh sm kk => by
  obtain ⟨vs, s1, r⟩ := h e env T F σ H hh sm kk
  cases b with
  | true =>
    refine ⟨fun hi => ⟨vs, s1, by rw [← r.length]; exact Nat.le_of_eq hi⟩, fun d hd => ?_⟩
    obtain ⟨v, hv, rd⟩ := r.get hd
    refine ⟨⟨vs, v, s1, hv⟩, fun x H2 hy => ?_⟩
    obtain ⟨rfl, hx⟩ := hy
    have e1 := hx _ s1
    rw [hv] at e1
    cases e1
    exact ⟨F, Grow.refl hh.fh, rd⟩
  | false =>
    refine ⟨fun hi => ⟨vs, s1, by rw [← r.length]; exact Nat.le_of_eq hi⟩, fun d hd => ?_⟩
    obtain ⟨v, hv, rd⟩ := r.get hd
    refine ⟨⟨vs, v, s1, hv⟩, fun x H2 hy => ?_⟩
    obtain ⟨rfl, hx⟩ := hy
    have e1 := hx _ s1
    rw [hv] at e1
    cases e1
    exact ⟨F, Grow.refl hh.fh, rd⟩
section
variable {G : GG} {N : List Str} {sc : SC} {k : Nat} {a : Expr} {ta : DT}
theorem di_seq {tg : Expr} (h : DE G N sc k a ta) : DI G N sc k tg a (dSeq ta) := ⟨fun W => by
  obtain ⟨te, p1, i1⟩ := h.ex W
  refine ⟨iSeq G.K te, fun X S => by rw [← S.K]; exact pi_seq (p1 X S), fun e Ex hl env T F σ H Q R hh ht hR => ?_⟩
  refine i1 e Ex hl env T F σ H _ _ hh ht fun v H1 F1 env1 x hh1 q1 => ?_
  obtain ⟨b, c, ds, kp, F2, rfl, q2, _, hh2, st, kk⟩ := hh1.seqD q1
  have src := src_stands st
  obtain ⟨vs, s1, _⟩ := st e env1 T F2 σ H1 hh2 (Same.refl _) kk
  cases b with
  | true => exact ⟨c, rfl, .inr ⟨⟨vs, s1⟩, hR _ H1 F2 env1 ds kp hh2 src q2⟩⟩
  | false => exact ⟨c, rfl, .inl ⟨⟨vs, s1⟩, hR _ H1 F2 env1 ds kp hh2 src q2⟩⟩⟩
end
end HD
namespace HD
open PySem L2
theorem eqv_refl {d : D} (h : d.cmp) : d.eqv d = true := PySem.SeqAt.eqv_refl d.py (PySem.SeqAt.canLay_of_shaped h.2)
def Meets (t : DTS) (n m : Nat) (sp : DSpec) : Prop := ∀ args Qd Xd, sp args Qd Xd → t (exOf args Xd) (endsOf args Qd) (args ++ List.replicate m .un)
theorem finals1 (x : Sl) (env : Env') : finals [x] env = [fin1 x env[0]?] := rfl
theorem finals2 (x y : Sl) (env : Env') : finals [x, y] env = [fin1 x env[0]?, fin1 y env[1]?] := rfl
theorem finals3 (x y z : Sl) (env : Env') : finals [x, y, z] env = [fin1 x env[0]?, fin1 y env[1]?, fin1 z env[2]?] := rfl
theorem finals4 (x y z u : Sl) (env : Env') : finals [x, y, z, u] env = [fin1 x env[0]?, fin1 y env[1]?, fin1 z env[2]?, fin1 u env[3]?] := rfl
theorem finals5 (x y z u v : Sl) (env : Env') : finals [x, y, z, u, v] env = [fin1 x env[0]?, fin1 y env[1]?, fin1 z env[2]?, fin1 u env[3]?, fin1 v env[4]?] := rfl
theorem finals6 (x y z u v w : Sl) (env : Env') : finals [x, y, z, u, v, w] env = [fin1 x env[0]?, fin1 y env[1]?, fin1 z env[2]?, fin1 u env[3]?, fin1 v env[4]?, fin1 w env[5]?] := rfl
theorem fin1_ext (d : D) (o : Option Sl) : fin1 (.ext d) o = .ext d := rfl
theorem fin1_lst (a : Addr) (ds es : List D) : fin1 (.lst a ds) (some (.lst a es)) = .lst a es := if_pos rfl
theorem fEq_ii (i j : Int) (Q : Sl → Prop) : fEq (.int i) (.int j) Q = Q (.ext (.bl (i == j))) := rfl
theorem fEq_ss (i j : Str) (Q : Sl → Prop) : fEq (.str i) (.str j) Q = Q (.ext (.bl (i == j))) := rfl
theorem fEq_bb (i j : Bool) (Q : Sl → Prop) : fEq (.bl i) (.bl j) Q = Q (.ext (.bl (i == j))) := rfl
theorem fEq_tt (i j : List D) (Q : Sl → Prop) : fEq (.tup i) (.tup j) Q = (D.cmp (.tup i) ∧ D.cmp (.tup j) ∧ Q (.ext (.bl (D.eqv (.tup i) (.tup j))))) := rfl
theorem fEq_ll (i j : List D) (Q : Sl → Prop) : fEq (.lst i) (.lst j) Q = (D.cmp (.lst i) ∧ D.cmp (.lst j) ∧ Q (.ext (.bl (D.eqv (.lst i) (.lst j))))) := rfl
theorem fNe_ii (i j : Int) (Q : Sl → Prop) : fNe (.int i) (.int j) Q = Q (.ext (.bl (!(i == j)))) := rfl
theorem fNe_ss (i j : Str) (Q : Sl → Prop) : fNe (.str i) (.str j) Q = Q (.ext (.bl (!(i == j)))) := rfl
theorem fNe_bb (i j : Bool) (Q : Sl → Prop) : fNe (.bl i) (.bl j) Q = Q (.ext (.bl (!(i == j)))) := rfl
theorem fNe_tt (i j : List D) (Q : Sl → Prop) : fNe (.tup i) (.tup j) Q = (D.cmp (.tup i) ∧ D.cmp (.tup j) ∧ Q (.ext (.bl (!D.eqv (.tup i) (.tup j))))) := rfl
theorem fNe_ll (i j : List D) (Q : Sl → Prop) : fNe (.lst i) (.lst j) Q = (D.cmp (.lst i) ∧ D.cmp (.lst j) ∧ Q (.ext (.bl (!D.eqv (.lst i) (.lst j))))) := rfl
inductive Tok {α : Type _} (Q : α) : Type where
  | mk
def CallS (spec : DSpec) (args : List Sl) (Q : Sl → List Sl → Prop) (X : Str → List Sl → Prop) (_ : Tok Q) (_ : Tok X) : Prop := spec args Q X
def GetS (o : Option D) (k : D → Prop) (_ : Tok k) : Prop := ∃ d, o = some d ∧ k d
def AtS (o : Option Sl) (k1 : D → Prop) (k2 : Addr → List D → Prop) (_ : Tok k1) (_ : Tok k2) : Prop := match o with
  | some (.ext d) => k1 d
  | some (.lst a ds) => k2 a ds
  | _ => False
theorem GetS_some (d : D) (k : D → Prop) (t : Tok k) : GetS (some d) k t = k d := propext ⟨fun ⟨_, e, h⟩ => by cases e; exact h, fun h => ⟨d, rfl, h⟩⟩
theorem AtS_ext (d : D) (k1 : D → Prop) (k2 : Addr → List D → Prop) (t : Tok k1) (u : Tok k2) : AtS (some (.ext d)) k1 k2 t u = k1 d := rfl
theorem AtS_lst (a : Addr) (ds : List D) (k1 : D → Prop) (k2 : Addr → List D → Prop) (t : Tok k1) (u : Tok k2) : AtS (some (.lst a ds)) k1 k2 t u = k2 a ds := rfl
abbrev AtL (o : Option Sl) (k2 : Addr → List D → Prop) : Prop := AtS o (fun _ => False) k2 .mk .mk
theorem AtL_eq (o : Option Sl) (k2 : Addr → List D → Prop) : (match o with | some (.lst a ds) => k2 a ds | _ => False) = AtS o (fun _ => False) k2 .mk .mk := by
  unfold AtS
  rcases o with _ | (_ | _ | _ | _ | _) <;> rfl
theorem dCall_w (spec : DSpec) (ta : DTA) (Ex : DX) (env : Env') (Q : Sl → Env' → Prop) : dCall spec ta Ex env Q = ta Ex env fun xs env1 => wds env1 xs fun ds =>
  CallS spec (ds.map .ext) (fun r _ => (anyAl xs = false ∨ r.imm = true) ∧ r.plain ∧ Q r env1) (fun c _ => Ex c env1) .mk .mk := rfl
theorem dCallJ_w (spec : DSpec) (i : Nat) (ta : DTA) (Ex : DX) (env : Env') (Q : Sl → Env' → Prop) : dCallJ spec i ta Ex env Q = AtL env[i]? fun a _ => ta Ex env fun xs env1 => AtL env1[i]? fun b ds => b = a ∧ frozs env1 xs fun es => CallS spec (.lst a ds :: es.map .ext)
        (fun r fin => match fin with | s' :: _ => s'.plain ∧ r.plain ∧ Q r (env1.set i s') | [] => False) (fun c fin => match fin with | s' :: _ => s'.plain ∧ Ex c (env1.set i s') | [] => False) .mk .mk := by
  simp only [AtL, ← AtL_eq] <;> rfl
theorem dVar_w (i : Nat) (Ex : DX) (env : Env') (Q : Sl → Env' → Prop) : dVar i Ex env Q = AtS env[i]? (fun d => Q (.ext d) env) (fun a _ => Q (.al i a) env) .mk .mk := by
  unfold dVar AtS
  rcases env[i]? with _ | (_ | _ | _ | _ | _) <;> rfl
theorem wd_ext (env : Env') (d : D) (k : D → Prop) : wd env (.ext d) k = k d := rfl
theorem wd_lst (env : Env') (a : Addr) (ds : List D) (k : D → Prop) : wd env (.lst a ds) k = k (.lst ds) := rfl
theorem wd_al (env : Env') (i : Nat) (a : Addr) (k : D → Prop) : wd env (.al i a) k = AtL env[i]? fun b ds => b = a ∧ k (.lst ds) := by
  simp only [AtL, ← AtL_eq] <;> rfl
theorem frzD_ext (env : Env') (d : D) (q : D → Env' → Prop) : frzD env (.ext d) q = q d env := rfl
theorem frzD_lst (env : Env') (a : Addr) (ds : List D) (q : D → Env' → Prop) : frzD env (.lst a ds) q = q (.lst ds) env := rfl
theorem frzD_al (env : Env') (i : Nat) (a : Addr) (q : D → Env' → Prop) : frzD env (.al i a) q = AtL env[i]? fun b ds => b = a ∧ q (.lst ds) (env.set i (.ext (.lst ds))) := by
  simp only [AtL, ← AtL_eq, frzD]
  rcases env[i]? with _ | (_ | d | _ | _ | _) <;> try rfl
  cases d <;> rfl
theorem retD_ext (env : Env') (d : D) (q : Sl → Env' → Prop) : retD env (.ext d) q = q (.ext d) env := rfl
theorem retD_lst (env : Env') (a : Addr) (ds : List D) (q : Sl → Env' → Prop) : retD env (.lst a ds) q = q (.lst a ds) env := rfl
theorem retD_al (env : Env') (i : Nat) (a : Addr) (q : Sl → Env' → Prop) : retD env (.al i a) q = AtL env[i]? fun b ds => b = a ∧ q (.lst a ds) (env.set i .un) := by
  simp only [AtL, ← AtL_eq] <;> rfl
theorem seqD_tup (env : Env') (ds : List D) (q : List D → (Env' → Prop) → Prop) : seqD env (.ext (.tup ds)) q = q ds fun _ => True := rfl
theorem seqD_elst (env : Env') (ds : List D) (q : List D → (Env' → Prop) → Prop) : seqD env (.ext (.lst ds)) q = q ds fun _ => True := rfl
theorem seqD_lst (env : Env') (a : Addr) (ds : List D) (q : List D → (Env' → Prop) → Prop) : seqD env (.lst a ds) q = q ds fun _ => True := rfl
theorem seqD_al (env : Env') (i : Nat) (a : Addr) (q : List D → (Env' → Prop) → Prop) : seqD env (.al i a) q = AtL env[i]? fun b ds => b = a ∧ q ds fun env' => env'[i]? = some (.lst a ds) := by
  simp only [AtL, ← AtL_eq] <;> rfl
theorem mutD_w (env : Env') (i : Nat) (a : Addr) (f : DMut) (Q : Sl → Env' → Prop) : mutD env i a f Q = AtL env[i]? fun b ds => b = a ∧ f ds fun d ds' => Q (.ext d) (env.set i (.lst a ds')) := by
  simp only [AtL, ← AtL_eq] <;> rfl
theorem dAppend_w (i : Nat) (t : DT) (Ex : DX) (env : Env') (Q : Sl → Env' → Prop) : dAppend i t Ex env Q = AtL env[i]? fun a _ => t Ex env fun x env1 => frzD env1 x fun d env2 => mutD env2 i a (fun ds q => ds.length < sizeLine ∧ q .non (ds ++ [d])) Q := by
  simp only [AtL, ← AtL_eq] <;> rfl
def extD (env : Env') (i : Nat) (a : Addr) (d : D) (Q : Sl → Env' → Prop) : Prop := match d with
    | .lst es => mutD env i a (fun ds q => ds.length + es.length ≤ sizeLine ∧ q .non (ds ++ es)) Q
    | _ => False
theorem extD_lst (env : Env') (i : Nat) (a : Addr) (es : List D) (Q : Sl → Env' → Prop) : extD env i a (.lst es) Q = mutD env i a (fun ds q => ds.length + es.length ≤ sizeLine ∧ q .non (ds ++ es)) Q := rfl
theorem dExtend_w (i : Nat) (t : DT) (Ex : DX) (env : Env') (Q : Sl → Env' → Prop) : dExtend i t Ex env Q = AtL env[i]? fun a _ => t Ex env fun x env1 => wd env1 x fun d => extD env1 i a d Q := by
  simp only [AtL, ← AtL_eq] <;> rfl
def popD (env : Env') (i : Nat) (a : Addr) (x : Sl) (Q : Sl → Env' → Prop) : Prop := match x with
    | .ext (.int n) => mutD env i a (fun ds q => 0 ≤ n ∧ n < 2 ^ 63 ∧ ∃ d, ds[n.toNat]? = some d ∧ q d (ds.eraseIdx n.toNat)) Q
    | _ => False
theorem popD_int (env : Env') (i : Nat) (a : Addr) (n : Int) (Q : Sl → Env' → Prop) : popD env i a (.ext (.int n)) Q = mutD env i a (fun ds q => 0 ≤ n ∧ n < 2 ^ 63 ∧ GetS ds[n.toNat]? (fun d => q d (ds.eraseIdx n.toNat)) .mk) Q := rfl
theorem dPopAt_w (i : Nat) (t : DT) (Ex : DX) (env : Env') (Q : Sl → Env' → Prop) : dPopAt i t Ex env Q = AtL env[i]? fun a _ => t Ex env fun x env1 => popD env1 i a x Q := by
  simp only [AtL, ← AtL_eq] <;> rfl
theorem dPop_w (i : Nat) (Ex : DX) (env : Env') (Q : Sl → Env' → Prop) : dPop i Ex env Q = AtL env[i]? fun a _ => mutD env i a (fun ds q => GetS ds[ds.length - 1]? (fun d => q d ds.dropLast) .mk) Q := by
  simp only [AtL, ← AtL_eq] <;> rfl
def setD (env2 : Env') (i : Nat) (a : Addr) (d : D) (z : Sl) (q : Env' → Prop) : Prop := match z with
    | .ext (.int n) => AtL env2[i]? fun b ds => b = a ∧ ∃ j, ixN ds.length n = some j ∧ q (env2.set i (.lst a (ds.set j d)))
    | _ => False
def NatS (o : Option Nat) (k : Nat → Prop) (_ : Tok k) : Prop := ∃ j, o = some j ∧ k j
theorem NatS_some (j : Nat) (k : Nat → Prop) (t : Tok k) : NatS (some j) k t = k j := propext ⟨fun ⟨_, e, h⟩ => by cases e; exact h, fun h => ⟨j, rfl, h⟩⟩
theorem setD_int (env2 : Env') (i : Nat) (a : Addr) (d : D) (n : Int) (q : Env' → Prop) : setD env2 i a d (.ext (.int n)) q = AtL env2[i]? fun b ds => b = a ∧ NatS (ixN ds.length n) (fun j => q (env2.set i (.lst a (ds.set j d)))) .mk := rfl
theorem sSetItem_w (i : Nat) (tI te : DT) (Ex : DX) (E : DEnds) (env : Env') : sSetItem i tI te Ex E env = te Ex env fun y env0 => frzD env0 y fun d env1 => AtL env1[i]? fun a _ => tI Ex env1 fun z env2 => setD env2 i a d z E.nx := by
  simp only [AtL, ← AtL_eq, setD, sSetItem] <;> rfl
theorem dTable_w (tab : Tab) (i : Nat) (Ex : DX) (env : Env') (Q : Sl → Env' → Prop) : dTable tab i Ex env Q = AtS env[i]? (fun d => match d with | .str w => ∃ n, tab.lookup w = some n ∧ Q (.ext (.int n)) env | _ => False) (fun _ _ => False) .mk .mk := by
  unfold dTable AtS
  rcases env[i]? with _ | (_ | d | _ | _ | _) <;> try rfl
  cases d <;> rfl
theorem fIx_l (ds : List D) (i : Int) (Q : Sl → Prop) : fIx (.lst ds) (.int i) Q = GetS (atI ds i) (fun d => Q (.ext d)) .mk := rfl
theorem fIx_t (ds : List D) (i : Int) (Q : Sl → Prop) : fIx (.tup ds) (.int i) Q = GetS (atI ds i) (fun d => Q (.ext d)) .mk := rfl
theorem fIx_k (ds : List D) (i : Int) (Q : Sl → Prop) : fIx (.tk ds) (.int i) Q = GetS (atI ds i) (fun d => Q (.ext d)) .mk := rfl
theorem fIx_f (ds : List D) (i : Int) (Q : Sl → Prop) : fIx (.fz ds) (.int i) Q = GetS (atI ds i) (fun d => Q (.ext d)) .mk := rfl
def BoolS (o : Option Bool) (k : Bool → Prop) (_ : Tok k) : Prop := ∃ b, o = some b ∧ k b
theorem BoolS_some (b : Bool) (k : Bool → Prop) (t : Tok k) : BoolS (some b) k t = k b := propext ⟨fun ⟨_, e, h⟩ => by cases e; exact h, fun h => ⟨b, rfl, h⟩⟩
theorem fIsi1 (d : D) (T : String) (Q : Sl → Prop) : fIsi [d, .val (.ty T)] Q = (d.noVal = true ∧ d.isFz = false ∧ BoolS (kitB d.ty T) (fun b => Q (.ext (.bl b))) .mk) := rfl
theorem fIsi2 (d : D) (T U : String) (Q : Sl → Prop) : fIsi [d, .tup [.val (.ty T), .val (.ty U)]] Q = (d.noVal = true ∧ d.isFz = false ∧ BoolS (kitB d.ty T) (fun b => BoolS (kitB d.ty U) (fun c => Q (.ext (.bl (b || c)))) .mk) .mk) := by
  simp only [fIsi, BoolS]
  refine propext ⟨fun ⟨h1, h2, b, c, h3, h4, q⟩ => ⟨h1, h2, b, h3, c, h4, q⟩, fun ⟨h1, h2, b, h3, c, h4, q⟩ => ⟨h1, h2, b, c, h3, h4, q⟩⟩
theorem kb_non_tuple : kitB (D.ty .non) "tuple" = some false := by decide +kernel
theorem kb_non_list : kitB (D.ty .non) "list" = some false := by decide +kernel
theorem kb_non_bool : kitB (D.ty .non) "bool" = some false := by decide +kernel
theorem kb_non_int : kitB (D.ty .non) "int" = some false := by decide +kernel
theorem kb_non_str : kitB (D.ty .non) "str" = some false := by decide +kernel
theorem kb_bl_tuple (b : Bool) : kitB (D.ty (.bl b)) "tuple" = some false := show kitB "bool" "tuple" = some false by decide +kernel
theorem kb_bl_list (b : Bool) : kitB (D.ty (.bl b)) "list" = some false := show kitB "bool" "list" = some false by decide +kernel
theorem kb_bl_bool (b : Bool) : kitB (D.ty (.bl b)) "bool" = some true := show kitB "bool" "bool" = some true by decide +kernel
theorem kb_bl_int (b : Bool) : kitB (D.ty (.bl b)) "int" = some true := show kitB "bool" "int" = some true by decide +kernel
theorem kb_bl_str (b : Bool) : kitB (D.ty (.bl b)) "str" = some false := show kitB "bool" "str" = some false by decide +kernel
theorem kb_int_tuple (i : Int) : kitB (D.ty (.int i)) "tuple" = some false := show kitB "int" "tuple" = some false by decide +kernel
theorem kb_int_list (i : Int) : kitB (D.ty (.int i)) "list" = some false := show kitB "int" "list" = some false by decide +kernel
theorem kb_int_bool (i : Int) : kitB (D.ty (.int i)) "bool" = some false := show kitB "int" "bool" = some false by decide +kernel
theorem kb_int_int (i : Int) : kitB (D.ty (.int i)) "int" = some true := show kitB "int" "int" = some true by decide +kernel
theorem kb_int_str (i : Int) : kitB (D.ty (.int i)) "str" = some false := show kitB "int" "str" = some false by decide +kernel
theorem kb_str_tuple (x : Str) : kitB (D.ty (.str x)) "tuple" = some false := show kitB "str" "tuple" = some false by decide +kernel
theorem kb_str_list (x : Str) : kitB (D.ty (.str x)) "list" = some false := show kitB "str" "list" = some false by decide +kernel
theorem kb_str_bool (x : Str) : kitB (D.ty (.str x)) "bool" = some false := show kitB "str" "bool" = some false by decide +kernel
theorem kb_str_int (x : Str) : kitB (D.ty (.str x)) "int" = some false := show kitB "str" "int" = some false by decide +kernel
theorem kb_str_str (x : Str) : kitB (D.ty (.str x)) "str" = some true := show kitB "str" "str" = some true by decide +kernel
theorem kb_lst_tuple (ds : List D) : kitB (D.ty (.lst ds)) "tuple" = some false := show kitB "list" "tuple" = some false by decide +kernel
theorem kb_lst_list (ds : List D) : kitB (D.ty (.lst ds)) "list" = some true := show kitB "list" "list" = some true by decide +kernel
theorem kb_lst_bool (ds : List D) : kitB (D.ty (.lst ds)) "bool" = some false := show kitB "list" "bool" = some false by decide +kernel
theorem kb_lst_int (ds : List D) : kitB (D.ty (.lst ds)) "int" = some false := show kitB "list" "int" = some false by decide +kernel
theorem kb_lst_str (ds : List D) : kitB (D.ty (.lst ds)) "str" = some false := show kitB "list" "str" = some false by decide +kernel
theorem kb_tup_tuple (ds : List D) : kitB (D.ty (.tup ds)) "tuple" = some true := show kitB "tuple" "tuple" = some true by decide +kernel
theorem kb_tup_list (ds : List D) : kitB (D.ty (.tup ds)) "list" = some false := show kitB "tuple" "list" = some false by decide +kernel
theorem kb_tup_bool (ds : List D) : kitB (D.ty (.tup ds)) "bool" = some false := show kitB "tuple" "bool" = some false by decide +kernel
theorem kb_tup_int (ds : List D) : kitB (D.ty (.tup ds)) "int" = some false := show kitB "tuple" "int" = some false by decide +kernel
theorem kb_tup_str (ds : List D) : kitB (D.ty (.tup ds)) "str" = some false := show kitB "tuple" "str" = some false by decide +kernel
def BlS (z : Sl) (k : Bool → Prop) (_ : Tok k) : Prop := match z with
  | .ext (.bl b) => k b
  | _ => False
theorem BlS_bl (b : Bool) (k : Bool → Prop) (t : Tok k) : BlS (.ext (.bl b)) k t = k b := rfl
theorem bl_match (z : Sl) (p q : Prop) : (match z with
  | .ext (.bl true) => p
  | .ext (.bl false) => q
  | _ => False) = BlS z (fun b => if b = true then p else q) .mk := by
  unfold BlS
  rcases z with _ | (_ | b | _ | _ | _ | _ | _ | _ | _ | _ | _) | _ | _ <;> try rfl
  cases b <;> simp
theorem dChain_w (f f' : D → D → (Sl → Prop) → Prop) (ta tb tc : DT) (Ex : DX) (env : Env') (Q : Sl → Env' → Prop) : dChain f f' ta tb tc Ex env Q = ta Ex env fun x env1 => tb Ex env1 fun y env2 => wd env2 x fun d => wd env2 y fun d' => f d d' fun z =>
  BlS z (fun b => if b = true then (tc Ex env2 fun w env3 => wd env3 y fun d1 => wd env3 w fun d2 => f' d1 d2 fun sl => Q sl env3) else Q (.ext (.bl false)) env2) .mk := by
  simp only [← bl_match] <;> rfl
theorem dAndV_w (ta tb : DT) (Ex : DX) (env : Env') (Q : Sl → Env' → Prop) : dAndV ta tb Ex env Q = ta Ex env fun x env1 => BlS x (fun b => if b = true then tb Ex env1 Q else Q (.ext (.bl false)) env1) .mk := by
  simp only [← bl_match] <;> rfl
theorem dOrV_w (ta tb : DT) (Ex : DX) (env : Env') (Q : Sl → Env' → Prop) : dOrV ta tb Ex env Q = ta Ex env fun x env1 => BlS x (fun b => if b = true then Q (.ext (.bl true)) env1 else tb Ex env1 Q) .mk := by
  have e : ∀ (z : Sl) (p q : Prop), (match z with
    | .ext (.bl false) => q
    | .ext (.bl true) => p
    | _ => False) = BlS z (fun b => if b = true then p else q) .mk := by
    intro z p q
    unfold BlS
    rcases z with _ | (_ | b | _ | _ | _ | _ | _ | _ | _ | _ | _) | _ | _ <;> try rfl
    cases b <;> simp
  simp only [← e] <;> rfl
abbrev iD (l : List Int) : List D := l.map D.int
abbrev nD (l : List Nat) : List D := l.map fun n : Nat => D.int (n : Int)
theorem nD_cons (x : Nat) (l : List Nat) : nD (x :: l) = D.int (x : Int) :: nD l := rfl
theorem iD_cons (x : Int) (l : List Int) : iD (x :: l) = D.int x :: iD l := rfl
theorem nD_app (a b : List Nat) : nD (a ++ b) = nD a ++ nD b := List.map_append
theorem iD_app (a b : List Int) : iD (a ++ b) = iD a ++ iD b := List.map_append
theorem nD_len (a : List Nat) : (nD a).length = a.length := List.length_map _
theorem iD_len (a : List Int) : (iD a).length = a.length := List.length_map _
theorem cmulN {i j : Int} {a b : Nat} (hi : i.natAbs < 2 ^ a) (hj : j.natAbs < 2 ^ b) (h : a + b < 1000000) : CMulW i j := by
  unfold CMulW
  have h1 : i.natAbs.log2 ≤ a := by
    rcases Nat.eq_zero_or_pos i.natAbs with z | z
    · rw [z]; exact Nat.zero_le _
    · exact Nat.le_of_lt ((Nat.log2_lt (by omega)).2 hi)
  have h2 : j.natAbs.log2 ≤ b := by
    rcases Nat.eq_zero_or_pos j.natAbs with z | z
    · rw [z]; exact Nat.zero_le _
    · exact Nat.le_of_lt ((Nat.log2_lt (by omega)).2 hj)
  omega
theorem cmul64 {i j : Int} (h1 : -18446744073709551616 < i) (h2 : i < 18446744073709551616) (h3 : -18446744073709551616 < j) (h4 : j < 18446744073709551616) : CMulW i j :=
  cmulN (a := 64) (b := 64) (by omega) (by omega) (by decide)
theorem atN {α : Type} {xs : List α} {n : Nat} {x : α} (h : xs[n]? = some x) : atI xs (n : Int) = some x := by
  have hl : n < xs.length := (List.getElem?_eq_some_iff.1 h).1
  have e : ixN xs.length (n : Int) = some n := by
    unfold ixN
    rw [if_pos (by omega), if_pos (by omega)]
    simp
  unfold atI
  rw [e]
  exact h
theorem ixN_nat {n i : Nat} (h : i < n) : ixN n (i : Int) = some i := by
  unfold ixN
  rw [if_pos (by omega), if_pos (by omega)]
  simp
theorem atI_int {α : Type} {xs : List α} {i : Int} {x : α} (h0 : 0 ≤ i) (h : xs[i.toNat]? = some x) : atI xs i = some x := by
  have := atN h
  rwa [Int.toNat_of_nonneg h0] at this
theorem atI_0 {α : Type} (x : α) (xs : List α) : atI (x :: xs) 0 = some x := atN (n := 0) rfl
theorem atI_1 {α : Type} (x y : α) (xs : List α) : atI (x :: y :: xs) 1 = some y := atN (n := 1) rfl
theorem atI_2 {α : Type} (x y z : α) (xs : List α) : atI (x :: y :: z :: xs) 2 = some z := atN (n := 2) rfl
theorem atI_3 {α : Type} (x y z u : α) (xs : List α) : atI (x :: y :: z :: u :: xs) 3 = some u := atN (n := 3) rfl
theorem ixN_0 (n : Nat) : ixN (n + 1) 0 = some 0 := ixN_nat (i := 0) (by omega)
theorem ixN_1 (n : Nat) : ixN (n + 1 + 1) 1 = some 1 := ixN_nat (i := 1) (by omega)
theorem ixN_2 (n : Nat) : ixN (n + 1 + 1 + 1) 2 = some 2 := ixN_nat (i := 2) (by omega)
end HD
namespace HD
open PySem PySem.Spec PyProof.Rows L2
section
variable {X : Cx} {pins : List (Addr × Obj)} {σ : L2.St} {H : Hp} {s : Shared}
theorem un_adopt {fs ex : List Addr} {H0 H1 : Hp} {h h1 : Heap} {a : Addr} {o : HO} (u : Un fs ex H0 H1 h h1) (n0 : a ∉ ex → h.get? a = none) (n1 : H1 a = none) : Un fs ex H0 (upd H1 a o) h h1 where
  keep := u.keep
  slot := u.slot
  there := u.there
  free := fun b x q n z => by
    have nb : b ≠ a := fun e => by
      subst e
      rw [n0 z] at q; cases q
    rw [upd_ne nb]; exact u.free b x q n z
  tups := fun b xs q => by
    have q1 := u.tups b xs q
    rw [upd_ne (ne_of_none q1 n1)]; exact q1
  frzs := fun b x y q => by
    have q1 := u.frzs b x y q
    rw [upd_ne (ne_of_none q1 n1)]; exact q1
  tbls := fun b ps q => by
    obtain ⟨m, q1⟩ := u.tbls b ps q
    exact ⟨m, by rw [upd_ne (ne_of_none q1 n1)]; exact q1⟩
theorem inv_adopt {a : Addr} {oe : Obj} (I : Inv X pins σ H s) (ha : s.heap.get? a = some oe) (na : H a = none) (nL : a ≠ X.env.locals) (nc : ∀ v, oe.data ≠ .cell v) (n0 : a ∉ X.ex → X.s_0.heap.get? a = none) (np : ∀ p ∈ X.pn ++ pins, p.1 ≠ a) :
    Inv X pins σ (upd H a (.frz oe (.own a))) s where
  ok := I.ok
  os := I.os
  bare := I.bare
  base := un_adopt I.base n0 na
  loc := I.loc
  cell := I.cell
  free := by rw [upd_ne (Ne.symm nL)]; exact I.free
  freeC := fun x c q => by
    obtain ⟨v, hv⟩ := I.cell x c q
    have : c ≠ a := fun e => by
      rw [e] at hv
      obtain ⟨o, q1, q2⟩ := hv
      rw [ha] at q1
      cases q1
      exact nc _ q2
    rw [upd_ne this]; exact I.freeC x c q
  pin := fun p hp => by
    obtain ⟨h1, h2, h3⟩ := I.pin p hp
    exact ⟨h1, by rw [upd_ne (np p hp)]; exact h2, h3⟩
  hok := I.hok.laidN (fun _ _ q => q) na ⟨ha, oe, ha⟩
  len := I.len
end
def wKeep (K : PySem.W.Frag) (c : Value) (i : Nat) (ts : Addr → Value → Option Addr → TS) (Wout : WX) (D : Ends) : WX := fun cls d σ H =>
  ∃ b, PySem.W.exmOne K cls c = some b ∧
    (b = true → ∀ (a : Addr) (oe : Obj), H a = none → Zc cls d oe → (∃ vs, oe.data = .fields vs) →
      ts a cls d { nx := fun σ' H' => D.nx (σ'.set i none) (upd H' a (.frz oe (.own a))), rt := fun _ _ => False } (σ.set i (some (.ref a))) H) ∧
    (b = false → Wout cls d σ H)
section
variable {X : Cx} {x n : Str} {c : Value} {i : Nat} {body suite : List Stmt} {b0 : Stmt} {np pos pos' : Pos} {tb : WX → TS} {ts : Addr → Value → Option Addr → TS} {Wout : WX}
theorem ps_try_keep (hs : X.stack = X.env :: X.outer) (hf : X.env.frame = some X.env.locals) (hN : X.N.Nodup) (hi : X.N[i]? = some n) (hl : X.env.kindOf n = some .local) (hc : Names X x c) (tk : Takes X Wout)
    (hb : ∀ (W : WX) (pn : List (Addr × Obj)) (xe : Value → Shared → Prop), Takes (X.tr pn xe) W → PassesOwn (model X.prog X.w) X.A X.env xe → PSs (X.tr pn xe) body (tb W))
    (hsu : ∀ (a : Addr) (oe : Obj) (cls : Value) (d : Option Addr) (pn : List (Addr × Obj)), Zc cls d oe → (∃ vs, oe.data = .fields vs) → PSs (X.suite a ((a, oe) :: pn)) (b0 :: suite) (ts a cls d)) :
    PS X (.Try body [.ExceptHandler (some (.Name x np)) (some n) (b0 :: suite) pos'] [] [] pos) (fun D σ H => tb (wKeep X.K c i ts Wout D) D σ H) := by
  refine ⟨fun pins s σ H D I h => wpAny_Try_except ?_⟩
  have ok := I.ok
  have fr : X.A.frames = some (X.env :: X.outer) := ok.frames.trans (by rw [hs])
  refine wpAny_mono ((hb (wKeep X.K c i ts Wout D) (X.pn ++ pins)
    (fun e t1 => wpAny (model X.prog X.w) X.A (noteFrame e X.env) (fun _ t2 => wpAny (model X.prog X.w) X.A (setFlight e none) (fun _ t3 =>
      wpAny (model X.prog X.w) X.A (handleBy e X.env [.ExceptHandler (some (.Name x np)) (some n) (b0 :: suite) pos']) (SP X pins D) X.xe t3) X.xe t2) X.xe t1)
    (fun u t xx => ?_) PassesOwn.looking).run [] s σ H D (I.toTry _) h) (fun f t1 q => ?_) (fun _ _ z => z)
  · obtain ⟨a, B, sI, pins', σ1, H1, cls, d, rfl, J0, nb, up, sky, na, os, ag, b, hb1, yes, no⟩ := xx
    have J : Inv X pins σ1 H1 sI := J0.ofTry ok
    have sky1 : Sky B (X.env :: X.outer) a (Zc cls d) X.env.locals t.heap := hs ▸ sky
    show wpAny (model X.prog X.w) X.A (noteFrame (.ref a) X.env) _ _ _
    refine Sky.land Zc.steady fr hf sky1 fun g fl ug => ?_
    have J3 : Inv X pins σ1 H1 { t with heap := g } := J.landed nb fl.1 (up.trans ug) os ag
    obtain ⟨o3, vs3, e3, z3, d3⟩ := fl.there
    have away : ∀ {k : Heap} {o : Obj} {vs : Array Value}, k.FunFrames B (X.env :: X.outer) → k.get? a = some o → o.data = .fields vs → a ∉ frs (X.env :: X.outer) := fun ff e dd hm => by
      obtain ⟨_, o', e', hnf⟩ := ff.mem hm
      rw [e] at e'
      cases e'
      exact hnf _ dd
    have nfr := away fl.2.2.1 e3 d3
    have Bn : B.get? a = none := fl.2.1
    have nL : a ≠ X.env.locals := fun z => nfr (List.mem_filterMap.mpr ⟨X.env, List.mem_cons_self, by rw [hf, z]⟩)
    have nF : a ∉ X.fs := fun hm => by
      obtain ⟨e, he, q⟩ := List.mem_filterMap.mp hm
      exact nfr (List.mem_filterMap.mpr ⟨e, List.mem_cons_of_mem _ he, q⟩)
    -- nothing stood at a ahead of the raise
    have sIn : sI.heap.get? a = none := by
      cases q : sI.heap.get? a with
      | none => rfl
      | some o =>
        have := nb a o q (by rw [hs]; exact nfr)
        rw [Bn] at this
        cases this
    have S3 := J3.suite e3 d3 na nL nF
    refine wpAny_handleBy_cons (codeAny_handlers_test ?_) (by intro q; cases q)
    have LT : PySem.W.Looks (model X.prog X.w) g (typeOf (.ref a)) cls := fun A Q E s k q => wpAny_typeOf_ref (k _ _ e3) (by rw [z3.1]; exact q)
    have LM := PySem.W.exm_one (M := model X.prog X.w) (J3.kIn) LT hb1
    have test : ∀ {Q : Value → Shared → Prop} {E : Value → Shared → Prop}, Q c { t with heap := g } → wpAny (model X.prog X.w) (X.A.mark (some (.ref a))) (eval (.Name x np) X.env) Q E { t with heap := g } := fun {Q E} q => by
      obtain ⟨hg, hd, hm | ⟨hm, hv, hnn⟩⟩ := hc
      · exact ld_glob (X := X.suite a ((a, o3) :: (X.pn ++ pins))) S3 hg hm q hd
      · exact ld_blt (X := X.suite a ((a, o3) :: (X.pn ++ pins))) S3 hg hm hv q hnn hd
    refine test (LM.here ?_)
    cases b with
    | true =>
      refine codeAny_handlers_suite_as (HandSPX.lands_againZ fl fun g4 fl4 ug4 => ?_)
      have J4 : Inv X pins σ1 H1 { t with heap := g4 } := J.landed nb fl4.1 ((up.trans ug).trans ug4) os ag
      obtain ⟨o4, vs4, e4, z4, d4⟩ := fl4.there
      have S4 := J4.suite e4 d4 na nL nF
      refine store_ok (X := X.suite a ((a, o4) :: (X.pn ++ pins))) (v := .ref a) S4 hN hi (.inl hl) rfl (fun s5 S5 => ?_) (.inr hl)
      refine wpAny_mono ((hsu a o4 cls d (X.pn ++ pins) z4 ⟨_, d4⟩).run [] s5 _ H1 _ S5 (yes rfl a o4 na z4 ⟨_, d4⟩)) (fun f s6 q => ?_) (fun _ _ z => z.elim)
      cases f with
      | next =>
        obtain ⟨σ6, H6, S6, q6⟩ := q
        obtain ⟨p1, p2, p3, p4, p5⟩ := S6.pin (a, o4) (List.mem_append_left _ List.mem_cons_self)
        have J6 : Inv X pins σ6 H6 s6 := S6.unsuite ok
        have n0 : a ∉ X.ex → X.s_0.heap.get? a = none := fun hx => by
          cases q : X.s_0.heap.get? a with
          | none => rfl
          | some o =>
            obtain ⟨o', q'⟩ := J.base.there a o q hx
            rw [sIn] at q'
            cases q'
        have npin : ∀ p ∈ X.pn ++ pins, p.1 ≠ a := fun p hp e => by
          have := (J.pin p hp).1
          rw [e, sIn] at this
          cases this
        exact gone_ok (inv_adopt J6 p1 p2 p3 p5 n0 npin) hN hi hl fun s7 J7 => ⟨_, _, J7, q6⟩
      | brk =>
        obtain ⟨σ6, H6, S6, q6⟩ := q
        exact q6.elim
      | cont =>
        obtain ⟨σ6, H6, S6, q6⟩ := q
        exact q6.elim
      | ret u =>
        obtain ⟨v6, σ6, H6, S6, r6, q6⟩ := q
        exact q6.elim
    | false =>
      show wpAny _ X.A (handleBy (.ref a) X.env []) _ _ _
      refine wpAny_handleBy_nil ?_
      obtain ⟨k1, k2, k3, oe, vs, T, oT, ts', he, hz, hd, h1, hr⟩ := id fl
      unfold PySem.passOn
      refine wpAny_bind (wpAny_field he hd h1 ?_)
      rw [if_neg (show ¬ ((Value.ref T == Value.none) = true) from by simp)]
      have last : wpAny (model X.prog X.w) X.A (setFlight (.ref a) X.env.frame) (fun _ t4 => wpAny (model X.prog X.w) X.A (throw (.ref a) : Sem Flow) (SP X pins D) X.xe t4) X.xe { t with heap := g } := by
        rw [hf]
        refine HandSPX.setFlight_upZ fl fun g4 hh ug4 => wpAny_throw (tk _ _ ?_)
        exact ⟨a, B, sI, pins, σ1, H1, cls, d, rfl, J, nb, (up.trans ug).trans ug4, .inr (.inr (by rw [hs]; exact hh)), na, os, ag, no rfl⟩
      first
        | exact wpAny_bind (wpAny_pure (wpAny_bind last))
        | exact wpAny_bind last
  · cases f with
    | next =>
      obtain ⟨σ1, H1, J1, q1⟩ := q
      exact wpAny_execs_nil ⟨σ1, H1, J1.ofTry ok, q1⟩
    | brk =>
      obtain ⟨σ1, H1, J1, q1⟩ := q
      exact ⟨σ1, H1, J1.ofTry ok, q1⟩
    | cont =>
      obtain ⟨σ1, H1, J1, q1⟩ := q
      exact ⟨σ1, H1, J1.ofTry ok, q1⟩
    | ret u =>
      obtain ⟨v, σ1, H1, J1, r, q1⟩ := q
      exact ⟨v, σ1, H1, J1.ofTry ok, r, q1⟩
end
end HD
namespace HD
open PySem L2
structure XOk (G : GG) (x : Str) : Prop where
  mg : G.mg x = some (clsV G.K x)
  exc : (He.Fa.exc x).ok G.K = true
def sRaise (x : Str) : DTS := fun Ex _ env => Ex x env
section
variable {G : GG} {N : List Str} {sc : SC} {k : Nat}
theorem ds_raise {x m : Str} {j : Nat} {p p2 pos pos' : Pos} (h : XOk G x) (hg : GlS sc x := by rfl) (hdb : (x == ("__debug__" : Str)) = false := by decide) :
    DS G N sc k (.Raise (some (.Call (.Name x p) [.Constant (.str m) j p2] [] pos)) none pos') (sRaise x) := ⟨fun W => by
  obtain ⟨q1, q2, q3, q4⟩ := He.exc_ok h.exc
  refine ⟨fun _ σ H => W (clsV G.K x) none σ H, fun X S => ?_, fun e Ex hl env F σ H E Dn hh ht ok => hl x env F σ H hh ht⟩
  have a1 : PySem.W.excIn X.K (He.ga G.K x) He.veBase "ValueError.__new__" = true := by rw [S.K]; exact q1
  have a2 : PySem.W.keepIn X.K (.ref (He.ga G.K x)) = true := by rw [S.K]; exact q2
  have a3 : Raises X (.ref (He.ga G.K x)) := raises_own (by rw [S.K]; exact q3) (by rw [S.K]; exact q4)
  have a4 : X.mg x = some (.ref (He.ga G.K x)) := by rw [S.mg]; exact h.mg
  have a5 : Gl X x := S.gl hg
  exact ps_raise S.calm S.tk (pmk_own PySem.F.excBase_ValueError a1 a4 a2 a3 a5 hdb)⟩
structure XCat (G : GG) (x : Str) (cs : List Str) : Prop where
  mg : G.mg x = some (clsV G.K x)
  exm : ∀ c ∈ cs, PySem.W.exmOne G.K (clsV G.K c) (clsV G.K x) = some true
def sTryKeep (cs : List Str) (i j : Nat) (t : DTS) : DTS := fun _ E env => t (fun c env1 => c ∈ cs ∧ i < env1.length ∧ E.nx ((env1.set j (.ext (.exc c))).set i .un)) E env
theorem ds_tryKeep {x n m : Str} {cs : List Str} {body : List Stmt} {t : DTS} {np pm pn ap pos pos' : Pos} (i j : Nat) (hx : XCat G x cs) (hb : DSs G N sc k body t) (htop : sc.top = true := by rfl) (hi : N[i]? = some n := by rfl) (hj : N[j]? = some m := by rfl) (hij : i ≠ j := by decide)
    (hg : GlS sc x := by rfl) (hn : sc.sc.names.lookup n = some .local := by rfl) (hm : sc.sc.names.lookup m = some .local := by rfl) (hdb : (x == ("__debug__" : Str)) = false := by decide)
    (hdn : (n == ("__debug__" : Str)) = false := by decide) (hcn : (n == ("__classdict__" : Str)) = false := by decide) (hs : ∀ env, env.scope = sc.sc → swapsWith (.Name n pn) (some (.Name m pm)) ap.line env = pure false := by intro _ _; rfl) :
    DS G N sc k (.Try body [.ExceptHandler (some (.Name x np)) (some n) [.Assign [.Name m pm] (.Name n pn) ap] pos'] [] [] pos) (sTryKeep cs i j t) := ⟨fun W => by
  have tb : ∀ W' : WX, ∃ ts, (∀ X, Sit G N sc W' k X → PSs X body ts) ∧ ImS G.K W' ts t := hb.ex
  let ts : WX → TS := fun W' => Classical.choose (tb W')
  have p1 : ∀ W' X, Sit G N sc W' k X → PSs X body (ts W') := fun W' => (Classical.choose_spec (tb W')).1
  have i1 : ∀ W', ImS G.K W' (ts W') t := fun W' => (Classical.choose_spec (tb W')).2
  let su : Addr → Value → Option Addr → TS := fun _ _ _ => tAsg (tVar i) (gName j)
  refine ⟨fun D σ H => ts (wKeep G.K (clsV G.K x) i su W D) D σ H, fun X S => ?_, fun e Ex hl env F σ H E Dn hh ht ok => ?_⟩
  · have hk : X.env.kindOf n = some .local := by unfold Env.kindOf; rw [S.scp]; exact hn
    have key := ps_try_keep (X := X) (x := x) (n := n) (c := clsV G.K x) (i := i) (body := body) (suite := []) (b0 := .Assign [.Name m pm] (.Name n pn) ap) (np := np) (pos := pos) (pos' := pos') (tb := ts) (ts := su) (Wout := W)
      (S.stk htop).1 (S.stk htop).2 (by rw [S.nms]; exact S.nd) (by rw [S.nms]; exact hi) hk ⟨S.gl hg, hdb, .inl (by rw [S.mg]; exact hx.mg)⟩ S.tk
      (fun W' pn xe tk own => p1 W' _ ⟨S.prog, S.w, S.K, S.mg, S.base, S.nms, S.nd, S.scp, S.calm, S.room, tk, S.fn, own, S.stk, S.gd⟩)
      (fun a oe cls d pn hz hd => pss_one (ps_set (X := X.suite a ((a, oe) :: pn)) (i := j) (by rw [show (X.suite a ((a, oe) :: pn)).N = N from S.nms]; exact S.nd) (by rw [show (X.suite a ((a, oe) :: pn)).N = N from S.nms]; exact hj) (.inl (by show X.env.kindOf m = _; unfold Env.kindOf; rw [S.scp]; exact hm)) (pe_var (by rw [show (X.suite a ((a, oe) :: pn)).N = N from S.nms]; exact hi) (.inl hk) hdn hcn) (hs _ S.scp) (.inr (by show X.env.scope.names.lookup m = _; rw [S.scp]; exact hm))))
    rw [S.K] at key
    exact key
  · refine i1 _ e _ (fun c env1 F1 σ1 H1 h1 q1 => ?_) env F σ H E Dn hh ht ok
    obtain ⟨hc, hil, q⟩ := q1
    refine ⟨true, hx.exm c hc, fun _ a oe na zc hd => ?_, fun z => by cases z⟩
    have g := Grow.frozen (o := .frz oe (.own a)) h1.fh na
    have h2 := h1.grow g
    have rp : Rep G.K (upd F1 a (.frz oe (.own a))) (.exc c) (.ref a) := ⟨a, oe, rfl, upd_same, zc.1, zc.2, hd⟩
    have h3 := ((h2.pushE rp).assign j trivial).wipe1 i
    have e1 : (((σ1.set i (some (V.ref a))).set j (some (V.ref a))).set i none) = (σ1.set j (some (V.ref a))).set i none := by
      rw [List.set_comm _ _ hij, List.set_set]
    refine ⟨.ref a, ?_, ?_⟩
    · rw [List.getElem?_set_self (by rw [← h1.len]; exact hil)]
    · show Dn.nx (((σ1.set i (some (V.ref a))).set j (some (V.ref a))).set i none) _
      rw [e1]
      exact ok.nx _ _ _ _ h3 q⟩
end
end HD
namespace HD
open PySem L2
abbrev FTab := Str → Option (Nat × DSpec)
def dCallV (FT : FTab) (i : Nat) (ta : DTA) : DT := fun Ex env Q => match env[i]? with
  | some (.ext (.glo nm)) => ∃ n spec, FT nm = some (n, spec) ∧ dCall spec ta Ex env Q
  | _ => False
section
variable {G : GG} {N : List Str} {sc : SC} {k kf : Nat} {x : Str} {FT : FTab} {e : Expr} {es : List Expr} {p pos : Pos}
theorem de_glo {x : Str} {pos : Pos} (hm : G.mg x = some (clsV G.K x)) (hg : GlS sc x := by rfl) (hd : (x == ("__debug__" : Str)) = false := by decide) : DE G N sc k (.Name x pos) (dC (.glo x)) :=
  ⟨fun _ => ⟨tC (.ref (He.ga G.K x)), fun X S => pe_glob (S.gl hg) (by rw [S.mg]; exact hm) rfl hd, im_const fun _ => rfl⟩⟩
end
end HD
namespace HD
open PySem L2
def isxB (K : PySem.W.Frag) (x : Str) : Bool :=
  decide (PySem.W.findIn K (clsV K x) "__getattribute__" = some (some (.builtin "BaseException.__getattribute__"))) && (decide (PySem.W.findIn K (clsV K x) "__getattr__" = some none) && (decide (PySem.W.subIn K (clsV K x) (.type "BaseException") = some true) &&
    (PySem.W.hasDictIn K (He.ga K x) && (decide (PySem.W.findIn K (clsV K x) "__class__" = some (some (.builtin "object.__class__"))) && (decide (PySem.W.specialIn K (.builtin "object.__class__") "__get__" = some (some (.builtin "getset_descriptor.__get__"))) &&
      (decide (PySem.W.takesIn K (.builtin "object.__class__") = some true) && decide (PySem.W.mroIn K (He.ga K x) (.type "object") = some true)))))))
theorem isx_kit {K : PySem.W.Frag} {x : Str} {a : Addr} {oe : Obj} (h : isxB K x = true) : PySem.W.KitX K (.ref a) (clsV K x) (fun g => PySem.W.InstAt g a oe (He.ga K x) none) := by
  unfold isxB at h
  simp only [Bool.and_eq_true, decide_eq_true_eq] at h
  obtain ⟨h1, h2, h3, h4, h5, h6, h7, h8⟩ := h
  exact PySem.W.handS_kitx_exc h1 h2 h3 h4 h5 h6 h7 h8
abbrev XTab := Str → D → Option Bool
def D.clsVal (K : PySem.W.Frag) : D → Option Value
  | .glo x => some (clsV K x)
  | .val (.ty T) => some (.type T)
  | _ => none
structure XIs (K : PySem.W.Frag) (tab : XTab) : Prop where
  all : ∀ c d b, tab c d = some b → isxB K c = true ∧ ∃ u, D.clsVal K d = some u ∧ PySem.W.kitOne K (clsV K c) u = some b
def fIsX (tab : XTab) : List D → (Sl → Prop) → Prop
  | [.exc c, d], Q => ∃ b, tab c d = some b ∧ Q (.ext (.bl b))
  | _, _ => False
def rIsX (K : PySem.W.Frag) : List V → Hp → VK → Prop := fun xs H Q => ∃ (a : Addr) (oe : Obj) (x : Str) (v : V) (u : Value) (b : Bool), xs = [.ref a, v] ∧ H a = some (.frz oe (.own a)) ∧ oe.cls = clsV K x ∧ oe.dict = none ∧ (∃ vs, oe.data = .fields vs) ∧
  isxB K x = true ∧ (∀ w, RelV v w → w = u) ∧ PySem.W.kitOne K (clsV K x) u = some b ∧ Q (.bl b) H
theorem call_isX {X : Cx} : CallR X (.builtin "isinstance") (rIsX X.K) := by
  intro pins s σ H xs us Q I r h
  obtain ⟨a, oe, x, v, u, b, rfl, hH, hc, hd, ⟨vs, hf⟩, hx, hv, e, q⟩ := h
  obtain ⟨u1, u2, rfl, r1, r2⟩ := vals2 r
  cases (show u1 = Value.ref a from r1)
  have e2 := hv _ r2
  subst e2
  have ho := (I.hok a _ hH).1
  have ia : PySem.W.InstAt s.heap a oe (He.ga X.K x) none := ⟨ho, hc, by unfold PySem.W.notCls; rw [hf], by rw [hd]; trivial⟩
  exact PySem.W.kia_one (isx_kit hx) I.kIn ia e (by intro z; cases z) fun tk => ⟨.bl b, H, I.tok tk, rfl, q⟩
theorem pr_isX {K : PySem.W.Frag} {tab : XTab} (T : XIs K tab) : Pr K (rIsX K) (fIsX tab) := fun F H vs ds Q R fh h hf ha => by
  rcases ds with _ | ⟨d1, _ | ⟨d, _ | ⟨d3, ds⟩⟩⟩ <;> try exact hf.elim
  · cases d1 <;> exact hf.elim
  · cases d1 <;> try exact hf.elim
    rename_i c
    obtain ⟨b, hb, q⟩ := hf
    obtain ⟨h1, u, h2, h3⟩ := T.all c d b hb
    obtain ⟨v1, r1, rfl, g1, v2, r2, rfl, g2, rfl⟩ := h
    have g1' : Rep K F (.exc c) v1 := by
      rcases g1 with z | ⟨_, _, _, z, _⟩
      · exact z
      · cases z
    obtain ⟨a, oe, rfl, x1, x2, x3, x4⟩ := g1'
    refine ⟨a, oe, c, v2, u, b, rfl, fh _ _ x1, x2, x3, x4, h1, fun w hw => ?_, h3, ha.bl fh q⟩
    rcases g2 with z | ⟨_, _, _, z, _⟩
    · cases d with
      | glo y =>
        have e1 : v2 = .ref (He.ga K y) := z
        subst e1
        have e2 : w = .ref (He.ga K y) := hw
        cases h2
        exact e2
      | val y =>
        have e1 : v2 = y := z
        subst e1
        cases v2 with
        | ty T =>
          cases h2
          exact hw
        | _ => cases h2
      | _ => cases h2
    · subst z
      cases h2
  · cases d1 <;> exact hf.elim
section
variable {G : GG} {N : List Str} {sc : SC} {k : Nat} {e : Expr} {es : List Expr} {t : DTA} {p pos : Pos} {tab : XTab}
theorem de_isX (T : XIs G.K tab) (hm : G.mg "isinstance" = none) (ha : DAs G N sc k (e :: es) t) (hg : GlS sc "isinstance" := by rfl)
    (he : NoStar e es := by intro _; rfl) (hpl : ∀ env, (backTo pos (starEach es env)).any (·.1) = false := by intro _; rfl) : DE G N sc k (.Call (.Name "isinstance" p) (e :: es) [] pos) (dCB (fIsX tab) t) := ⟨fun W => by
  obtain ⟨ta, p1, i1⟩ := ha.ex W
  refine ⟨tCB (rIsX G.K) ta, fun X S => ?_, im_cb (pr_isX T) i1⟩
  have c : CallR X (.builtin "isinstance") (rIsX X.K) := call_isX
  rw [S.K] at c
  exact pe_callB c (S.gl hg) (by rw [S.mg]; exact hm) (by decide +kernel) (p1 X S) (by decide) (by decide) (he _) (hpl _)⟩
end
end HD
namespace HD
open PySem PyProof.Rows L2
section
variable {X : Cx}
def rCntV (K : PySem.W.Frag) : V → List V → Hp → VK → Prop := fun x xs H Q => ∃ (a : Addr) (ys : List V) (y : V), x = V.ref a ∧ xs = [y] ∧ SqL K H a ys ∧ flatV y = true ∧ ys.all flatV = true ∧ Q (.int ((ys.countP fun z => eqV z y : Nat) : Int)) H
theorem mt_countF : MtR X "list.count" (rCntV X.K) := by
  intro pins s σ H x xs v us Q I rx rs h
  obtain ⟨p, ys, y, rfl, rfl, hs, fy, fys, q⟩ := h
  cases rx
  obtain ⟨u, rfl, ru⟩ := vals1 rs
  obtain ⟨its, r, ⟨⟨cls, dd, data, sl⟩, n, ho, hc, hdn, hd⟩, hlen⟩ := I.list hs
  simp only at hc hd
  subst hc hd
  have ec : ∀ {zs : List V} {ws : List Value}, Vals zs ws → zs.all flatV = true → ws.countP (eqU y) = zs.countP fun z => eqV z y := by
    intro zs ws rv
    induction rv with
    | nil => intro _; rfl
    | cons r1 rr ih =>
      intro hf
      rw [List.all_cons, Bool.and_eq_true] at hf
      rw [List.countP_cons, List.countP_cons, ih hf.2, eqU_of r1 hf.1]
  refine call_meets PySem.F.slot_list_count ⟨_, ho, rfl⟩ PySem.F.entry_list_count (PySem.F.args_list_count_2 _ _)
    (SeqAt.list_countAt p its.toArray n dd sl u (eqU y)) ⟨ho, fun w hw => mem_eqAt ru fy r fys w (by simpa using hw), ?_⟩
  refine ⟨.int ((ys.countP fun z => eqV z y : Nat) : Int), H, I.tok _, ⟨s.toks, ?_⟩, q⟩
  show Value.int ((its.toArray.toList.countP (eqU y) : Nat) : Int) s.toks = _
  rw [show its.toArray.toList = its from rfl, ec r fys]
end
def dMeth (T : D → Bool) (f : D → D → (Sl → Prop) → Prop) (to ta : DT) : DT := fun Ex env Q => to Ex env fun x env1 => wd env1 x (fun d => T d = true) ∧ ta Ex env1 fun y env2 => wd env2 x fun d => wd env2 y fun d' => f d d' fun sl => Q sl env2
def TyIs (K : PySem.W.Frag) (tn : String) (T : D → Bool) : Prop := ∀ F H d v, Same F H → RepT K F H d v → T d = true → tyV K tn v H
def D.isLst : D → Bool
  | .lst _ => true
  | _ => false
theorem ty_lst {K : PySem.W.Frag} : TyIs K "list" D.isLst := fun F H d v fh r h => by
  cases d with
  | lst ds =>
    obtain ⟨a, vs, rfl, hs, _⟩ := r.lst fh
    exact .inl ⟨rfl, vs, SqL.of hs⟩
  | _ => exact absurd h (by simp [D.isLst])
section
variable {G : GG} {N : List Str} {sc : SC} {k : Nat} {a b : Expr} {ta tb : DT} {name : Str} {apos cpos : Pos} {tn id : String} {T : D → Bool} {r : PySem.W.Frag → V → List V → Hp → VK → Prop} {f : D → D → (Sl → Prop) → Prop}
theorem de_meth (pa : PlainAttrs tn) (slot : Slot tn name id) (hty : typeOf (.builtin id) = pure (.type "method_descriptor")) (hm : ∀ X : Cx, MtR X id (r X.K)) (hT : ∀ K, TyIs K tn T) (hr : ∀ K, Pr2 K (fun v u H R => r K v [u] H R) f) (ha : DE G N sc k a ta) (hb : DE G N sc k b tb)
    (hw : FewArgs a name b [] cpos := by intro _; exact ⟨rfl, rfl, rfl, rfl⟩) (hline : (apos.endLine == cpos.line) = true := by rfl) : DE G N sc k (.Call (.Attribute a name apos) [b] [] cpos) (dMeth T f ta tb) := ⟨fun W => by
  obtain ⟨te, p1, i1⟩ := ha.ex W
  obtain ⟨tf, p2, i2⟩ := hb.ex W
  refine ⟨tBM G.K tn (r G.K) te (tCons tf tNil), fun X S => ?_, fun e Ex hl env T' F σ H Q R hh ht hR => ?_⟩
  · obtain ⟨hbase, hfew, hs, hplain⟩ := hw X.env
    rw [← S.K]
    exact pe_bm pa slot hty (hm X) (p1 X S) (pa_cons (p2 X S) pa_nil hs) hbase hfew hline hs hplain
  · refine i1 e Ex hl env T' F σ H _ _ hh ht fun v H1 F1 env1 x hh1 q1 => ?_
    obtain ⟨q0, q1⟩ := q1
    obtain ⟨d0, rd0, h0⟩ := hh1.wd (v := v) (sl := x) List.mem_cons_self q0
    refine ⟨hT G.K F1 H1 d0 v hh1.fh rd0 h0, ?_⟩
    refine i2 e Ex hl env1 _ F1 σ H1 _ _ hh1 q1 fun u H2 F2 env2 y hh2 q2 => ?_
    obtain ⟨d, rd, q3⟩ := hh2.wd (v := v) (sl := x) (List.mem_cons_of_mem _ List.mem_cons_self) q2
    obtain ⟨d', rd', q4⟩ := hh2.wd (v := u) (sl := y) List.mem_cons_self q3
    exact hr G.K F2 H2 v u d d' _ R hh2.fh rd rd' q4 (hh2.pop.pop.done hR)⟩
end
def fCount (d d' : D) (Q : Sl → Prop) : Prop := match d with
  | .lst ds => d'.flat = true ∧ ds.all D.flat = true ∧ Q (.ext (.int ((ds.countP fun z => eqV z.toV d'.toV : Nat) : Int)))
  | _ => False
theorem pr_count (K : PySem.W.Frag) : Pr2 K (fun v u H R => rCntV K v [u] H R) fCount := fun F H v u d d' Q R fh r1 r2 h ha => by
  cases d <;> try exact h.elim
  rename_i ds
  obtain ⟨f1, f2, q⟩ := h
  obtain ⟨a, vs, rfl, hs, rr⟩ := r1.lst fh
  obtain ⟨x1, x2⟩ := flat_rep (r2.rep fh) f1
  obtain ⟨e1, e2⟩ := flat_reps rr f2
  refine ⟨a, vs, u, rfl, rfl, SqL.of hs, x2, e2, ?_⟩
  rw [x1, e1, List.countP_map]
  exact ha.int fh q
def fSplit (d d' : D) (Q : Sl → Prop) : Prop := match d, d' with
  | .str a, .str b => (b.length == 0) = false ∧ a.length + 2 ≤ sizeLine ∧ ∀ p, Q (.lst p ((Txt.split a b).map D.str))
  | _, _ => False
section
variable {G : GG} {N : List Str} {sc : SC} {k : Nat} {a b : Expr} {ta tb : DT} {apos cpos : Pos}
theorem de_count (ha : DE G N sc k a ta) (hb : DE G N sc k b tb) (hw : FewArgs a "count" b [] cpos := by intro _; exact ⟨rfl, rfl, rfl, rfl⟩) (hline : (apos.endLine == cpos.line) = true := by rfl) : DE G N sc k (.Call (.Attribute a "count" apos) [b] [] cpos) (dMeth D.isLst fCount ta tb) :=
  de_meth (r := rCntV) PySem.F.plainAttrs_list PySem.F.slot_list_count PySem.F.type_list_count (fun _ => mt_countF) (fun _ => ty_lst) pr_count ha hb hw hline
end
def xAll : List Str := ["NoFilling", "NoName", "TooMany", "NoDeeds", "NoOffers", "NoTree", "NoBag", "NoPart", "NoWorths", "NoBack", "NoWeights", "NoNumber", "NoRow", "NoText"]
def xtab (cs : List Str) : XTab := fun c d => if c ∈ cs then (match d with
  | .glo x => if x ∈ xAll then some (decide (x = c)) else none
  | .val (.ty T) => if T = "ValueError" then some true else none
  | _ => none) else none
def xsB (cs : List Str) (K : PySem.W.Frag) : Bool := cs.all fun c => isxB K c && ((xAll.all fun x => decide (PySem.W.kitOne K (clsV K c) (clsV K x) = some (decide (x = c)))) && (decide (PySem.W.kitOne K (clsV K c) (.type "ValueError") = some true) && decide (PySem.W.exmOne K (clsV K c) (clsV K "SumError") = some true)))
theorem xis_of {cs : List Str} {K : PySem.W.Frag} (h : xsB cs K = true) : XIs K (xtab cs) := ⟨fun c d b e => by
  unfold xtab at e
  split at e
  · rename_i hc
    have h := List.all_eq_true.1 h c hc
    simp only [Bool.and_eq_true, decide_eq_true_eq, List.all_eq_true] at h
    obtain ⟨h1, h2, h3, h4⟩ := h
    refine ⟨h1, ?_⟩
    split at e
    · rename_i x
      split at e
      · rename_i hx
        cases e
        exact ⟨_, rfl, h2 x hx⟩
      · cases e
    · rename_i T
      split at e
      · rename_i hT
        cases e
        subst hT
        exact ⟨_, rfl, h3⟩
      · cases e
    · cases e
  · cases e⟩
theorem xcat_of {cs : List Str} {G : GG} (h : xsB cs G.K = true) (hm : G.mg "SumError" = some (clsV G.K "SumError")) : XCat G "SumError" cs := ⟨hm, fun c hc => by
  have h := List.all_eq_true.1 h c hc
  simp only [Bool.and_eq_true, decide_eq_true_eq, List.all_eq_true] at h
  exact h.2.2.2⟩
def hookE (n : Nat) (fa : List He.Fa) (fn : List He.DefD) (ex : PySem.W.Frag → Bool) : PySem.W.Hook where
  α := He.AlD × Bool
  obs := fun s => (He.obsDG n fa fn s.heap.get?, ex (He.frG s.heap.get? (He.asD s.heap.get? n)))
  val := fun _ => (He.valD fn, true)
  says := fun _ h => ∃ K : PySem.W.Frag, K.In h ∧ He.SaysD fa fn K ∧ ex K = true
  of := fun _ _ e => ⟨_, He.frG_in, congrArg (fun z : He.AlD × Bool => z.1) e, congrArg (fun z : He.AlD × Bool => z.2) e⟩
  keeps := fun _ _ _ ⟨K, hK, c⟩ k => ⟨K, PySem.W.Frag.In.keeps hK k, c⟩
def obsE (n : Nat) (fa : List He.Fa) (fn : List He.DefD) (ex : PySem.W.Frag → Bool) (g : Addr → Option Obj) : He.AlD × Bool := (He.obsDG n fa fn g, ex (He.frG g (He.asD g n)))
theorem obsE_eq {n : Nat} {fa : List He.Fa} {fn : List He.DefD} {ex : PySem.W.Frag → Bool} {g : Addr → Option Obj} {s : Shared} (h : ∀ a, g a = s.heap.get? a) : obsE n fa fn ex g = (hookE n fa fn ex).obs s := by
  have e : g = s.heap.get? := funext h
  rw [e] <;> rfl
end HD
namespace HD
open PySem PySem.W L2 PySem.Calls PyProof.Rows HandSHeadRun
theorem obsE_app {n : Nat} {fa1 fa2 : List He.Fa} {fn1 fn2 : List He.DefD} {ex : PySem.W.Frag → Bool} {g : Addr → Option Obj} (h1 : obsE n fa1 fn1 (fun _ => true) g = (He.valD fn1, true)) (h2 : obsE n fa2 fn2 ex g = (He.valD fn2, true)) : obsE n (fa1 ++ fa2) (fn1 ++ fn2) ex g = (He.valD (fn1 ++ fn2), true) := by
  have a1 : He.obsDG n fa1 fn1 g = He.valD fn1 := congrArg (fun z : He.AlD × Bool => z.1) h1
  have a2 : He.obsDG n fa2 fn2 g = He.valD fn2 := congrArg (fun z : He.AlD × Bool => z.1) h2
  have a3 : ex (He.frG g (He.asD g n)) = true := congrArg (fun z : He.AlD × Bool => z.2) h2
  unfold He.obsDG He.obsD He.valD at a1 a2
  unfold obsE He.obsDG He.obsD He.valD
  rw [a3]
  generalize He.frG g (He.asD g n) = K at a1 a2
  have b1 := congrArg (fun z : He.AlD => z.1) a1
  have b2 := congrArg (fun z : He.AlD => z.1) a2
  have c1 := congrArg (fun z : He.AlD => z.2) a1
  have c2 := congrArg (fun z : He.AlD => z.2) a2
  dsimp only at b1 b2 c1 c2
  rw [Bool.and_eq_true] at b1 b2
  rw [List.all_append, List.all_append, List.map_append, List.map_append, b1.1, b1.2, b2.1, b2.2, c1, c2]
  rfl
theorem run_parts {r : OpenRow} {q : Program} {n M : Nat} {fa1 fa2 : List He.Fa} {fn1 fn2 : List He.DefD} {ex : PySem.W.Frag → Bool} {loose : List PySem.Str} {w : World}
    (h0 : ∀ os : OsState, (endF (stepQ (denQ tabQ) r.prog w) M r.prog w os).map (fun s => (looksF r.prog (boot_heap w.params) s.abs, seenQ q loose (importedModules r.prog.main.body) (fun s => xlAt q [] s && recOk r.toRowW.records s) s.abs)) = some (true, openGood q loose))
    (h1 : ∀ os : OsState, (endF (stepQ (denQ tabQ) r.prog w) M r.prog w os).map (fun s => obsE n fa1 fn1 (fun _ => true) (getT s)) = some (He.valD fn1, true))
    (h2 : ∀ os : OsState, (endF (stepQ (denQ tabQ) r.prog w) M r.prog w os).map (fun s => obsE n fa2 fn2 ex (getT s)) = some (He.valD fn2, true)) :
    RunEq r q (hookE n (fa1 ++ fa2) (fn1 ++ fn2) ex) (fun s => obsE n (fa1 ++ fa2) (fn1 ++ fn2) ex (getT s)) M loose w := by
  intro os
  have h0 := h0 os
  have h1 := h1 os
  have h2 := h2 os
  generalize endF (stepQ (denQ tabQ) r.prog w) M r.prog w os = X at h0 h1 h2 ⊢
  cases X with
  | none => cases h0
  | some s =>
    have h0 := Option.some.inj h0
    have h1 := Option.some.inj h1
    have h2 := Option.some.inj h2
    have e := obsE_app h1 h2
    have e1 := congrArg (fun z => z.1) h0
    have e2 := congrArg (fun z => z.2) h0
    dsimp only at e1 e2
    show some _ = some _
    dsimp only
    rw [e1, e2, e]
    rfl
end HD
namespace HD
open PySem L2
section
variable {g : DTG} {tt : DTT} {te : DT} {vs : List Nat} {keep : Env' → Prop} {Q : Sl → Env' → Prop} {env : Env'} {α : Type}
theorem fm_if {α β : Type} (f : α → β) (p : α → Bool) (xs : List α) : xs.filterMap (fun x => if p x = true then some (f x) else none) = (xs.filter p).map f := by
  induction xs with
  | nil => rfl
  | cons y xs ih =>
    by_cases hy : p y = true
    · rw [List.filterMap_cons_some (b := f y) (by rw [if_pos hy]), List.filter_cons_of_pos hy, List.map_cons, ih]
    · rw [List.filterMap_cons_none (by rw [if_neg hy]), List.filter_cons_of_neg hy, ih]
theorem lc_fm (i : α → D) (f : α → Option D) (hk : keep env) (xs : List α) : ∀ acc : List D, acc.length + xs.length ≤ sizeLine →
    (∀ x ∈ xs, ∀ R : Option D → Env' → Prop, R (f x) env → g (i x) env fun env1 => tt noX env1 fun b env2 => if b = true then te noX env2 fun y env3 => frzD env3 y fun d' env4 => R (some d') (wipeE env4 vs) else R none (wipeE env2 vs)) →
    (∀ a, Q (.lst a (acc ++ xs.filterMap f)) env) → lcD g tt te vs keep Q (xs.map i) acc env := by
  induction xs with
  | nil => intro acc _ _ hQ; exact ⟨hk, fun a => by simpa using hQ a⟩
  | cons x xs ih =>
    intro acc hl h hQ
    rw [List.length_cons] at hl
    rw [List.map_cons, lcD]
    refine ⟨hk, by omega, h x List.mem_cons_self (fun o env' => match o with
      | some d' => lcD g tt te vs keep Q (xs.map i) (acc ++ [d']) env'
      | none => lcD g tt te vs keep Q (xs.map i) acc env') ?_⟩
    cases e : f x with
    | none =>
      refine ih acc (by omega) (fun y hy => h y (List.mem_cons_of_mem _ hy)) fun a => ?_
      have := hQ a
      rw [List.filterMap_cons_none e] at this
      exact this
    | some d =>
      refine ih (acc ++ [d]) (by rw [List.length_append, List.length_singleton]; omega) (fun y hy => h y (List.mem_cons_of_mem _ hy)) fun a => ?_
      have := hQ a
      rw [List.filterMap_cons_some e] at this
      rw [List.append_assoc]
      exact this
theorem lc_map (i f : α → D) (hk : keep env) (xs : List α) (hl : xs.length ≤ sizeLine)
    (h : ∀ x ∈ xs, ∀ R : D → Env' → Prop, R (f x) env → g (i x) env fun env1 => te noX env1 fun y env3 => frzD env3 y fun d' env4 => R d' (wipeE env4 vs))
    (hQ : ∀ a, Q (.lst a (xs.map f)) env) : lcD g dYes te vs keep Q (xs.map i) [] env := by
  refine lc_fm i (fun x => some (f x)) hk xs [] (by simpa using hl) (fun x hx R hR => ?_) (fun a => by simpa [List.filterMap_eq_map] using hQ a)
  have := h x hx (fun d e => R (some d) e) hR
  simp only [dYes, if_true]
  exact this
theorem lc_filter (i f : α → D) (p : α → Bool) (hk : keep env) (xs : List α) (hl : xs.length ≤ sizeLine)
    (h : ∀ x ∈ xs, ∀ R : Option D → Env' → Prop, R (if p x = true then some (f x) else none) env → g (i x) env fun env1 => tt noX env1 fun b env2 => if b = true then te noX env2 fun y env3 => frzD env3 y fun d' env4 => R (some d') (wipeE env4 vs) else R none (wipeE env2 vs))
    (hQ : ∀ a, Q (.lst a ((xs.filter p).map f)) env) : lcD g tt te vs keep Q (xs.map i) [] env := by
  refine lc_fm i (fun x => if p x = true then some (f x) else none) hk xs [] (by simpa using hl) h (fun a => ?_)
  have e := fm_if f p xs
  rw [List.nil_append, e]
  exact hQ a
theorem lc_ind (i : α → D) (P : List α → List D → Env' → Prop) (hnil : ∀ acc env, P [] acc env → keep env ∧ ∀ a, Q (.lst a acc) env)
    (hcons : ∀ x xs acc env (N : List D → Env' → Prop), P (x :: xs) acc env → (∀ acc' env', P xs acc' env' → N acc' env') → keep env ∧ acc.length < sizeLine ∧ g (i x) env fun env1 => tt noX env1 fun b env2 => if b = true then te noX env2 fun y env3 => frzD env3 y fun d' env4 => N (acc ++ [d']) (wipeE env4 vs) else N acc (wipeE env2 vs)) :
    ∀ (xs : List α) (acc : List D) (env : Env'), P xs acc env → lcD g tt te vs keep Q (xs.map i) acc env := by
  intro xs
  induction xs with
  | nil => intro acc env h; exact hnil acc env h
  | cons x xs ih =>
    intro acc env h
    rw [List.map_cons, lcD]
    exact hcons x xs acc env (fun acc' env' => lcD g tt te vs keep Q (xs.map i) acc' env') h fun acc' env' h' => ih acc' env' h'
end
section
variable {g : DTG} {body : DTS} {keep : Env' → Prop} {Ex : DX} {E : DEnds} {α : Type}
theorem for_ind (i : α → D) (P : List α → Env' → Prop) (hnil : ∀ env, P [] env → keep env ∧ E.nx env)
    (hcons : ∀ x xs env (N : Env' → Prop), P (x :: xs) env → (∀ env', P xs env' → N env') → keep env ∧ g (i x) env fun env1 => body Ex { E with nx := N, ct := N, bk := E.nx } env1) :
    ∀ (xs : List α) (env : Env'), P xs env → forD g body keep Ex E (xs.map i) env := by
  intro xs
  induction xs with
  | nil => intro env h; exact hnil env h
  | cons x xs ih =>
    intro env h
    rw [List.map_cons, forD]
    exact hcons x xs env _ h fun env' h' => ih env' h'
end
theorem for_indD {g : DTG} {body : DTS} {keep : Env' → Prop} {Ex : DX} {E : DEnds} (P : List D → Env' → Prop) (hnil : ∀ env, P [] env → keep env ∧ E.nx env)
    (hcons : ∀ x xs env (N : Env' → Prop), P (x :: xs) env → (∀ env', P xs env' → N env') → keep env ∧ g x env fun env1 => body Ex { E with nx := N, ct := N, bk := E.nx } env1)
    (xs : List D) (env : Env') (h : P xs env) : forD g body keep Ex E xs env := by
  have := for_ind (fun d : D => d) P hnil hcons xs env h
  rwa [List.map_id'] at this
theorem dCallV_w (FT : FTab) (i : Nat) (ta : DTA) (Ex : DX) (env : Env') (Q : Sl → Env' → Prop) : dCallV FT i ta Ex env Q = AtS env[i]? (fun d => match d with | .glo nm => ∃ n spec, FT nm = some (n, spec) ∧ dCall spec ta Ex env Q | _ => False) (fun _ _ => False) .mk .mk := by
  unfold dCallV AtS
  rcases env[i]? with _ | (_ | d | _ | _ | _) <;> try rfl
  cases d <;> rfl
end HD
namespace HD
open PySem PySem.Spec PyProof.Rows L2
abbrev eSet (w : World) : Obj := { cls := .type "set", dict := none, data := .set #[] 0 (.fresh 0 0 (!w.params.followText "set-order")) }
section
variable {P : Program} {w : World} {A : Around} {E : Value → Shared → Prop} {t : Shared}
theorem set_of_lst {q : Addr} {xs : Array Value} (ks : List Int) {Q : Value → Shared → Prop} (cool : A.handled = none) (isl : t.heap.IsList q xs) (hin : IntsAre xs.toList ks) (few : ks.length + 1 < scanBound)
    (done : ∀ (g : Heap) (tok c : Nat), SetR w g t.heap.objs.size (fun j => decide (j ∈ ks)) c → c ≤ ks.length → (∀ b o, t.heap.get? b = some o → g.get? b = some o) → Q (.ref t.heap.objs.size) { t with heap := g, toks := tok }) :
    wpAny (model P w) A (call (.type "set") [.ref q]) Q E t := by
  have len : xs.size = ks.length := by
    have z := IntsAre.length hin
    rwa [Array.length_toList] at z
  obtain ⟨c0, tl0, f1⟩ := F.called_set.mro
  have f2 := F.called_set.made
  have f3 := F.called_set.sub
  have f4 := F.called_set.notType
  have f5 := F.called_set.canCreate
  have f6 := F.typeCall_set_1 (.ref q)
  refine wpAny_call (codeAny_of_tree ?_)
  show wpAny _ _ (callAny (.type "set") _) _ _ _
  refine wpAny_pure ⟨Code.quiet_builtin _ (by decide +kernel), codeAny_builtin F.entry_type_call ?_⟩
  rw [Around.under_plain (weight_type_call_type "set" [.ref q] []) rfl]
  repeat (any_goals (first | assumption | wp_step))
  refine codeAny_mono (code_set_led1 (.ref q) (E := E) (Q₁ := fun v t1 => v = .ref t.heap.objs.size ∧ t1 = { t with heap := t.heap.push (eSet w) }) ⟨rfl, rfl⟩) fun res t1 hres => ?_
  cases res with
  | error x => exact hres
  | ok fl =>
    cases fl with
    | ret v =>
      obtain ⟨rfl, rfl⟩ := hres
      have new : (t.heap.push (eSet w)).get? t.heap.objs.size = some (eSet w) := Heap.get?_push_size _ rfl
      have ty : Shared.TypeIs { t with heap := t.heap.push (eSet w) } (.ref t.heap.objs.size) "set" := ⟨_, new, rfl⟩
      have f7 := F.called_set.init.lookup
      have f8 := F.called_set.init.bind (.ref t.heap.objs.size)
      repeat (any_goals (first | assumption | wp_step))
      refine codeAny_mono (codeAny_call_builtin (R := wants (fun v t2 => v = .none ∧ ∃ g tok c, t2 = { t with heap := g, toks := tok } ∧ SetR w g t.heap.objs.size (fun j => decide (j ∈ ks)) c ∧ c ≤ ks.length ∧
        (∀ b o, t.heap.get? b = some o → g.get? b = some o)) E) F.called_set.init.plain F.entry_set_init (check_set_init_1 ty ?_)) fun res2 t2 hres2 => ?_
      · obtain ⟨⟨lc, ld, lda, lsl⟩, at_q, cls_q, n_q, dat_q⟩ := isl
        simp only at cls_q dat_q
        subst cls_q
        subst dat_q
        have at_q1 : (t.heap.push (eSet w)).get? q = some { cls := .type "list", dict := ld, data := .seq xs n_q, slots := lsl } := Heap.get?_push_of_some _ at_q
        have f9 := F.sub_list_set
        have f10 := F.sub_list_frozenset
        have f11 : (Value.type "list" == Value.type "dict") = false := by decide
        have isl1 : (t.heap.push (eSet w)).IsList q xs := ⟨_, at_q1, rfl, n_q, rfl⟩
        have lt_q : q < t.heap.objs.size := Heap.lt_size at_q
        have cool3 : A.in1.in1.in1.handled = none := by simp [cool]
        have szp : (t.heap.push (eSet w)).objs.size = t.heap.objs.size + 1 := Heap.size_push ..
        have apart : q ≠ (t.heap.push (eSet w)).objs.size := by rw [szp]; exact Nat.ne_of_lt (Nat.lt_succ_of_lt lt_q)
        have away : t.heap.objs.size ∉ [(t.heap.push (eSet w)).objs.size, q] := by
          rw [szp]
          intro z
          rcases List.mem_cons.1 z with z | z
          · exact absurd z (Nat.ne_of_lt (Nat.lt_succ_self _))
          · exact absurd (List.mem_singleton.1 z).symm (Nat.ne_of_lt lt_q)
        have vals : ∀ (i : Nat) (v : Value), xs[i]? = some v → ∃ k u, ks[i]? = some k ∧ v = .int k u := fun i v hv => by
          have hi : i < ks.length := by rw [← len]; exact (Array.getElem?_eq_some_iff.mp hv).1
          obtain ⟨u, e⟩ := PyProof.Rows.IntsAre.int_at hin i v (by rw [Array.getElem?_toList]; exact hv)
          refine ⟨ks[i], u, List.getElem?_eq_getElem hi, ?_⟩
          rw [e, List.getD_eq_getElem?_getD, List.getElem?_eq_getElem hi] <;> rfl
        unfold Builtin.«set.__init__» noKeywords Builtin.Frozenset.updateFrom
        generalize hit : pyIter = it
        wp_walk
        subst hit
        refine wpAny_pyIter_list isl1 ?_
        refine wpAny_bind (wpAny_runValue ?_)
        refine set_update_ints ((Walks.list cool3 _ q apart xs).toS) t.heap.objs.size away ks len few vals (xs.size - 0) 0 _ (by omega) (Nat.zero_le _) ⟨⟨_, Heap.get?_push_size _ rfl, rfl, rfl⟩, (isl1.push _)⟩ ?start ?over
        case start => exact ⟨0, Nat.le_refl 0, setR_new_at (Heap.get?_push_of_some _ new)⟩
        case over =>
          intro t3 c mv hc hset
          obtain ⟨g, g2, d2, tok, os2⟩ := t3
          have e1 : g2 = t.gens := mv.gens
          have e2 : d2 = t.drawn := mv.drawn
          have e3 : os2 = t.os := mv.os
          subst e1
          subst e2
          subst e3
          show wpAny _ _ _ _ _ _
          refine wpAny_pure ?_
          show wpAny _ _ (ret Value.none) _ _ _
          rw [len] at hc
          refine wpAny_pure ⟨rfl, g, tok, c, rfl, hset, hc, fun b o e => mv.heap b o (fun z => ?_) (Heap.get?_push_of_some _ (Heap.get?_push_of_some _ e))⟩
          have lb := Heap.lt_size e
          rcases List.mem_cons.1 z with z | z
          · exact absurd z (Nat.ne_of_lt lb)
          · have z2 := List.mem_singleton.1 z
            rw [szp] at z2
            exact absurd z2 (Nat.ne_of_lt (Nat.lt_succ_of_lt lb))
      · cases res2 with
        | error x => exact hres2
        | ok fl2 =>
          cases fl2 with
          | ret v =>
            obtain ⟨rfl, g, tok, c, rfl, h1, h2, h3⟩ := hres2
            repeat (any_goals (first | assumption | wp_step))
            exact done _ _ _ h1 h2 h3
          | _ => exact hres2.elim
    | _ => exact hres.elim
end
def rSetLI (K : PySem.W.Frag) (w : World) : List V → Hp → VK → Prop := fun xs H Q => ∃ (a : Addr) (ns : List Int), xs = [.ref a] ∧ SqL K H a (ns.map V.int) ∧ ns.length + 1 < scanBound ∧ ∀ (p : Addr) (c : Nat), H p = none → c ≤ ns.length → Q (.ref p) (upd H p (SetO w p (fun j => decide (j ∈ ns)) c))
theorem cr_setLI {X : Cx} (hc : X.calm = true) : CallR X (.type "set") (rSetLI X.K X.w) := by
  intro pins s σ H xs us Q I r h
  obtain ⟨a, ns, rfl, hq, hb, q⟩ := h
  rw [Vals.ref1 r]
  obtain ⟨its, r', ⟨o, n, ho, h1, h2, h3⟩, _⟩ := I.list hq
  refine set_of_lst ns (I.ok.hd hc) (q := a) (xs := its.toArray) ⟨o, ho, h1, n, h3⟩ (by rw [List.toList_toArray]; exact intsAre_of r') hb fun g tk c R hc' hk => ?_
  have hn : H s.heap.objs.size = none := I.hok.fresh (Nat.le_refl _)
  exact ⟨.ref s.heap.objs.size, _, I.laid (t' := tk) hk (Nat.le_refl _) (setO_new R), rfl, q _ c hn hc'⟩
section
variable {G : GG} {N : List Str} {sc : SC} {k : Nat} {a : Expr} {ta : DT} {p p2 pos pos2 : Pos}
def dSortSetL (t : DT) : DT := fun Ex env Q => t Ex env fun x env1 => wd env1 x fun d => match d with
  | .lst ds => ∃ ns : List Int, ds = ns.map D.int ∧ ns.length < 64 ∧ ∀ (ns' : List Int) (b : Addr), ns'.Pairwise (· < ·) → (∀ n : Int, n ∈ ns' ↔ n ∈ ns) → Q (.lst b (ns'.map D.int)) env1
  | _ => False
theorem de_sortsetL (ha : DE G N sc k a ta) (hm : G.mg "sorted" = none) (hm2 : G.mg "set" = none) (hg : GlS sc "sorted" := by rfl) (hg2 : GlS sc "set" := by rfl) (n1 : NoStar a [] := by intro _; rfl) (n2 : NoStar (.Call (.Name "set" p2) [a] [] pos2) [] := by intro _; rfl) (hp1 : ∀ env, (backTo pos (starEach [] env)).any (·.1) = false := by intro _; rfl) (hp2 : ∀ env, (backTo pos2 (starEach [] env)).any (·.1) = false := by intro _; rfl) :
    DE G N sc k (.Call (.Name "sorted" p) [.Call (.Name "set" p2) [a] [] pos2] [] pos) (dSortSetL ta) := ⟨fun W => by
  obtain ⟨te, p1, i1⟩ := ha.ex W
  refine ⟨tCB (rSortedSet G.w) (tCons (tCB (rSetLI G.K G.w) (tCons te tNil)) tNil), fun X S => ?_, fun e Ex hl env T F σ H Q R hh ht hR => ?_⟩
  · have c1 := cr_sortedSet (X := X) S.calm
    have c2 := cr_setLI (X := X) S.calm
    rw [S.w] at c1
    rw [S.w, S.K] at c2
    exact pe_callB c1 (S.gl hg) (by rw [S.mg]; exact hm) (by decide +kernel) (pa_cons (pe_callTy c2 (S.gl hg2) (by rw [S.mg]; exact hm2) (by decide +kernel) (pa_cons (p1 X S) pa_nil (n1 _)) (by decide) (by decide) (n1 _) (hp2 _)) pa_nil (n2 _)) (by decide) (by decide) (n2 _) (hp1 _)
  · refine i1 e Ex hl env T F σ H _ _ hh ht fun v H1 F1 env1 x hh1 q1 => ?_
    obtain ⟨d, rd, q2⟩ := hh1.wd (v := v) (sl := x) List.mem_cons_self q1
    cases d with
    | lst ds =>
      obtain ⟨ns, rfl, hl64, q⟩ := q2
      obtain ⟨c, vs, rfl, e1, r1⟩ := rd.lst hh1.fh
      have z := r1.ints
      subst z
      refine ⟨c, ns, rfl, SqL.of e1, Nat.lt_of_lt_of_le (Nat.add_lt_add_right hl64 1) (by decide), fun p' cn hn hc => ?_⟩
      refine ⟨p', _, cn, rfl, upd_same, Nat.lt_of_le_of_lt hc hl64, fun ns' p'' h1 h2 h3 hn2 => ?_⟩
      have aft := (hh1.pop.done hR).more (o := SetO G.w p' (fun j => decide (j ∈ ns)) cn) hh1.fh hn
      refine aft.lst (Grow.loose hh1.fh hn).fh hn2 (Reps.of_ints ns') (q ns' p'' h1 fun n => ?_)
      rw [h2 n]
      exact decide_eq_true_iff
    | _ => exact q2.elim⟩
theorem de_gint {x : Str} {i : Int} {pos : Pos} (h : ∃ t, G.mg x = some (.int i t)) (hg : GlS sc x := by rfl) (hd : (x == ("__debug__" : Str)) = false := by decide) : DE G N sc k (.Name x pos) (dC (.int i)) := by
  obtain ⟨t, h⟩ := h
  exact de_glob (v := .int i) hg h ⟨t, rfl⟩ (fun _ => rfl) hd
end
def FzS (o : Option Sl) (k : List D → Prop) (z : Prop) (_ : Tok k) (_ : Tok z) : Prop := match o with
  | some (.lst _ ds) => k ds
  | _ => z
theorem FzS_lst (a : Addr) (ds : List D) (k : List D → Prop) (z : Prop) (t : Tok k) (u : Tok z) : FzS (some (.lst a ds)) k z t u = k ds := rfl
theorem FzS_ext (d : D) (k : List D → Prop) (z : Prop) (t : Tok k) (u : Tok z) : FzS (some (.ext d)) k z t u = z := rfl
theorem sFz_w (i : Nat) (t : DTS) (Ex : DX) (E : DEnds) (env : Env') : sFz i t Ex E env = FzS env[i]? (fun ds => t Ex E (env.set i (.ext (.lst ds)))) (t Ex E env) .mk .mk := by
  unfold sFz FzS
  rcases env[i]? with _ | (_ | _ | _ | _ | _) <;> rfl
def fAbs : List D → (Sl → Prop) → Prop
  | [.int i], Q => Q (.ext (.int (if i < 0 then -i else i)))
  | _, _ => False
def fInt : List D → (Sl → Prop) → Prop
  | [.int i], Q => Q (.ext (.int i))
  | [.bl b], Q => Q (.ext (.int (if b then 1 else 0)))
  | _, _ => False
theorem t_int : TR "int" fInt := ⟨fun _ _ _ => fun xs H Q => (∃ i, xs = [.int i] ∧ Q (.int i) H) ∨ ∃ k, xs = [.bl k] ∧ Q (.int (if k then 1 else 0)) H, fun _ _ K F H vs ds Q R fh hr hf ha => by
    unfold fInt at hf
    split at hf
    · obtain ⟨v, rfl, r⟩ := hr.one
      exact .inl ⟨_, by rw [r.int], ha.int fh hf⟩
    · obtain ⟨v, rfl, r⟩ := hr.one
      exact .inr ⟨_, by rw [r.bl], ha.int fh hf⟩
    · exact hf.elim, fun X _ _ => call_int1⟩
end HD
namespace HD
open PySem PyProof.Rows L2
def rRepr (K : PySem.W.Frag) : List V → Hp → VK → Prop := fun xs H Q => ∃ (v : V) (d : PyData), xs = [v] ∧ Dp K H v d ∧ d.showable = true ∧ d.hasDict = false ∧ d.depth ≤ 60 ∧ d.shown.length ≤ sizeLine ∧ Q (.str d.shown) H
theorem call_repr {X : Cx} (gd : X.A.guards = some []) (hu : X.A.units + 64 < cLine) : CallR X (.builtin "repr") (rRepr X.K) := by
  intro pins s σ H xs us Q I r h
  obtain ⟨v, d, rfl, hd, hs, hn, hdp, hz, q⟩ := h
  obtain ⟨u, rfl, ru⟩ := vals1 r
  cases hd with
  | non =>
    cases (show u = Value.none from ru)
    exact PySem.P.repr_of_none ⟨.str _, H, I.tok _, ⟨_, rfl⟩, q⟩
  | bl b =>
    cases (show u = Value.bool b from ru)
    exact PySem.P.repr_of_bool ⟨.str _, H, I.tok _, ⟨_, rfl⟩, q⟩
  | int i =>
    obtain ⟨t, rfl⟩ := ru
    exact PySem.P.repr_of_int (by simpa [PyData.showable] using hs) ⟨.str _, H, I.tok _, ⟨_, rfl⟩, q⟩
  | str x =>
    obtain ⟨t, rfl⟩ := ru
    exact PySem.P.repr_of_str ⟨.str _, H, I.tok _, ⟨_, rfl⟩, q⟩ (by simpa only [PyData.shown] using hz)
  | lst h1 h2 =>
    obtain ⟨as, rd⟩ := Dp.reads I _ _ _ (.lst h1 h2) ru
    cases ru
    exact repr_of_reads' rd hs (PyData.noDict_hsm hn) gd (by omega) (fun b o e => e) (fun g u tk hk => ⟨.str _, H, I.kept (t' := tk) hk, ⟨_, rfl⟩, q⟩) hz
  | tup h1 h2 =>
    obtain ⟨as, rd⟩ := Dp.reads I _ _ _ (.tup h1 h2) ru
    cases ru
    exact repr_of_reads' rd hs (PyData.noDict_hsm hn) gd (by omega) (fun b o e => e) (fun g u tk hk => ⟨.str _, H, I.kept (t' := tk) hk, ⟨_, rfl⟩, q⟩) hz
structure D.sh (d : D) : Prop where
  nv : d.noVal = true
  ok : d.py.showable = true
  nd : d.py.hasDict = false
  dp : d.py.depth ≤ 60
  len : d.py.shown.length ≤ sizeLine
def fRepr : List D → (Sl → Prop) → Prop
  | [d], Q => d.sh ∧ Q (.ext (.str d.py.shown))
  | _, _ => False
theorem pr_repr (K : PySem.W.Frag) : Pr K (rRepr K) fRepr := fun F H vs ds Q R fh h hf ha => by
  rcases ds with _ | ⟨d, _ | ⟨d2, ds⟩⟩ <;> try exact hf.elim
  obtain ⟨v, rfl, r⟩ := h.one
  obtain ⟨hs, q⟩ := hf
  exact ⟨v, d.py, rfl, Rep.dp hs.nv (r.rep fh), hs.ok, hs.nd, hs.dp, hs.len, ha.str fh q⟩
section
variable {G : GG} {N : List Str} {sc : SC} {k : Nat} {e : Expr} {es : List Expr} {t : DTA} {p pos : Pos}
theorem de_repr (hm : G.mg "repr" = none) (ha : DAs G N sc k (e :: es) t) (hg : GlS sc "repr" := by rfl)
    (he : NoStar e es := by intro _; rfl) (hpl : ∀ env, (backTo pos (starEach es env)).any (·.1) = false := by intro _; rfl) : DE G N sc k (.Call (.Name "repr" p) (e :: es) [] pos) (dCB fRepr t) := ⟨fun W => by
  obtain ⟨ta, p1, i1⟩ := ha.ex W
  refine ⟨tCB (rRepr G.K) ta, fun X S => ?_, im_cb (pr_repr G.K) i1⟩
  have c : CallR X (.builtin "repr") (rRepr X.K) := call_repr S.gd S.units
  rw [S.K] at c
  exact pe_callB c (S.gl hg) (by rw [S.mg]; exact hm) (by decide +kernel) (p1 X S) (by decide) (by decide) (he _) (hpl _)⟩
end
def fLtT : D → D → (Sl → Prop) → Prop
  | .tup xs, .tup ys, Q => ∃ ns ms : List Int, xs = ns.map D.int ∧ ys = ms.map D.int ∧ Q (.ext (.bl (HT.lexLt ns ms)))
  | _, _, _ => False
def D.sv : Nat → D → Bool
  | _, .non => true
  | _, .bl _ => true
  | _, .int i => decide (i.natAbs.log2 < 1920)
  | _, .str x => x.cps.toList.all fun c => decide (c < 16 ^ 8)
  | k + 1, .lst ds => ds.all (D.sv k)
  | k + 1, .tup ds => ds.all (D.sv k)
  | _, _ => false
theorem bulks_app (a b : List D) : PyData.bulkAll (D.pys (a ++ b)) = PyData.bulkAll (D.pys a) + PyData.bulkAll (D.pys b) := by
  induction a with
  | nil => simp [D.pys, PyData.bulkAll]
  | cons d a ih => simp only [List.cons_append, D.pys, PyData.bulkAll, ih]; omega
theorem bulks_nD (l : List Nat) : PyData.bulkAll (D.pys (nD l)) = l.length := by
  induction l with
  | nil => rfl
  | cons x l ih => rw [nD_cons, D.pys, PyData.bulkAll, ih, List.length_cons]; simp [D.py, PyData.bulk]; omega
theorem bulks_iD (l : List Int) : PyData.bulkAll (D.pys (iD l)) = l.length := by
  induction l with
  | nil => rfl
  | cons x l ih => rw [iD_cons, D.pys, PyData.bulkAll, ih, List.length_cons]; simp [D.py, PyData.bulk]; omega
end HD
namespace HD
open PySem PyProof.Rows L2
def stepL {α : Type} (xs : List α) (c : Int) : List α := (sliceRange (sliceBounds none none (some c) xs.length).1 (sliceBounds none none (some c) xs.length).2.1 (sliceBounds none none (some c) xs.length).2.2).filterMap (xs[·]?)
def fStep (d : D) (o : Option Int) (Q : Sl → Prop) : Prop := match d, o with
  | .lst ds, some c => c ≠ 0 ∧ ∀ a, Q (.lst a (stepL ds c))
  | .fz ds, some c => c ≠ 0 ∧ ∀ a, Q (.lst a (stepL ds c))
  | .tup ds, some c => c = -1 ∧ Q (.ext (.tup ds.reverse))
  | _, _ => False
def dStep (ta : DT) (tp : DTO) : DT := fun Ex env Q => ta Ex env fun x env1 => tp Ex env1 fun o env2 => wd env2 x fun d => fStep d o fun sl => Q sl env2
end HD
namespace HD
open PySem L2
section
variable {G : GG} {N : List Str} {sc : SC} {k : Nat} {a b : Expr} {pos : Pos}
def sPar (i j : Nat) (t : DTA) : DTS := fun Ex E env => t Ex env fun xs env1 => frzDs env1 xs fun ds env2 => match ds with
  | [d, d'] => E.nx ((env2.set i (.ext d)).set j (.ext d'))
  | _ => False
end
end HD
namespace HD
open PySem L2
set_option maxHeartbeats 1000000 in
theorem meets_enum1 {v : Value} {o : Obj} {H : Heap → Prop} (B : Begins v o H) :
    PySem.Meets (Builtin.«enumerate.__new__» ⟨[.type "enumerate", v], []⟩) (fun _ R s => H s.heap ∧
      R (.ok (.ret (.ref (s.heap.push o).objs.size))) { s with heap := (s.heap.push o).push { cls := .type "enumerate", data := .fields #[.none, .bool false, .ref s.heap.objs.size, rawInt 0, .none, .none] } }) :=
  .of_wp fun prog w A R s h => by
    obtain ⟨hp, g, d, tk, os⟩ := s; obtain ⟨h1, h⟩ := h
    have hsub := sub_enumerate
    have q1 : ∀ {A' : Around} {E : Value → Shared → Prop} {Q : Value → Shared → Prop}, Q (.ref hp.objs.size) ⟨hp.push o, g, d, tk, os⟩ → wpAny (model prog w) A' (pyIter v) Q E ⟨hp, g, d, tk, os⟩ :=
      fun q => B.iter prog w _ _ ⟨hp, g, d, tk, os⟩ _ h1 q
    wp_walk using q1
    refine wpAny_stack_any fun st => wpAny_pure ?_
    split
    · rename_i c _ _ _ _ _
      cases (c == Value.type "enumerate")
      · wp_walk using q1
        exact ⟨_, rfl, h⟩
      · wp_walk using q1
        exact ⟨_, rfl, h⟩
    · wp_walk using q1
      exact ⟨_, rfl, h⟩
theorem enum_begins1 {prog : Program} {w : World} {A : Around} {E : Value → Shared → Prop} {s : Shared} {v : Value} {o : Obj} {H : Heap → Prop} {Q : Value → Shared → Prop} (B : Begins v o H) (h1 : H s.heap)
    (h : ∀ h', IsEnum h' (s.heap.objs.size + 1) s.heap.objs.size 0 .none → h'.get? s.heap.objs.size = some o → h'.objs.size = s.heap.objs.size + 2 →
      (∀ b o, s.heap.get? b = some o → h'.get? b = some o) → Q (.ref (s.heap.objs.size + 1)) { s with heap := h' }) :
    wpAny (model prog w) A (call (.type "enumerate") [v]) Q E s := by
  refine callType_new F.called_enumerate (by decide) (F.typeCall_enumerate_1 _) (F.newCall_enumerate_1 _) (fun obj => F.args_object_init_2 obj _) F.entry_enumerate_new
    (meets_enum1 B) ⟨h1, ?_⟩
  have hz : (s.heap.push o).objs.size = s.heap.objs.size + 1 := Heap.size_push ..
  show _ ∧ _
  rw [hz]
  have he : IsEnum ((s.heap.push o).push { cls := .type "enumerate", data := .fields #[.none, .bool false, .ref s.heap.objs.size, rawInt 0, .none, .none] }) (s.heap.objs.size + 1) s.heap.objs.size 0 .none := by
    have := Heap.get?_push_size (s.heap.push o) (o := { cls := .type "enumerate", data := .fields #[.none, .bool false, .ref s.heap.objs.size, rawInt 0, .none, .none] }) rfl
    rw [hz] at this; exact this
  refine ⟨⟨_, he, rfl⟩, h _ he (Heap.get?_push_of_some _ (Heap.get?_push_size _ B.free)) (by rw [Heap.size_push, hz]) fun b o x => Heap.get?_push_of_some _ (Heap.get?_push_of_some _ x)⟩
def IteX (b : Bool) (K : PySem.W.Frag) (a : Addr) : It :=
  ⟨fun i H => ∃ (xs : List V) (x : V), SqX b K H a xs ∧ xs[i]? = some x,
    fun i H v H' => ∃ T x, v = .ref T ∧ H T = none ∧ H' = upd H T (.tup [.int (i : Nat), x]) ∧ ∀ xs, SqX b K H a xs → xs[i]? = some x,
    fun i H => ∃ xs : List V, SqX b K H a xs ∧ i = xs.length⟩
theorem turn_enumX {P : Program} {w : World} {K : PySem.W.Frag} {elts : List Expr} {kk : Nat} {tpos : Pos} {b : Bool} {a n : Addr} (la : a < n) :
    Turn P w K (.Tuple elts kk tpos) (IteX b K a) [n + 1, n] (n + 1) (fun i h => (∃ old, IsEnum h (n + 1) n ((0 : Int) + (i : Int)) old) ∧ ItX b h n a i) where
  mem := by simp
  obj := fun i h st c hc => by
    obtain ⟨⟨old, he⟩, hi⟩ := st
    have e' : c = n + 1 ∨ c = n := by simpa using hc
    rcases e' with z | z
    · rw [z]; exact ⟨_, he, fun v q => nomatch q⟩
    · rw [z]; exact hi.obj
  keep := fun i h h' st k => by
    obtain ⟨⟨old, he⟩, hi⟩ := st
    exact ⟨⟨old, k (n + 1) (by simp) _ he⟩, hi.at fun o q => k n (by simp) o q⟩
  item := by
    intro X hP hw hK hc i pins s σ H E I hf st hg
    subst hP hw hK
    obtain ⟨he, hit⟩ := st
    obtain ⟨xs, x, hq, hx⟩ := hg
    obtain ⟨its, rv, p⟩ := Inv.seqX I hq
    obtain ⟨u, hu, ru⟩ := rv.get hx
    have hh := I.ok.hd hc
    have Z := GoesN.enumFrom (elts := elts) (x1 := kk) (pos := tpos) 0 (draws_X (prog := X.prog) (w := X.w) (A := X.A.in1) b hh n a (Nat.ne_of_lt la) its.toArray) (n + 1) (Nat.succ_ne_self _) (by
      intro z
      have e' : n + 1 = n ∨ n + 1 = a := by simpa using z
      have la' : (a : Nat) < n := la
      rcases e' with q | q
      · exact absurd q (Nat.succ_ne_self _)
      · exact absurd q (Nat.ne_of_gt (Nat.lt_succ_of_lt la'))) List.mem_cons_self
    have hi1 : i < its.length := (List.getElem?_eq_some_iff.mp hu).1
    refine Z.goes i s _ E (by rw [List.size_toArray]; exact hi1) ⟨he, hit, p⟩ fun v h' tk hY st' hk htk => ?_
    obtain ⟨T, t, x', rfl, hT, hx', hTup⟩ := hY
    rw [List.getElem?_toArray, hu] at hx'
    cases hx'
    obtain ⟨he', hit', _⟩ := st'
    have e0 : (0 : Int) + (i : Int) = (i : Int) := Int.zero_add _
    rw [e0] at hTup
    have new : ObjOk X.prog X.w (upd H T (.tup [.int (i : Nat), x])) h' T (.tup [.int (i : Nat), x]) := ⟨by show 2 ≤ sizeLine; decide, [.int i t, u], .cons ⟨_, rfl⟩ (.cons ru .nil), hTup⟩
    have I1 : L2.Inv X pins σ (upd H T (.tup [.int (i : Nat), x])) { s with heap := h', toks := tk } :=
      I.turnedNew (t' := tk) (ch := [n + 1, n]) (fun c o hb q => hk c o hb q) hf hT new
    refine ⟨.ref T, _, I1, rfl, ⟨T, x, rfl, I.hok.fresh hT, rfl, fun l hl => by rw [seqX_inj I hl hq]; exact hx⟩, ⟨he', hit'⟩, fun c hcm => ?_⟩
    have hlt : c < s.heap.objs.size := by
      have e' : c = n + 1 ∨ c = n := by simpa using hcm
      obtain ⟨old, he⟩ := he
      rcases e' with q | q
      · rw [q]; exact Heap.lt_size he
      · rw [q]; obtain ⟨_, e1, _⟩ := hit.obj; exact Heap.lt_size e1
    rw [upd_ne (Nat.ne_of_lt (Nat.lt_of_lt_of_le hlt hT))]
    exact (hf c hcm).1
  done := by
    intro X hP hw hK hc i pins s σ H E I hf st hg
    subst hP hw hK
    obtain ⟨he, hit⟩ := st
    obtain ⟨xs, hq, hend⟩ := hg
    obtain ⟨its, rv, p⟩ := Inv.seqX I hq
    have hh := I.ok.hd hc
    have Z := GoesN.enumFrom (elts := elts) (x1 := kk) (pos := tpos) 0 (draws_X (prog := X.prog) (w := X.w) (A := X.A.in1) b hh n a (Nat.ne_of_lt la) its.toArray) (n + 1) (Nat.succ_ne_self _) (by
      intro z
      have e' : n + 1 = n ∨ n + 1 = a := by simpa using z
      have la' : (a : Nat) < n := la
      rcases e' with q | q
      · exact absurd q (Nat.succ_ne_self _)
      · exact absurd q (Nat.ne_of_gt (Nat.lt_succ_of_lt la'))) List.mem_cons_self
    have en : i = its.toArray.size := by
      rw [List.size_toArray, ← rv.length]
      exact hend
    rw [en] at he hit
    refine Z.stops s _ E ⟨he, hit, p⟩ fun h' tk hk htk => ?_
    exact I.turnedL (t' := tk) (ch := [n + 1, n]) (fun c o hb q => hk c o hb q) hf
  self := fun A i s Q E st h => let ⟨⟨_, he⟩, _⟩ := st; wpAny_pyIter_enum he h
def iEnumX (K : PySem.W.Frag) (ta : TA) : TI := fun σ H R => ta σ H fun vs H1 => ∃ b a xs, vs = [.ref a] ∧ SqX b K H1 a xs ∧ R (IteX b K a) H1
theorem pi_enumX {X : Cx} {e : Expr} {ta : TA} {p pos tpos : Pos} {elts : List Expr} {kk : Nat} (hg : Gl X "enumerate") (hm : X.mg "enumerate" = none) (ha : PA X [e] ta) (hs : starEach [e] X.env = [(false, eval e X.env)]) :
    PI X (.Tuple elts kk tpos) (.Call (.Name "enumerate" p) [e] [] pos) (iEnumX X.K ta) := by
  refine ⟨fun pins s σ H R I h => ?_⟩
  refine PyProof.Rows.Call_ (ld_blt I hg hm PyProof.Rows.boot_enumerate (PyProof.Rows.callWith_type1 (thn (ha.run pos pins s σ H _ I h) fun us s1 ⟨vs, H1, I1, r1, q1⟩ => ?_) hs rfl))
  obtain ⟨b, a, xs, ex, hq, q⟩ := q1
  subst ex
  obtain ⟨u1, rfl, ru1⟩ := vals1 r1
  cases ru1
  obtain ⟨its, rv, p1⟩ := Inv.seqX I1 hq
  refine enum_begins1 (begins_X b a its.toArray) p1 fun h' he g1 hsz hk => wpAny_pyIter_enum he ?_
  have I2 : L2.Inv X pins σ H1 { s1 with heap := h' } := I1.kept (t' := s1.toks) hk
  refine ⟨s1.heap.objs.size + 1, [s1.heap.objs.size + 1, s1.heap.objs.size], _, _, H1, rfl, I2, turn_enumX p1.lt, ⟨⟨.none, he⟩, itX_new g1⟩, fun c hcm => ?_, q⟩
  have e' : c = s1.heap.objs.size + 1 ∨ c = s1.heap.objs.size := by simpa using hcm
  have hle : s1.heap.objs.size ≤ c := by
    rcases e' with z | z
    · rw [z]; exact Nat.le_add_right _ _
    · rw [z]; exact Nat.le_refl _
  exact I1.fpOk hle (I1.hok.fresh hle)
def enD (xs : List D) : List D := (xs.zipIdx).map fun p => D.tk [.int (p.2 : Nat), p.1]
def dEnum (ta : DT) : DTI := fun Ex env Q => ta Ex env fun x env1 => seqD env1 x fun xs k1 => Q (enD xs) k1 env1
theorem src_enum {K : PySem.W.Frag} {b : Bool} {a : Addr} {xs : List D} {k1 : Env' → Prop} {F0 : Hp} (h1 : Stands K b a xs k1 F0) : Src K (IteX b K a) (enD xs) k1 F0 := fun e env T F σ H i hh sm kk => by
  obtain ⟨vs, s1, r1⟩ := h1 e env T F σ H hh sm kk
  refine ⟨fun hi => ⟨vs, s1, ?_⟩, fun d hd => ?_⟩
  · rw [enD, List.length_map, List.length_zipIdx, r1.length] at hi
    exact hi.symm
  · rw [enD, List.getElem?_map, List.getElem?_zipIdx] at hd
    cases hz : xs[i]? with
    | none =>
      rw [hz] at hd
      cases hd
    | some x =>
      rw [hz] at hd
      have ed := Option.some.inj hd
      obtain ⟨v, hv, rv⟩ := r1.get hz
      refine ⟨⟨vs, v, s1, hv⟩, fun y H2 hyl => ?_⟩
      obtain ⟨T', x1, rfl, nT, rfl, f1⟩ := hyl
      have e1 := f1 _ s1
      rw [hv] at e1
      cases e1
      have g := Grow.frozen (o := .tup [.int (i : Nat), v]) hh.fh nT
      refine ⟨_, g, ?_⟩
      rw [← ed]
      refine ⟨T', [.int (i : Nat), v], rfl, SqT.of upd_same, ⟨.int (i : Nat), [v], rfl, ?_, v, [], rfl, Rep.same g.ff rv, rfl⟩⟩
      show V.int (i : Nat) = V.int ((0 + i : Nat) : Int)
      rw [Nat.zero_add]
section
variable {G : GG} {N : List Str} {sc : SC} {k : Nat} {a : Expr} {ta : DT} {p pos tpos : Pos} {elts : List Expr} {kk : Nat}
theorem di_enum (ha : DE G N sc k a ta) (hm : G.mg "enumerate" = none) (hg : GlS sc "enumerate" := by rfl) (hs : NoStar a [] := by intro _; rfl) :
    DI G N sc k (.Tuple elts kk tpos) (.Call (.Name "enumerate" p) [a] [] pos) (dEnum ta) := ⟨fun W => by
  obtain ⟨te, p1, i1⟩ := ha.ex W
  refine ⟨iEnumX G.K (tCons te tNil), fun X S => ?_, fun e Ex hl env T F σ H Q R hh ht hR => ?_⟩
  · rw [← S.K]
    exact pi_enumX (S.gl hg) (by rw [S.mg]; exact hm) (pa_cons (p1 X S) pa_nil (hs _)) (hs _)
  · refine i1 e Ex hl env T F σ H _ _ hh ht fun v H1 F1 env1 x hh1 q1 => ?_
    obtain ⟨b1, a1, xs, k1, F3, rfl, q3, sm3, hh3, st1, kk1⟩ := hh1.seqD q1
    obtain ⟨vs, s1, _⟩ := st1 e env1 T F3 σ H1 hh3 (Same.refl _) kk1
    exact ⟨b1, a1, vs, rfl, s1, hR _ H1 F3 env1 _ _ hh3 (src_enum st1) q3⟩⟩
end
end HD
namespace HD
open PySem PySem.Spec PyProof.Rows L2
theorem tuple_mul1 (l : Addr) (items : Array Value) (n : Nat) (dd : Option Addr) (sl : Array (Option Value)) (x : Int) (u : PySem.Tok) (c0 : (decide (x < -(2 ^ 63)) || decide (x ≥ 2 ^ 63)) = false) (c1 : (items.isEmpty || x == 1) = true) :
    PySem.Meets (Builtin.«tuple.__mul__» ⟨[.ref l, .int x u], []⟩) (fun _ R s => s.heap.get? l = some { cls := .type "tuple", dict := dd, data := .seq items n, slots := sl } ∧ R (.ok (.ret (Value.ref l))) s) :=
  .of_wp fun prog w A R s h => by
    obtain ⟨hp, g, d, tk, os⟩ := s
    obtain ⟨hl, h⟩ := h
    have f1 := AutoSeq1.idx_int
    wp_walk using wpAny_loadPart' hl
    repeat (first
      | (refine wpAny_ite_false (decide_eq_false (by rw [c0]; exact Bool.false_ne_true)) ?_; wp_walk using wpAny_loadPart' hl)
      | (refine wpAny_ite_true (decide_eq_true (by rw [c1])) ?_; wp_walk using wpAny_loadPart' hl))
    exact ⟨_, rfl, h⟩
theorem tuple_mul0 (l : Addr) (items : Array Value) (n : Nat) (dd : Option Addr) (sl : Array (Option Value)) (x : Int) (u : PySem.Tok) (c0 : (decide (x < -(2 ^ 63)) || decide (x ≥ 2 ^ 63)) = false) (c1 : (items.isEmpty || x == 1) = false) (c2 : (decide (x ≤ 0) || items.isEmpty) = true) :
    PySem.Meets (Builtin.«tuple.__mul__» ⟨[.ref l, .int x u], []⟩) (fun _ R s => s.heap.get? l = some { cls := .type "tuple", dict := dd, data := .seq items n, slots := sl } ∧
      R (.ok (.ret (Value.ref s.heap.objs.size))) { s with heap := s.heap.push { cls := Value.type "tuple", data := Data.seq #[] }, toks := s.toks }) :=
  .of_wp fun prog w A R s h => by
    obtain ⟨hp, g, d, tk, os⟩ := s
    obtain ⟨hl, h⟩ := h
    have f1 := AutoSeq1.idx_int
    wp_walk using wpAny_loadPart' hl
    repeat (first
      | (refine wpAny_ite_false (decide_eq_false (by rw [c0]; exact Bool.false_ne_true)) ?_; wp_walk using wpAny_loadPart' hl)
      | (refine wpAny_ite_false (decide_eq_false (by rw [c1]; exact Bool.false_ne_true)) ?_; wp_walk using wpAny_loadPart' hl)
      | (refine wpAny_ite_true (decide_eq_true (by rw [c2])) ?_; wp_walk using wpAny_loadPart' hl))
    exact ⟨_, rfl, h⟩
def rRepF (K : PySem.W.Frag) : R2 := fun x y H Q => ∃ l k xs, x = .ref l ∧ y = .int k ∧ SqT K H l xs ∧ 0 ≤ k ∧ k < 2 ^ 63 ∧ xs.length * k.toNat ≤ sizeLine ∧ (xs = [] ∨ k = 1 → Q (.ref l) H) ∧ (xs ≠ [] → k ≠ 1 → newT H (List.replicate k.toNat xs).flatten Q)
section
variable {X : Cx}
theorem op_repF : OpR X (binaryOp .Mult) (rRepF X.K) := by
  intro pins s σ H x y v u Q I rx ry h
  obtain ⟨l, k, xs, rfl, rfl, hT, h1, h2, hz, q1, q2⟩ := h
  cases rx
  obtain ⟨t, rfl⟩ := ry
  obtain ⟨its, r, ⟨⟨cls, dd, data, sl⟩, ho, hc, n, hd⟩, hs⟩ := I.tuple hT
  simp only at hc hd
  subst hc hd
  have hle : its.length = xs.length := r.length.symm
  have c0 : (decide (k < -(2 ^ 63)) || decide (k ≥ 2 ^ 63)) = false := by
    rw [decide_eq_false (by omega), decide_eq_false (by omega)] <;> rfl
  have hx : its.toArray.isEmpty = true ↔ xs = [] := by
    cases its with
    | nil => exact ⟨fun _ => List.eq_nil_of_length_eq_zero hle.symm, fun _ => rfl⟩
    | cons a b => exact ⟨fun z => by simp at z, fun z => by rw [z] at hle; simp at hle⟩
  refine wpAny_binaryOp_repeat_ref (T := "tuple") (U := "int") (by decide) ⟨_, ho, rfl⟩ (fun s' => typeIs_int s' k t) noFill_tuple_mul F.fills_int_mul F.slot_int_rmul repeat_tuple F.slot_int_index.lookup
    (call_meets F.slot_int_rmul (typeIs_int s k t) F.entry_int_rmul (F.args_int_rmul_2 _ _) (int_rmul_tuple k t l its.toArray n dd sl)
      ⟨ho, rfl, ⟨_, ho, rfl⟩, ?_⟩)
  by_cases c1 : (its.toArray.isEmpty || k == 1) = true
  · refine call_meets F.slot_tuple_mul ⟨_, ho, rfl⟩ F.entry_tuple_mul (F.args_tuple_mul_2 _ _) (tuple_mul1 l its.toArray n dd sl k t c0 c1) ⟨ho, ?_⟩
    refine ⟨.ref l, H, I, rfl, q1 ?_⟩
    rw [Bool.or_eq_true, hx, beq_iff_eq] at c1
    exact c1
  · have c1f : (its.toArray.isEmpty || k == 1) = false := by simpa using c1
    have hn : xs ≠ [] := fun z => c1 (by rw [Bool.or_eq_true, hx]; exact .inl z)
    have hk1 : k ≠ 1 := fun z => c1 (by rw [Bool.or_eq_true, beq_iff_eq]; exact .inr z)
    have hi : its.toArray.isEmpty = false := by
      cases e : its.toArray.isEmpty with
      | false => rfl
      | true => exact absurd (hx.1 e) hn
    have flen : (List.replicate k.toNat its).flatten.length ≤ sizeLine := by
      rw [PyProof.Rows.lm_len_rep_flat, hle, Nat.mul_comm]
      exact hz
    have flen2 : (List.replicate k.toNat xs).flatten.length ≤ sizeLine := by
      rw [PyProof.Rows.lm_len_rep_flat, Nat.mul_comm]
      exact hz
    by_cases hk0 : k = 0
    · subst hk0
      refine call_meets F.slot_tuple_mul ⟨_, ho, rfl⟩ F.entry_tuple_mul (F.args_tuple_mul_2 _ _) (tuple_mul0 l its.toArray n dd sl 0 t c0 c1f (by rw [Bool.or_eq_true]; exact .inl rfl)) ⟨ho, ?_⟩
      exact laidT (tk := s.toks) (its := []) I .nil (Nat.zero_le _) (q2 hn (by decide))
    · have c2 : (decide (k ≤ 0) || its.toArray.isEmpty) = false := by
        rw [hi, Bool.or_false]
        exact decide_eq_false (by omega)
      have hm : ((its.toArray.size : Nat) : Int) * k = ((xs.length * k.toNat : Nat) : Int) := by
        rw [List.size_toArray, hle, Int.natCast_mul, Int.toNat_of_nonneg h1]
      have hsl : ((xs.length * k.toNat : Nat) : Int) ≤ sizeLine := by omega
      have c4 : Builtin.Tuple.tupleTooMany (((its.toArray.size : Nat) : Int) * k) = false := by
        unfold Builtin.Tuple.tupleTooMany
        exact decide_eq_false (by rw [hm]; omega)
      have c3 : ¬ ((its.toArray.size : Nat) : Int) * k > (2 ^ 63 - 1) / 8 := by
        rw [hm]
        rw [sizeLine_eq] at hsl
        omega
      refine call_meets F.slot_tuple_mul ⟨_, ho, rfl⟩ F.entry_tuple_mul (F.args_tuple_mul_2 _ _) (tuple_mulW l its.toArray n dd sl k t c0 c1f c2 c3 c4 (by rw [size_rep, List.size_toArray]; exact flen)) ⟨ho, ?_⟩
      rw [size_rep]
      exact laidT (tk := s.toks) I (r.rep k.toNat) flen2 (q2 hn hk1)
end
def fMulT : D → D → (Sl → Prop) → Prop
  | .tup xs, .int k, Q => 0 ≤ k ∧ k < 2 ^ 63 ∧ xs.length * k.toNat ≤ sizeLine ∧ Q (.ext (.tup (List.replicate k.toNat xs).flatten))
  | _, _, _ => False
theorem pr_mulT {K : PySem.W.Frag} : Pr2 K (rRepF K) fMulT := fun F H v u d d' Q R fh h1 h2 hf ha => by
  unfold fMulT at hf
  split at hf
  · rename_i xs k
    obtain ⟨a, vs, rfl, e1, e2, r1⟩ := h1.tup fh
    obtain ⟨k0, k1, kz, q⟩ := hf
    refine ⟨a, k, vs, rfl, h2.int, e1, k0, k1, by rw [← r1.length]; exact kz, fun z => ?_, fun _ _ => ha.tup fh (r1.rep _) q⟩
    refine ha.ext (d := .tup _) fh ⟨a, vs, rfl, e2, ?_⟩ q
    rcases z with z | z
    · subst z
      have : xs = [] := List.eq_nil_of_length_eq_zero r1.length
      subst this
      rw [show (List.replicate k.toNat ([] : List D)).flatten = [] by simp]
      exact rfl
    · subst z
      rw [show (List.replicate (Int.toNat 1) xs).flatten = xs by simp]
      exact r1
  · exact hf.elim
theorem de_mulT {G : GG} {N : List Str} {sc : SC} {k : Nat} {a b : Expr} {ta tb : DT} {pos : Pos} (ha : DE G N sc k a ta) (hb : DE G N sc k b tb) : DE G N sc k (.BinOp a .Mult b pos) (dOp fMulT ta tb) := de_bin (r := rRepF) (fun _ => pr_mulT) (fun _ => op_repF) ha hb
def fIsB : D → D → (Sl → Prop) → Prop
  | .bl i, .bl j, Q => Q (.ext (.bl (i == j)))
  | _, _, _ => False
def fNotB : D → D → (Sl → Prop) → Prop
  | .bl i, .bl j, Q => Q (.ext (.bl (!(i == j))))
  | _, _, _ => False
end HD
namespace HD
open PySem L2
theorem seq_setE (i : Nat) (t : DT) (u : DTS) (Ex : DX) (E : DEnds) (env : Env') : sSeq (sSetE i t) u Ex E env = t Ex env fun x env1 => frzD env1 x fun d env2 => u Ex E (env2.set i (.ext d)) := rfl
theorem seq_set (i : Nat) (t : DT) (u : DTS) (Ex : DX) (E : DEnds) (env : Env') : sSeq (sSet i t) u Ex E env = t Ex env fun x env1 => retD env1 x fun r env2 => u Ex E (env2.set i r) := rfl
theorem seq_drop (t : DT) (u : DTS) (Ex : DX) (E : DEnds) (env : Env') : sSeq (sDrop t) u Ex E env = t Ex env fun _ env1 => u Ex E env1 := rfl
theorem seq_asg (t : DT) (g : DTG) (u : DTS) (Ex : DX) (E : DEnds) (env : Env') : sSeq (sAsg t g) u Ex E env = t Ex env fun x env1 => frzD env1 x fun d env2 => g d env2 fun env3 => u Ex E env3 := rfl
theorem seq_if (c : DTT) (t v : DTS) (u : DTS) (Ex : DX) (E : DEnds) (env : Env') : sSeq (sIf c t v) u Ex E env = c Ex env fun b env1 => if b = true then t Ex { E with nx := fun env1 => u Ex E env1 } env1 else v Ex { E with nx := fun env1 => u Ex E env1 } env1 := rfl
theorem seq_for (ti : DTI) (g : DTG) (b : DTS) (u : DTS) (Ex : DX) (E : DEnds) (env : Env') : sSeq (sFor ti g b) u Ex E env = ti Ex env fun items keep env1 => forD g b keep Ex { E with nx := fun env1 => u Ex E env1 } items env1 := rfl
theorem dv0 (d : D) (r : Env') (Ex : DX) (Q : Sl → Env' → Prop) : dVar 0 Ex (.ext d :: r) Q = Q (.ext d) (.ext d :: r) := rfl
theorem dw0 (a : Addr) (ds : List D) (r : Env') (Ex : DX) (Q : Sl → Env' → Prop) : dVar 0 Ex (.lst a ds :: r) Q = Q (.al 0 a) (.lst a ds :: r) := rfl
theorem dv1 (s0 : Sl) (d : D) (r : Env') (Ex : DX) (Q : Sl → Env' → Prop) : dVar 1 Ex (s0 :: .ext d :: r) Q = Q (.ext d) (s0 :: .ext d :: r) := rfl
theorem dw1 (s0 : Sl) (a : Addr) (ds : List D) (r : Env') (Ex : DX) (Q : Sl → Env' → Prop) : dVar 1 Ex (s0 :: .lst a ds :: r) Q = Q (.al 1 a) (s0 :: .lst a ds :: r) := rfl
theorem dv2 (s0 s1 : Sl) (d : D) (r : Env') (Ex : DX) (Q : Sl → Env' → Prop) : dVar 2 Ex (s0 :: s1 :: .ext d :: r) Q = Q (.ext d) (s0 :: s1 :: .ext d :: r) := rfl
theorem dw2 (s0 s1 : Sl) (a : Addr) (ds : List D) (r : Env') (Ex : DX) (Q : Sl → Env' → Prop) : dVar 2 Ex (s0 :: s1 :: .lst a ds :: r) Q = Q (.al 2 a) (s0 :: s1 :: .lst a ds :: r) := rfl
theorem dv3 (s0 s1 s2 : Sl) (d : D) (r : Env') (Ex : DX) (Q : Sl → Env' → Prop) : dVar 3 Ex (s0 :: s1 :: s2 :: .ext d :: r) Q = Q (.ext d) (s0 :: s1 :: s2 :: .ext d :: r) := rfl
theorem dw3 (s0 s1 s2 : Sl) (a : Addr) (ds : List D) (r : Env') (Ex : DX) (Q : Sl → Env' → Prop) : dVar 3 Ex (s0 :: s1 :: s2 :: .lst a ds :: r) Q = Q (.al 3 a) (s0 :: s1 :: s2 :: .lst a ds :: r) := rfl
theorem dv4 (s0 s1 s2 s3 : Sl) (d : D) (r : Env') (Ex : DX) (Q : Sl → Env' → Prop) : dVar 4 Ex (s0 :: s1 :: s2 :: s3 :: .ext d :: r) Q = Q (.ext d) (s0 :: s1 :: s2 :: s3 :: .ext d :: r) := rfl
theorem dw4 (s0 s1 s2 s3 : Sl) (a : Addr) (ds : List D) (r : Env') (Ex : DX) (Q : Sl → Env' → Prop) : dVar 4 Ex (s0 :: s1 :: s2 :: s3 :: .lst a ds :: r) Q = Q (.al 4 a) (s0 :: s1 :: s2 :: s3 :: .lst a ds :: r) := rfl
theorem dv5 (s0 s1 s2 s3 s4 : Sl) (d : D) (r : Env') (Ex : DX) (Q : Sl → Env' → Prop) : dVar 5 Ex (s0 :: s1 :: s2 :: s3 :: s4 :: .ext d :: r) Q = Q (.ext d) (s0 :: s1 :: s2 :: s3 :: s4 :: .ext d :: r) := rfl
theorem dw5 (s0 s1 s2 s3 s4 : Sl) (a : Addr) (ds : List D) (r : Env') (Ex : DX) (Q : Sl → Env' → Prop) : dVar 5 Ex (s0 :: s1 :: s2 :: s3 :: s4 :: .lst a ds :: r) Q = Q (.al 5 a) (s0 :: s1 :: s2 :: s3 :: s4 :: .lst a ds :: r) := rfl
theorem dv6 (s0 s1 s2 s3 s4 s5 : Sl) (d : D) (r : Env') (Ex : DX) (Q : Sl → Env' → Prop) : dVar 6 Ex (s0 :: s1 :: s2 :: s3 :: s4 :: s5 :: .ext d :: r) Q = Q (.ext d) (s0 :: s1 :: s2 :: s3 :: s4 :: s5 :: .ext d :: r) := rfl
theorem dw6 (s0 s1 s2 s3 s4 s5 : Sl) (a : Addr) (ds : List D) (r : Env') (Ex : DX) (Q : Sl → Env' → Prop) : dVar 6 Ex (s0 :: s1 :: s2 :: s3 :: s4 :: s5 :: .lst a ds :: r) Q = Q (.al 6 a) (s0 :: s1 :: s2 :: s3 :: s4 :: s5 :: .lst a ds :: r) := rfl
theorem dv7 (s0 s1 s2 s3 s4 s5 s6 : Sl) (d : D) (r : Env') (Ex : DX) (Q : Sl → Env' → Prop) : dVar 7 Ex (s0 :: s1 :: s2 :: s3 :: s4 :: s5 :: s6 :: .ext d :: r) Q = Q (.ext d) (s0 :: s1 :: s2 :: s3 :: s4 :: s5 :: s6 :: .ext d :: r) := rfl
theorem dw7 (s0 s1 s2 s3 s4 s5 s6 : Sl) (a : Addr) (ds : List D) (r : Env') (Ex : DX) (Q : Sl → Env' → Prop) : dVar 7 Ex (s0 :: s1 :: s2 :: s3 :: s4 :: s5 :: s6 :: .lst a ds :: r) Q = Q (.al 7 a) (s0 :: s1 :: s2 :: s3 :: s4 :: s5 :: s6 :: .lst a ds :: r) := rfl
theorem dv8 (s0 s1 s2 s3 s4 s5 s6 s7 : Sl) (d : D) (r : Env') (Ex : DX) (Q : Sl → Env' → Prop) : dVar 8 Ex (s0 :: s1 :: s2 :: s3 :: s4 :: s5 :: s6 :: s7 :: .ext d :: r) Q = Q (.ext d) (s0 :: s1 :: s2 :: s3 :: s4 :: s5 :: s6 :: s7 :: .ext d :: r) := rfl
theorem dw8 (s0 s1 s2 s3 s4 s5 s6 s7 : Sl) (a : Addr) (ds : List D) (r : Env') (Ex : DX) (Q : Sl → Env' → Prop) : dVar 8 Ex (s0 :: s1 :: s2 :: s3 :: s4 :: s5 :: s6 :: s7 :: .lst a ds :: r) Q = Q (.al 8 a) (s0 :: s1 :: s2 :: s3 :: s4 :: s5 :: s6 :: s7 :: .lst a ds :: r) := rfl
theorem dv9 (s0 s1 s2 s3 s4 s5 s6 s7 s8 : Sl) (d : D) (r : Env') (Ex : DX) (Q : Sl → Env' → Prop) : dVar 9 Ex (s0 :: s1 :: s2 :: s3 :: s4 :: s5 :: s6 :: s7 :: s8 :: .ext d :: r) Q = Q (.ext d) (s0 :: s1 :: s2 :: s3 :: s4 :: s5 :: s6 :: s7 :: s8 :: .ext d :: r) := rfl
theorem dw9 (s0 s1 s2 s3 s4 s5 s6 s7 s8 : Sl) (a : Addr) (ds : List D) (r : Env') (Ex : DX) (Q : Sl → Env' → Prop) : dVar 9 Ex (s0 :: s1 :: s2 :: s3 :: s4 :: s5 :: s6 :: s7 :: s8 :: .lst a ds :: r) Q = Q (.al 9 a) (s0 :: s1 :: s2 :: s3 :: s4 :: s5 :: s6 :: s7 :: s8 :: .lst a ds :: r) := rfl
theorem dv10 (s0 s1 s2 s3 s4 s5 s6 s7 s8 s9 : Sl) (d : D) (r : Env') (Ex : DX) (Q : Sl → Env' → Prop) : dVar 10 Ex (s0 :: s1 :: s2 :: s3 :: s4 :: s5 :: s6 :: s7 :: s8 :: s9 :: .ext d :: r) Q = Q (.ext d) (s0 :: s1 :: s2 :: s3 :: s4 :: s5 :: s6 :: s7 :: s8 :: s9 :: .ext d :: r) := rfl
theorem dw10 (s0 s1 s2 s3 s4 s5 s6 s7 s8 s9 : Sl) (a : Addr) (ds : List D) (r : Env') (Ex : DX) (Q : Sl → Env' → Prop) : dVar 10 Ex (s0 :: s1 :: s2 :: s3 :: s4 :: s5 :: s6 :: s7 :: s8 :: s9 :: .lst a ds :: r) Q = Q (.al 10 a) (s0 :: s1 :: s2 :: s3 :: s4 :: s5 :: s6 :: s7 :: s8 :: s9 :: .lst a ds :: r) := rfl
theorem dv11 (s0 s1 s2 s3 s4 s5 s6 s7 s8 s9 s10 : Sl) (d : D) (r : Env') (Ex : DX) (Q : Sl → Env' → Prop) : dVar 11 Ex (s0 :: s1 :: s2 :: s3 :: s4 :: s5 :: s6 :: s7 :: s8 :: s9 :: s10 :: .ext d :: r) Q = Q (.ext d) (s0 :: s1 :: s2 :: s3 :: s4 :: s5 :: s6 :: s7 :: s8 :: s9 :: s10 :: .ext d :: r) := rfl
theorem dw11 (s0 s1 s2 s3 s4 s5 s6 s7 s8 s9 s10 : Sl) (a : Addr) (ds : List D) (r : Env') (Ex : DX) (Q : Sl → Env' → Prop) : dVar 11 Ex (s0 :: s1 :: s2 :: s3 :: s4 :: s5 :: s6 :: s7 :: s8 :: s9 :: s10 :: .lst a ds :: r) Q = Q (.al 11 a) (s0 :: s1 :: s2 :: s3 :: s4 :: s5 :: s6 :: s7 :: s8 :: s9 :: s10 :: .lst a ds :: r) := rfl
theorem dv12 (s0 s1 s2 s3 s4 s5 s6 s7 s8 s9 s10 s11 : Sl) (d : D) (r : Env') (Ex : DX) (Q : Sl → Env' → Prop) : dVar 12 Ex (s0 :: s1 :: s2 :: s3 :: s4 :: s5 :: s6 :: s7 :: s8 :: s9 :: s10 :: s11 :: .ext d :: r) Q = Q (.ext d) (s0 :: s1 :: s2 :: s3 :: s4 :: s5 :: s6 :: s7 :: s8 :: s9 :: s10 :: s11 :: .ext d :: r) := rfl
theorem dw12 (s0 s1 s2 s3 s4 s5 s6 s7 s8 s9 s10 s11 : Sl) (a : Addr) (ds : List D) (r : Env') (Ex : DX) (Q : Sl → Env' → Prop) : dVar 12 Ex (s0 :: s1 :: s2 :: s3 :: s4 :: s5 :: s6 :: s7 :: s8 :: s9 :: s10 :: s11 :: .lst a ds :: r) Q = Q (.al 12 a) (s0 :: s1 :: s2 :: s3 :: s4 :: s5 :: s6 :: s7 :: s8 :: s9 :: s10 :: s11 :: .lst a ds :: r) := rfl
theorem dv13 (s0 s1 s2 s3 s4 s5 s6 s7 s8 s9 s10 s11 s12 : Sl) (d : D) (r : Env') (Ex : DX) (Q : Sl → Env' → Prop) : dVar 13 Ex (s0 :: s1 :: s2 :: s3 :: s4 :: s5 :: s6 :: s7 :: s8 :: s9 :: s10 :: s11 :: s12 :: .ext d :: r) Q = Q (.ext d) (s0 :: s1 :: s2 :: s3 :: s4 :: s5 :: s6 :: s7 :: s8 :: s9 :: s10 :: s11 :: s12 :: .ext d :: r) := rfl
theorem dw13 (s0 s1 s2 s3 s4 s5 s6 s7 s8 s9 s10 s11 s12 : Sl) (a : Addr) (ds : List D) (r : Env') (Ex : DX) (Q : Sl → Env' → Prop) : dVar 13 Ex (s0 :: s1 :: s2 :: s3 :: s4 :: s5 :: s6 :: s7 :: s8 :: s9 :: s10 :: s11 :: s12 :: .lst a ds :: r) Q = Q (.al 13 a) (s0 :: s1 :: s2 :: s3 :: s4 :: s5 :: s6 :: s7 :: s8 :: s9 :: s10 :: s11 :: s12 :: .lst a ds :: r) := rfl
theorem dv14 (s0 s1 s2 s3 s4 s5 s6 s7 s8 s9 s10 s11 s12 s13 : Sl) (d : D) (r : Env') (Ex : DX) (Q : Sl → Env' → Prop) : dVar 14 Ex (s0 :: s1 :: s2 :: s3 :: s4 :: s5 :: s6 :: s7 :: s8 :: s9 :: s10 :: s11 :: s12 :: s13 :: .ext d :: r) Q = Q (.ext d) (s0 :: s1 :: s2 :: s3 :: s4 :: s5 :: s6 :: s7 :: s8 :: s9 :: s10 :: s11 :: s12 :: s13 :: .ext d :: r) := rfl
theorem dw14 (s0 s1 s2 s3 s4 s5 s6 s7 s8 s9 s10 s11 s12 s13 : Sl) (a : Addr) (ds : List D) (r : Env') (Ex : DX) (Q : Sl → Env' → Prop) : dVar 14 Ex (s0 :: s1 :: s2 :: s3 :: s4 :: s5 :: s6 :: s7 :: s8 :: s9 :: s10 :: s11 :: s12 :: s13 :: .lst a ds :: r) Q = Q (.al 14 a) (s0 :: s1 :: s2 :: s3 :: s4 :: s5 :: s6 :: s7 :: s8 :: s9 :: s10 :: s11 :: s12 :: s13 :: .lst a ds :: r) := rfl
theorem dv15 (s0 s1 s2 s3 s4 s5 s6 s7 s8 s9 s10 s11 s12 s13 s14 : Sl) (d : D) (r : Env') (Ex : DX) (Q : Sl → Env' → Prop) : dVar 15 Ex (s0 :: s1 :: s2 :: s3 :: s4 :: s5 :: s6 :: s7 :: s8 :: s9 :: s10 :: s11 :: s12 :: s13 :: s14 :: .ext d :: r) Q = Q (.ext d) (s0 :: s1 :: s2 :: s3 :: s4 :: s5 :: s6 :: s7 :: s8 :: s9 :: s10 :: s11 :: s12 :: s13 :: s14 :: .ext d :: r) := rfl
theorem dw15 (s0 s1 s2 s3 s4 s5 s6 s7 s8 s9 s10 s11 s12 s13 s14 : Sl) (a : Addr) (ds : List D) (r : Env') (Ex : DX) (Q : Sl → Env' → Prop) : dVar 15 Ex (s0 :: s1 :: s2 :: s3 :: s4 :: s5 :: s6 :: s7 :: s8 :: s9 :: s10 :: s11 :: s12 :: s13 :: s14 :: .lst a ds :: r) Q = Q (.al 15 a) (s0 :: s1 :: s2 :: s3 :: s4 :: s5 :: s6 :: s7 :: s8 :: s9 :: s10 :: s11 :: s12 :: s13 :: s14 :: .lst a ds :: r) := rfl
theorem dv16 (s0 s1 s2 s3 s4 s5 s6 s7 s8 s9 s10 s11 s12 s13 s14 s15 : Sl) (d : D) (r : Env') (Ex : DX) (Q : Sl → Env' → Prop) : dVar 16 Ex (s0 :: s1 :: s2 :: s3 :: s4 :: s5 :: s6 :: s7 :: s8 :: s9 :: s10 :: s11 :: s12 :: s13 :: s14 :: s15 :: .ext d :: r) Q = Q (.ext d) (s0 :: s1 :: s2 :: s3 :: s4 :: s5 :: s6 :: s7 :: s8 :: s9 :: s10 :: s11 :: s12 :: s13 :: s14 :: s15 :: .ext d :: r) := rfl
theorem dw16 (s0 s1 s2 s3 s4 s5 s6 s7 s8 s9 s10 s11 s12 s13 s14 s15 : Sl) (a : Addr) (ds : List D) (r : Env') (Ex : DX) (Q : Sl → Env' → Prop) : dVar 16 Ex (s0 :: s1 :: s2 :: s3 :: s4 :: s5 :: s6 :: s7 :: s8 :: s9 :: s10 :: s11 :: s12 :: s13 :: s14 :: s15 :: .lst a ds :: r) Q = Q (.al 16 a) (s0 :: s1 :: s2 :: s3 :: s4 :: s5 :: s6 :: s7 :: s8 :: s9 :: s10 :: s11 :: s12 :: s13 :: s14 :: s15 :: .lst a ds :: r) := rfl
theorem dv17 (s0 s1 s2 s3 s4 s5 s6 s7 s8 s9 s10 s11 s12 s13 s14 s15 s16 : Sl) (d : D) (r : Env') (Ex : DX) (Q : Sl → Env' → Prop) : dVar 17 Ex (s0 :: s1 :: s2 :: s3 :: s4 :: s5 :: s6 :: s7 :: s8 :: s9 :: s10 :: s11 :: s12 :: s13 :: s14 :: s15 :: s16 :: .ext d :: r) Q = Q (.ext d) (s0 :: s1 :: s2 :: s3 :: s4 :: s5 :: s6 :: s7 :: s8 :: s9 :: s10 :: s11 :: s12 :: s13 :: s14 :: s15 :: s16 :: .ext d :: r) := rfl
theorem dw17 (s0 s1 s2 s3 s4 s5 s6 s7 s8 s9 s10 s11 s12 s13 s14 s15 s16 : Sl) (a : Addr) (ds : List D) (r : Env') (Ex : DX) (Q : Sl → Env' → Prop) : dVar 17 Ex (s0 :: s1 :: s2 :: s3 :: s4 :: s5 :: s6 :: s7 :: s8 :: s9 :: s10 :: s11 :: s12 :: s13 :: s14 :: s15 :: s16 :: .lst a ds :: r) Q = Q (.al 17 a) (s0 :: s1 :: s2 :: s3 :: s4 :: s5 :: s6 :: s7 :: s8 :: s9 :: s10 :: s11 :: s12 :: s13 :: s14 :: s15 :: s16 :: .lst a ds :: r) := rfl
theorem dv18 (s0 s1 s2 s3 s4 s5 s6 s7 s8 s9 s10 s11 s12 s13 s14 s15 s16 s17 : Sl) (d : D) (r : Env') (Ex : DX) (Q : Sl → Env' → Prop) : dVar 18 Ex (s0 :: s1 :: s2 :: s3 :: s4 :: s5 :: s6 :: s7 :: s8 :: s9 :: s10 :: s11 :: s12 :: s13 :: s14 :: s15 :: s16 :: s17 :: .ext d :: r) Q = Q (.ext d) (s0 :: s1 :: s2 :: s3 :: s4 :: s5 :: s6 :: s7 :: s8 :: s9 :: s10 :: s11 :: s12 :: s13 :: s14 :: s15 :: s16 :: s17 :: .ext d :: r) := rfl
theorem dw18 (s0 s1 s2 s3 s4 s5 s6 s7 s8 s9 s10 s11 s12 s13 s14 s15 s16 s17 : Sl) (a : Addr) (ds : List D) (r : Env') (Ex : DX) (Q : Sl → Env' → Prop) : dVar 18 Ex (s0 :: s1 :: s2 :: s3 :: s4 :: s5 :: s6 :: s7 :: s8 :: s9 :: s10 :: s11 :: s12 :: s13 :: s14 :: s15 :: s16 :: s17 :: .lst a ds :: r) Q = Q (.al 18 a) (s0 :: s1 :: s2 :: s3 :: s4 :: s5 :: s6 :: s7 :: s8 :: s9 :: s10 :: s11 :: s12 :: s13 :: s14 :: s15 :: s16 :: s17 :: .lst a ds :: r) := rfl
theorem dv19 (s0 s1 s2 s3 s4 s5 s6 s7 s8 s9 s10 s11 s12 s13 s14 s15 s16 s17 s18 : Sl) (d : D) (r : Env') (Ex : DX) (Q : Sl → Env' → Prop) : dVar 19 Ex (s0 :: s1 :: s2 :: s3 :: s4 :: s5 :: s6 :: s7 :: s8 :: s9 :: s10 :: s11 :: s12 :: s13 :: s14 :: s15 :: s16 :: s17 :: s18 :: .ext d :: r) Q = Q (.ext d) (s0 :: s1 :: s2 :: s3 :: s4 :: s5 :: s6 :: s7 :: s8 :: s9 :: s10 :: s11 :: s12 :: s13 :: s14 :: s15 :: s16 :: s17 :: s18 :: .ext d :: r) := rfl
theorem dw19 (s0 s1 s2 s3 s4 s5 s6 s7 s8 s9 s10 s11 s12 s13 s14 s15 s16 s17 s18 : Sl) (a : Addr) (ds : List D) (r : Env') (Ex : DX) (Q : Sl → Env' → Prop) : dVar 19 Ex (s0 :: s1 :: s2 :: s3 :: s4 :: s5 :: s6 :: s7 :: s8 :: s9 :: s10 :: s11 :: s12 :: s13 :: s14 :: s15 :: s16 :: s17 :: s18 :: .lst a ds :: r) Q = Q (.al 19 a) (s0 :: s1 :: s2 :: s3 :: s4 :: s5 :: s6 :: s7 :: s8 :: s9 :: s10 :: s11 :: s12 :: s13 :: s14 :: s15 :: s16 :: s17 :: s18 :: .lst a ds :: r) := rfl
end HD
namespace HD
open PySem PyProof.Rows L2
section
variable {G : GG} {N : List Str} {sc : SC} {k : Nat} {a b : Expr} {ta tb : DT} {p p2 pos pos2 : Pos}
def dListZip (ta tb : DT) : DT := fun Ex env Q => ta Ex env fun x env1 => tb Ex env1 fun y env2 => seqD env2 x fun xs _ => seqD env2 y fun ys _ => ∀ a, Q (.lst a ((xs.zip ys).map fun p => D.tk [p.1, p.2])) env2
end
end HD
namespace HD
open PySem PyProof.Rows L2
theorem retD_reg (env : Env') (a : D) (cs : List (Addr × OC)) (q : Sl → Env' → Prop) : retD env (.reg a cs) q = q (.reg a cs) env := rfl
def nestC (a : Addr) (xs : List (Addr × List D)) : List (Addr × OC) := (a, .lst (xs.map fun p => .val (.ref p.1))) :: xs.map fun p => (p.1, .lst p.2)
abbrev nestS (a : Addr) (xs : List (Addr × List D)) : Sl := .reg (.val (.ref a)) (nestC a xs)
theorem nodup_ix {α : Type} {l : List α} {x : α} (nd : l.Nodup) {i j : Nat} (h1 : l[i]? = some x) (h2 : l[j]? = some x) : i = j := by
  obtain ⟨l1, f1⟩ := List.getElem?_eq_some_iff.mp h1
  obtain ⟨l2, f2⟩ := List.getElem?_eq_some_iff.mp h2
  have p := List.pairwise_iff_getElem.mp nd
  rcases Nat.lt_trichotomy i j with h | h | h
  · exact absurd (f1.trans f2.symm) (p i j l1 l2 h)
  · exact h
  · exact absurd (f2.trans f1.symm) (p j i l2 l1 h)
section
variable {K : PySem.W.Frag} {e : Ent} {env : Env'} {T : Tmp} {F : Hp} {σ : L2.St} {H : Hp}
theorem Holds.writeR {i : Nat} {sl sl' : Sl} {b : Addr} {o : HO} (h : Holds K e env T F σ H) (hi : env[i]? = some sl) (hb : b ∈ sl.owned) (own : sl'.owned = sl.owned) (ok : ∀ v, SlOk K F H v sl → SlOk K F (upd H b o) v sl') (hu : sl ≠ .un) : Holds K e (env.set i sl') T F σ (upd H b o) := by
  obtain ⟨A, B, e1, e2⟩ := splitE hi
  have own' : ownedE (env.set i sl') = ownedE env := by rw [e1, e2, own]
  have mb : b ∈ ownedE env := mem_ownedE hi hb
  have mm : b ∈ ownedE env ++ ownedT T := List.mem_append_left _ mb
  obtain ⟨Fn, _⟩ := h.ownedH b mm
  refine ⟨fun c o' q => ?_, by rw [List.length_set]; exact h.len, fun j s q => ?_, fun p hp => (h.temps p hp).write fun m => ?_, by rw [own']; exact h.nd, h.s1, fun c o' q n => ?_, by rw [own']; exact h.s3⟩
  · have nb : c ≠ b := fun z => by
      rw [z, Fn] at q
      cases q
    rw [upd_ne nb]
    exact h.fh c o' q
  · rw [List.getElem?_set] at q
    split at q
    · rename_i ij
      subst ij
      split at q
      · cases q
        right
        rcases h.slots i _ hi with z | ⟨v, hv, q1⟩
        · exact absurd z hu
        · exact ⟨v, hv, ok v q1⟩
      · cases q
    · rename_i ij
      rcases h.slots j s q with z | ⟨v, hv, ok'⟩
      · exact .inl z
      · exact .inr ⟨v, hv, ok'.write fun m => ij (owned_two h.nd hi q hb m)⟩
  · exact (List.nodup_append.mp h.nd).2.2 b mb b (List.mem_flatMap.mpr ⟨p, hp, m⟩) rfl
  · have nb : c ≠ b := fun z => by
      subst z
      rcases h.s3 c mm with y | y
      · exact n y
      · rw [q] at y
        cases y
    rw [upd_ne nb]
    exact h.s2 c o' q n
end
section
variable {G : GG} {N : List Str} {sc : SC} {k : Nat} {a b : Expr} {ta tb : DT} {apos cpos spos py pos : Pos} {x : Str}
def dNApp (i : Nat) (tI te : DT) : DT := fun Ex env Q => (∃ a0 xs0, env[i]? = some (nestS a0 xs0)) ∧ tI Ex env fun z env1 => match z with
  | .ext (.int n) => ∃ a1 xs b ds, env1[i]? = some (nestS a1 xs) ∧ atI xs n = some (b, ds) ∧ te Ex env1 fun y env2 => frzD env2 y fun d env3 =>
      ∃ a2 xs' j ds', env3[i]? = some (nestS a2 xs') ∧ xs'[j]? = some (b, ds') ∧ ds'.length < sizeLine ∧ Q (.ext .non) (env3.set i (nestS a2 (xs'.set j (b, ds' ++ [d]))))
  | _ => False
end
def sSeal (i : Nat) (t : DTS) : DTS := fun Ex E env => ∃ a xs, env[i]? = some (nestS a xs) ∧ t Ex E (env.set i (.ext (.lst (xs.map fun p => .lst p.2))))
def emp (bs : List Addr) : List (Addr × List D) := bs.map fun b => (b, [])
def dNest (ti : DTI) (i : Nat) : DT := fun Ex env Q => ti Ex env fun items keep env1 => keep (env1.set i .un) ∧ items.length ≤ sizeLine ∧ ∀ a (bs : List Addr), bs.length = items.length → Q (nestS a (emp bs)) (env1.set i .un)
end HD
namespace HD
open PySem PyProof.Rows L2
theorem nodup_le {α : Type} [DecidableEq α] : ∀ {l m : List α}, l.Nodup → (∀ x ∈ l, x ∈ m) → l.length ≤ m.length
  | [], _, _, _ => Nat.zero_le _
  | x :: l, m, nd, h => by
    obtain ⟨n1, n2⟩ := List.nodup_cons.mp nd
    have hx := h x List.mem_cons_self
    have ih := nodup_le (m := m.erase x) n2 fun y hy => by
      have ne : y ≠ x := fun e => n1 (e ▸ hy)
      exact (List.mem_erase_of_ne ne).mpr (h y (List.mem_cons_of_mem _ hy))
    rw [List.length_erase_of_mem hx] at ih
    have : 0 < m.length := List.length_pos_of_mem hx
    rw [List.length_cons]
    omega
section
variable {G : GG} {N : List Str} {sc : SC} {k : Nat} {a : Expr} {ta : DT} {p p2 pos pos2 : Pos}
def dLenSet (t : DT) : DT := fun Ex env Q => t Ex env fun x env1 => wd env1 x fun d => match d with
  | .tup ds => ∃ ns : List Int, ds = ns.map D.int ∧ ns.length < 3000 ∧ ∀ m : Nat, (m = ns.length ↔ ns.Nodup) → Q (.ext (.int (m : Nat))) env1
  | _ => False
end
end HD
namespace HD
open PySem PyProof.Rows L2
def fSum2 : List D → (Sl → Prop) → Prop
  | [.lst ds], Q => ∃ ns : List Int, ds = ns.map D.int ∧ Q (.ext (.int ns.sum))
  | [.tup ds], Q => ∃ ns : List Int, ds = ns.map D.int ∧ Q (.ext (.int ns.sum))
  | _, _ => False
end HD
namespace HD
open PySem PyProof.Rows L2
section
variable {κ β : Type} [DecidableEq κ]
def luK (kvs : List (κ × β)) (k : κ) : Option β := (kvs.find? fun kv => decide (kv.1 = k)).map (·.2)
def ptK (kvs : List (κ × β)) (k : κ) (v : β) : List (κ × β) := if kvs.any (fun kv => decide (kv.1 = k)) then kvs.map (fun kv => if kv.1 = k then (kv.1, v) else kv) else kvs ++ [(k, v)]
def drK (kvs : List (κ × β)) (k : κ) : List (κ × β) := kvs.filter fun kv => decide (kv.1 ≠ k)
end
section
variable {K : PySem.W.Frag} {F : Hp} {κ : Type} [DecidableEq κ]
def Ents (K : PySem.W.Frag) (F : Hp) (kvs : List (κ × D)) (vs : List (κ × V)) : Prop := vs.map (·.1) = kvs.map (·.1) ∧ Reps K F (kvs.map (·.2)) (vs.map (·.2))
theorem Ents.nil : Ents (κ := κ) K F [] [] := ⟨rfl, rfl⟩
theorem Ents.cons {k : κ} {d : D} {v : V} {kvs : List (κ × D)} {vs : List (κ × V)} (h : Rep K F d v) (t : Ents K F kvs vs) : Ents K F ((k, d) :: kvs) ((k, v) :: vs) :=
  ⟨by rw [List.map_cons, List.map_cons, t.1], .cons h t.2⟩
theorem Ents.inv {p : κ × D} {kvs : List (κ × D)} {vs : List (κ × V)} (h : Ents K F (p :: kvs) vs) : ∃ v r, vs = (p.1, v) :: r ∧ Rep K F p.2 v ∧ Ents K F kvs r := by
  obtain ⟨h1, h2⟩ := h
  cases vs with
  | nil => cases h1
  | cons q r =>
    rw [List.map_cons, List.map_cons] at h1
    injection h1 with e1 e2
    rw [List.map_cons, List.map_cons] at h2
    obtain ⟨v, r', e3, r1, r2⟩ := h2
    injection e3 with e4 e5
    subst e5
    exact ⟨q.2, r, by rw [← e1], by rw [e4]; exact r1, e2, r2⟩
theorem Ents.emp {vs : List (κ × V)} (h : Ents K F ([] : List (κ × D)) vs) : vs = [] := List.map_eq_nil_iff.1 h.1
theorem Ents.length {kvs : List (κ × D)} {vs : List (κ × V)} (h : Ents K F kvs vs) : kvs.length = vs.length := by
  have := congrArg List.length h.1
  rw [List.length_map, List.length_map] at this
  exact this.symm
end
abbrev dkS (a : Addr) (kvs : List (Key × D)) : Sl := .reg (.val (.ref a)) [(a, .dk kvs)]
abbrev dkD (kvs : List (Key × D)) : D := .dk (kvs.map (·.1)) (kvs.map (·.2))
def kD : Key → D
  | .inl i => .int i
  | .inr x => .str x
theorem dk_ok {K : PySem.W.Frag} {F H : Hp} {v : V} {a : Addr} {kvs : List (Key × D)} : SlOk K F H v (dkS a kvs) ↔ v = .ref a ∧ F a = none ∧ ∃ vs, H a = some (.dK vs) ∧ Ents K F kvs vs := by
  constructor
  · rintro ⟨h1, _, h3⟩
    obtain ⟨n, o, ho, vs, rfl, r1, r2⟩ := h3 (a, .dk kvs) List.mem_cons_self
    exact ⟨h1, n, vs, ho, r1, r2⟩
  · rintro ⟨h1, h2, vs, h3, h4, h5⟩
    refine ⟨h1, List.pairwise_singleton _ _, fun p hp => ?_⟩
    rw [List.mem_singleton.mp hp]
    exact ⟨h2, _, h3, vs, rfl, h4, h5⟩
def dkAt (env : Env') (i : Nat) (kvs : List (Key × D)) : Prop := (∃ a, env[i]? = some (dkS a kvs)) ∨ env[i]? = some (.ext (dkD kvs))
section
variable {G : GG} {N : List Str} {sc : SC} {k : Nat} {a b : Expr} {ta tb : DT} {py pos spos apos cpos : Pos} {x : Str}
def dDIn (neg : Bool) (i : Nat) (t : DT) : DT := fun Ex env Q => t Ex env fun x env1 => ∃ key kvs, x = .ext (kD key) ∧ dkAt env1 i kvs ∧ Q (.ext (.bl (neg != (luK kvs key).isSome))) env1
def dDGet (i : Nat) (t : DT) : DT := fun Ex env Q => (∃ kvs, dkAt env i kvs) ∧ t Ex env fun x env1 => ∃ key kvs d, x = .ext (kD key) ∧ dkAt env1 i kvs ∧ luK kvs key = some d ∧ Q (.ext d) env1
def sPutD (i : Nat) (tk tv : DT) : DTS := fun Ex E env => tv Ex env fun y env0 => frzD env0 y fun d env1 => (∃ a kvs, env1[i]? = some (dkS a kvs)) ∧ tk Ex env1 fun x env2 => ∃ a kvs key, env2[i]? = some (dkS a kvs) ∧ x = .ext (kD key) ∧ kvs.length < sizeLine ∧ E.nx (env2.set i (dkS a (ptK kvs key d)))
def dDNew : DT := fun _ env Q => ∀ a, Q (dkS a []) env
theorem de_dnew : DE G N sc k (.Dict [] [] pos) dDNew := ⟨fun W => ⟨tDNewK, fun X S => pe_dnewK, fun e Ex hl env T F σ H Q R hh ht hR p hp => by
  refine hR _ _ F env (dkS p []) (hh.push (Grow.loose hh.fh hp) (dk_ok.2 ⟨rfl, hh.fh.free hp, [], upd_same, .nil⟩) fun c hc => ?_) (ht p)
  rw [List.mem_singleton.mp hc]
  exact hp⟩⟩
def dDOne (tk tv : DT) : DT := fun Ex env Q => tk Ex env fun x env1 => tv Ex env1 fun y env2 => ∃ key, x = .ext (kD key) ∧ frzD env2 y fun d env3 => ∀ a, Q (dkS a [(key, d)]) env3
end
def sSealD (i : Nat) (t : DTS) : DTS := fun Ex E env => ∃ a kvs, env[i]? = some (dkS a kvs) ∧ t Ex E (env.set i (.ext (dkD kvs)))
def keyS (x : Sl) (q : List Key → Prop) : Prop := match x with
  | .ext (.dk ks _) => q ks
  | _ => False
theorem keyS_dk (ks : List Key) (ds : List D) (q : List Key → Prop) : keyS (.ext (.dk ks ds)) q = q ks := rfl
def dKeys (t : DT) : DTI := fun Ex env Q => t Ex env fun x env1 => keyS x fun ks => Q (ks.map kD) (fun _ => True) env1
end HD
namespace PySem.AutoSeq1
theorem ext_tup (l : Addr) (xs : Array Value) (n : Nat) (b : Addr) (ys : Array Value) (m : Nat) (sl : Array (Option Value)) (h0 : ¬(!xs.isEmpty && Builtin.List.listTooLong (xs.size + ys.size)) = true) (h1 : xs.size ≤ sizeLine) (h2 : xs.size + ys.size ≤ sizeLine + 1) :
    Meets (Builtin.«list.extend» ⟨[.ref l, .ref b], []⟩) (fun _ R s => s.heap.get? l = some { cls := .type "list", dict := none, data := .seq xs n, slots := #[] } ∧ s.heap.get? b = some { cls := .type "tuple", dict := none, data := .seq ys m, slots := sl } ∧ R (.ok (.ret Value.none)) { s with heap := s.heap.update l (Obj.mapSeq fun x => x ++ ys), toks := s.toks }) :=
  .of_wp fun prog w A R s h => by
    obtain ⟨hp, gs, dr, tk, os⟩ := s
    obtain ⟨hl, hb, h⟩ := h
    have g1 := idx_int
    have g2 := sub_tuple_tuple
    have g3 := sub_list_list
    have g4 := sub_tuple_list
    have g5 := sub_list_tuple
    have hz : (xs ++ ys).size ≤ sizeLine + 1 := by
      rw [Array.size_append]
      exact h2
    wp_walk using (wpAny_updateSeq hl rfl (hz := h1) (_hz' := hz)), wpAny_loadPart' hl, wpAny_loadPart' hb
    exact ⟨_, rfl, h⟩
end PySem.AutoSeq1
namespace HD
open PySem PyProof.Rows L2
def rExtT (K : PySem.W.Frag) : V → List V → Hp → VK → Prop := fun x vs H Q => ∃ l b xs zs, x = .ref l ∧ vs = [.ref b] ∧ H l = some (.lst xs) ∧ TupD K H b zs ∧ xs.length + zs.length ≤ sizeLine ∧ Q .non (upd H l (.lst (xs ++ zs)))
theorem mt_extT {X : Cx} : MtM X "list.extend" (rExtT X.K) := by
  intro pins s σ H x vs v us Q I rx rv h
  obtain ⟨l, b, xs, zs, rfl, rfl, hH, hB, hz, q⟩ := h
  cases rx
  obtain ⟨u, rfl, ru⟩ := rv.one
  cases ru
  obtain ⟨z, its, n, r, hl, e⟩ := I.lstM hH
  obtain ⟨its2, r2, ⟨ob, e2, ec, m, ed⟩, z2⟩ := I.tuple hB.sq
  obtain ⟨ob', e3, en⟩ := hB.noDict I
  rw [e2] at e3
  cases e3
  have hl2 := r2.length
  have hsz : its.toArray.size + its2.toArray.size ≤ sizeLine := by rw [List.size_toArray, List.size_toArray]; omega
  have hlong : ¬ (!its.toArray.isEmpty && Builtin.List.listTooLong (its.toArray.size + its2.toArray.size)) = true := extend_door hsz
  obtain ⟨cls, dict, data, slots⟩ := ob
  cases ec
  cases ed
  cases en
  refine call_meets F.slot_list_extend ⟨_, e, rfl⟩ F.entry_list_extend (F.args_list_extend_2 _ _)
    (AutoSeq1.ext_tup l its.toArray n b its2.toArray m slots hlong (by rw [List.size_toArray]; omega) (by omega)) ⟨e, e2, ?_⟩
  refine ⟨.non, _, I.lset (its' := its ++ its2) hH e (by simp) (r.append r2) ?_, rfl, q⟩
  rw [List.length_append]
  omega
section
variable {G : GG} {N : List Str} {sc : SC} {k : Nat} {b : Expr} {tb : DT} {apos cpos py : Pos} {x : Str}
def dExtT (i : Nat) (t : DT) : DT := fun Ex env Q => (∃ a ds, env[i]? = some (.lst a ds)) ∧ t Ex env fun x env1 => ∃ a ds es, x = .ext (.tup es) ∧ env1[i]? = some (.lst a ds) ∧ ds.length + es.length ≤ sizeLine ∧ Q (.ext .non) (env1.set i (.lst a (ds ++ es)))
end
theorem seq_putD (i : Nat) (tk tv : DT) (u : DTS) (Ex : DX) (E : DEnds) (env : Env') : sSeq (sPutD i tk tv) u Ex E env = sPutD i tk tv Ex { E with nx := fun env1 => u Ex E env1 } env := rfl
theorem seq_sealD (i : Nat) (t u : DTS) (Ex : DX) (E : DEnds) (env : Env') : sSeq (sSealD i t) u Ex E env = sSealD i t Ex { E with nx := fun env1 => u Ex E env1 } env := rfl
theorem seq_while (c : DTT) (b u : DTS) (Ex : DX) (E : DEnds) (env : Env') : sSeq (sWhile c b) u Ex E env = sWhile c b Ex { E with nx := fun env1 => u Ex E env1 } env := rfl
end HD
namespace HD
open PySem PyProof.Rows L2
section
variable {prog : Program} {w : World} {A : Around} {E : Value → Shared → Prop} {s : Shared}
theorem collect_tup {l : Addr} {vs : List Value} {Q : List Value → Shared → Prop} (hl : IsTup s.heap l vs.toArray)
    (h : Q vs { s with heap := (s.heap.push (seqObj "list" #[] 0)).update s.heap.objs.size (Obj.mapSeq (· ++ vs.toArray)) }) (hsz : vs.length ≤ sizeLine) :
    wpAny (model prog w) A (collect (.ref l)) Q E s := by
  obtain ⟨o, ho, hc, n, hd⟩ := id hl
  unfold collect
  refine wpAny_bind (wpAny_runValue (codeAny_builtin entry_proto_collect' ?_))
  show wpAny _ _ (do again (.builtin "list.__iadd__" ⟨[← newList [], .ref l], []⟩)) _ _ s
  refine wpAny_bind (wpAny_newList (wpAny_pure ⟨Code.quiet_builtin _ (by decide +kernel), codeAny_builtin entry_list_iadd' ?_⟩))
  show wpAny _ _ (Builtin.List.listExtendWith (.ref s.heap.objs.size) (.ref l) (.ref s.heap.objs.size)) _ _ { s with heap := s.heap.push (seqObj "list" #[] 0) }
  unfold Builtin.List.listExtendWith
  have ho' : (s.heap.push (seqObj "list" #[] 0)).get? l = some o := Heap.get?_push_of_some _ ho
  refine wpAny_bind (wpAny_typeOf (T := "tuple") ⟨o, ho', hc⟩ ?_)
  have ht : (Value.type "tuple" == Value.type "tuple") = true := by rfl
  rw [if_pos (by rw [ht]; simp)]
  refine wpAny_bind (listItems_at ho' hd ?_)
  refine wpAny_bind (listItems_at (xs := #[]) (n := 0) (Heap.get?_push_size _ rfl) rfl ?_)
  rw [if_neg (by simp)]
  refine wpAny_bind (listUpdate_at (xs := #[]) (n := 0) (Heap.get?_push_size _ rfl) rfl ?_ (Nat.zero_le _) (by show (#[] ++ vs.toArray).size ≤ sizeLine + 1; simp only [Array.size_append, List.size_toArray, List.length_nil]; omega))
  refine wpAny_pure ?_
  show wpAny (model prog w) A (do
      let o ← load s.heap.objs.size
      match o.data with
      | .seq xs _ => pure xs.toList
      | _ => unsupported "internal:collect") Q E { s with heap := (s.heap.push (seqObj "list" #[] 0)).update s.heap.objs.size (Obj.mapSeq (· ++ vs.toArray)) }
  refine wpAny_bind (wpAny_load (get?_update_seq (Heap.get?_push_size _ rfl) _) ?_)
  show wpAny _ _ (pure ((#[] : Array Value) ++ vs.toArray).toList) Q E _
  rw [show ((#[] : Array Value) ++ vs.toArray).toList = vs by simp]
  exact wpAny_pure h
open SrtO in
theorem sorted_ordT {l : Addr} {vs : List Value} {ltv : Value → Value → Bool} {Q : Value → Shared → Prop} (O : Swo ltv) (hl : IsTup s.heap l vs.toArray) (hz : vs.length ≤ sizeLine)
    (hS : 2 ≤ vs.length → ∀ (h₁ : Heap) (a : Addr), h₁.get? a = some (seqObj "list" vs.toArray 0) → (∀ b o, s.heap.get? b = some o → b ≠ a ∧ h₁.get? b = some o) → SortableO prog w A.in1.in1 { s with heap := h₁ } a vs ltv)
    (h : ∀ out : List Value, Srtd ltv out → Stb ltv out vs → Q (.ref (s.heap.objs.size + 1)) { s with heap := sortedAll s.heap vs out.toArray }) :
    wpAny (model prog w) A (call (.builtin "sorted") [.ref l]) Q E s := by
  refine Calls.call_function_entry kind_sorted plain_sorted entry_sorted (args_sorted1 _) ?_
  unfold Builtin.«sorted»
  refine wpAny_bind (m := checkCount "sorted" 1 1 _) (wpAny_pure ?_)
  refine wpAny_bind (collect_tup hl ?_ hz)
  refine wpAny_bind (wpAny_newList ?_ hz)
  have hsz : ((s.heap.push (seqObj "list" #[] 0)).update s.heap.objs.size (Obj.mapSeq (· ++ vs.toArray))).objs.size = s.heap.objs.size + 1 := by
    rw [Heap.size_update, size_push']
  have hoL : (((s.heap.push (seqObj "list" #[] 0)).update s.heap.objs.size (Obj.mapSeq (· ++ vs.toArray))).push (seqObj "list" vs.toArray 0)).get? (s.heap.objs.size + 1) = some (seqObj "list" vs.toArray 0) := by
    rw [← hsz]; exact Heap.get?_push_size _ rfl
  have keep : ∀ b o, s.heap.get? b = some o → b ≠ s.heap.objs.size + 1 ∧ (((s.heap.push (seqObj "list" #[] 0)).update s.heap.objs.size (Obj.mapSeq (· ++ vs.toArray))).push (seqObj "list" vs.toArray 0)).get? b = some o := fun b o q => by
    have hlt : b < s.heap.objs.size := Heap.lt_size q
    refine ⟨Nat.ne_of_lt (Nat.lt_succ_of_lt hlt), Heap.get?_push_of_some _ ?_⟩
    rw [Heap.get?_update_ne _ _ _ _ (Nat.ne_of_lt hlt)]
    exact Heap.get?_push_of_some _ q
  show wpAny _ _ _ _ _ { s with heap := ((s.heap.push (seqObj "list" #[] 0)).update s.heap.objs.size (Obj.mapSeq (· ++ vs.toArray))).push (seqObj "list" vs.toArray 0) }
  rw [hsz]
  refine wpAny_bind (wpAny_holding (wpAny_call_entry slot_list_sort ⟨_, hoL, rfl⟩ entry_list_sort (list_sort_ord O hoL hz (fun h2 => hS h2 _ _ hoL keep) fun out hs hb => ⟨_, rfl, ?_⟩) (args_list_sort _)))
  exact wpAny_pure ⟨_, rfl, h out hs hb⟩
end
def rSortT (K : PySem.W.Frag) : List V → Hp → VK → Prop := fun vs H Q => ∃ (a : Addr) (ns : List Int), vs = [V.ref a] ∧ SqT K H a (ns.map V.int) ∧
  ∀ (ns' : List Int) (p : Addr), ns'.Perm ns → ns'.Pairwise (· ≤ ·) → H p = none → Q (.ref p) (upd H p (.lst (ns'.map V.int)))
theorem cr_sortT {X : Cx} : CallR X (.builtin "sorted") (rSortT X.K) := by
  intro pins s σ H vs us Q I r h
  obtain ⟨a, ns, rfl, hs, q⟩ := h
  obtain ⟨its, rv, hl, hz⟩ := I.tuple hs
  rw [Vals.ref1 r]
  have hi := rv.ints
  refine sorted_ordT SrtO.swo_int hl (by rw [← rv.length]; exact hz) (fun h2 h₁ a' _ _ => SrtO.ints_sortable hi h2) fun out h1 h2 => ?_
  obtain ⟨k1, k2, k3⟩ := SrtO.ints_out hi h1 h2
  obtain ⟨ep, he'⟩ := PyProof.Rows.sortedAll_at s.heap its out.toArray
  have hlen : ((out.map SrtO.iv).map V.int).length ≤ sizeLine := by
    rw [List.length_map, k2.length_eq]
    rw [List.length_map] at hz
    exact hz
  exact ⟨.ref _, upd H (s.heap.objs.size + 1) (.lst ((out.map SrtO.iv).map V.int)), I.laid (t' := s.toks) (fun _ _ => PyProof.Rows.sortedAll_old) (Nat.le_succ _) ⟨hlen, out, ep, vals_of_ints k1, he'⟩, rfl, q _ _ k2 k3 (I.hok.fresh (Nat.le_succ _))⟩
def fSortT : List D → (Sl → Prop) → Prop
  | [.tup ds], Q => ∃ ns : List Int, ds = ns.map D.int ∧ ∀ (ns' : List Int) (a : Addr), ns'.Perm ns → ns'.Pairwise (· ≤ ·) → Q (.lst a (ns'.map D.int))
  | _, _ => False
theorem b_sortT : BR "sorted" fSortT := ⟨fun _ _ K => rSortT K, fun _ _ K F H vs ds Q R fh hr hf ha => by
    unfold fSortT at hf
    split at hf
    · obtain ⟨v, rfl, r⟩ := hr.one
      obtain ⟨ns, rfl, q⟩ := hf
      obtain ⟨a, vs, rfl, e1, _, r1⟩ := r.tup fh
      have z := r1.ints
      subst z
      exact ⟨a, ns, rfl, e1, fun ns' p h1 h2 n => ha.lst fh n (Reps.of_ints ns') (q ns' p h1 h2)⟩
    · exact hf.elim, fun X _ _ => cr_sortT⟩
end HD
namespace HD
open PySem PyProof.Rows L2
open PySem.W (AlikeAll minD dataLt min_list_data readsAll_at keyToks keyToksAll)
abbrev pD (p : Int × Int) : D := .tup [.int p.1, .int p.2]
theorem lt_pair (a b c d : Int) : dataLt (.tuple [.int a, .int b]) (.tuple [.int c, .int d]) = decide (a < c ∨ (a = c ∧ b < d)) := by
  have key : dataLt (.tuple [.int a, .int b]) (.tuple [.int c, .int d]) = (decide (a < c) || (!decide (c < a) && (decide (b < d) || (!decide (d < b) && false)))) := by
    unfold dataLt keyToks keyToksAll keyToks keyToksAll keyToks keyToksAll
    simp only [List.cons_append, List.nil_append, lex_cons, PyProof.Rows.lexLt]
    show ((decide ((1 : Int) < 1)) || (!decide ((1 : Int) < 1) && (decide (a < c) || (!decide (c < a) && ((decide ((1 : Int) < 1)) || (!decide ((1 : Int) < 1) && (decide (b < d) || (!decide (d < b) && (decide ((0 : Int) < 0) || (!decide ((0 : Int) < 0) && false)))))))))) = _
    simp
  rw [key, Bool.eq_iff_iff]
  simp only [Bool.or_eq_true, Bool.and_eq_true, Bool.not_eq_true', decide_eq_true_eq, decide_eq_false_iff_not, Bool.and_false, Bool.or_false]
  omega
def lxP (p q : Int × Int) : Prop := p.1 < q.1 ∨ (p.1 = q.1 ∧ p.2 ≤ q.2)
def fMinP : List D → (Sl → Prop) → Prop
  | [.lst ds], Q => ∃ ps : List (Int × Int), ds = ps.map pD ∧ ps ≠ [] ∧ ∀ p ∈ ps, (∀ q ∈ ps, lxP p q) → Q (.ext (pD p))
  | _, _ => False
end HD
namespace HD
open PySem PyProof.Rows L2
section
variable {G : GG} {N : List Str} {sc : SC} {k : Nat} {b : Expr} {tb : DT} {apos cpos py : Pos} {x : Str}
def dRemove (i : Nat) (t : DT) : DT := fun Ex env Q => (∃ a ds, env[i]? = some (.lst a ds)) ∧ t Ex env fun x env1 => ∃ (a : Addr) (ns : List Int) (n : Int) (j : Nat), x = .ext (.int n) ∧ env1[i]? = some (.lst a (ns.map D.int)) ∧ ns[j]? = some n ∧ (∀ m, m < j → ns[m]? ≠ some n) ∧ Q (.ext .non) (env1.set i (.lst a ((ns.eraseIdx j).map D.int)))
end
theorem sw_cell {env : Env} {elt : Expr} {gens : List Comprehension} {scope : Scope} {pos py : Pos} {y : Str} {line : Nat} (h : env.scope.names.lookup y = some .cell) : swapsWith (.ListComp elt gens scope pos) (some (.Name y py)) line env = pure false := by
  have e : env.kindOf y = some .cell := h
  show (pure (env.blockKind == .function && env.kindOf y == some .local && py.line == pos.line && !(scope.names.any fun (n, k) => n == y && (k == .local || k == .cell))) : Sem Bool) = pure false
  rw [e]
  have f : ((some NameKind.cell : Option NameKind) == some .local) = false := by decide
  rw [f, Bool.and_false, Bool.false_and, Bool.false_and]
end HD
namespace HD
open PySem PyProof.Rows L2
abbrev tkI (P : Program) (w : World) : HeapKind P w (List Int) := tupleKind (PySem.intKind P w)
abbrev KB := List (List Int × Addr × V)
def PX (kbs : KB) (xs : List (List Int × Addr × Value)) : Prop := Paired (fun x y => x.1 = y.1 ∧ x.2.1 = y.2.1 ∧ RelV x.2.2 y.2.2) kbs xs
theorem px_to : ∀ {kbs : KB} {xs : List (List Int × Addr × Value)}, PX kbs xs → ∃ us, Vals (kbs.map (·.2.2)) us ∧ xs = (kbs.zip us).map fun x => (x.1.1, x.1.2.1, x.2)
  | [], _, h => by
    cases h
    exact ⟨[], .nil, rfl⟩
  | x :: kbs, _, h => by
    cases h with
    | @cons _ y _ _ r t =>
      obtain ⟨us, h1, rfl⟩ := px_to t
      refine ⟨y.2.2 :: us, .cons r.2.2 h1, ?_⟩
      obtain ⟨y1, y2, y3⟩ := y
      obtain ⟨r1, r2, r3⟩ := r
      rw [List.zip_cons_cons, List.map_cons]
      show _ = (x.1, x.2.1, y3) :: _
      rw [show x.1 = y1 from r1, show x.2.1 = y2 from r2]
abbrev kvB (kbs : KB) : List (List Int × V) := kbs.map fun x => (x.1, x.2.2)
section
variable {P : Program} {w : World} {H : Hp} {h h' : Heap} {a : Addr} {kbs : KB}
theorem dtO_mk (z : kbs.length ≤ sizeLine) (hs : (a == sysModules) = false) (nd : (kbs.map (·.1)).Nodup) {xs : List (List Int × Addr × Value)} (px : PX kbs xs) {o : Obj} {es : Array DictEntry} {ep : Nat} (ho : h.get? a = some o) (hc : o.ExactDict) (hd : o.data = .dict es ep)
    (he : es.toList = xs.map (entryOfKey (tkI P w))) : ObjOk P w H h a (dtO a kbs) := by
  obtain ⟨us, h1, rfl⟩ := px_to px
  refine ⟨⟨z, hs, nd, us, o, es, ep, h1, ho, hc, hd, ?_⟩, ⟨o, ho⟩, fun h1 h2 ⟨a1, a2, a3, us, o, es, ep, b1, b2, b3, b4, b5⟩ k => ⟨a1, a2, a3, us, o, es, ep, b1, k o b2, b3, b4, b5⟩⟩
  rw [he, List.map_map]
  rfl
end
section
variable {X : Cx} {pins : List (Addr × Obj)} {σ : L2.St} {H : Hp} {s : Shared} {a b : Addr} {kbs : KB} {ks : List Int}
def KeysOk (K : PySem.W.Frag) (H : Hp) (kbs : KB) : Prop := ∀ x ∈ kbs, TupD K H x.2.1 (x.1.map V.int)
end
section
variable {X : Cx} {o i e value : Expr} {pos pos' tpos : Pos} {td ty tv : TE}
def tTNew : TE := fun _ H Q => ∀ p, H p = none → Q (.ref p) (upd H p (dtO p []))
theorem pe_tnew : PE X (.Dict [] [] pos) tTNew := ⟨fun pins s σ H Q I h =>
  wpAny_Dict_empty ⟨.ref s.heap.objs.size, _, I.laid (a := s.heap.objs.size) (o := dtO s.heap.objs.size []) (t' := s.toks) (fun _ _ q => Heap.get?_push_of_some _ q) (Nat.le_refl _)
    (dtO_mk (Nat.zero_le _) (beq_eq_false_iff_ne.mpr (Ne.symm (Nat.ne_of_lt I.big))) List.nodup_nil (xs := []) .nil (Heap.get?_push_size _ rfl) ⟨rfl, rfl, rfl⟩ rfl rfl), rfl, h _ (I.hok.fresh (Nat.le_refl _))⟩⟩
end
section
variable {K : PySem.W.Frag} {F : Hp}
def EntT (K : PySem.W.Frag) (F : Hp) (kvs : List (List Int × D)) (kbs : KB) : Prop := Ents K F kvs (kvB kbs) ∧ KeysOk K F kbs
theorem EntT.nil : EntT K F [] [] := ⟨Ents.nil, fun x hx => nomatch hx⟩
abbrev dtS (a : Addr) (kvs : List (List Int × D)) : Sl := .reg (.val (.ref a)) [(a, .dt kvs)]
abbrev dtD (kvs : List (List Int × D)) : D := .dt (kvs.map (·.1)) (kvs.map (·.2))
abbrev kT (k : List Int) : D := .tup (k.map D.int)
theorem entT_iff {kvs : List (List Int × D)} {kbs : KB} : EntT K F kvs kbs ↔ kbs.map (·.1) = kvs.map (·.1) ∧ (∀ x ∈ kbs, TupD K F x.2.1 (x.1.map V.int)) ∧ Reps K F (kvs.map (·.2)) (kbs.map (·.2.2)) := by
  unfold EntT Ents KeysOk
  rw [kvB, List.map_map, List.map_map]
  exact ⟨fun h => ⟨h.1.1, h.2, h.1.2⟩, fun h => ⟨⟨h.1, h.2.2⟩, h.2.1⟩⟩
theorem dt_ok {H : Hp} {v : V} {a : Addr} {kvs : List (List Int × D)} : SlOk K F H v (dtS a kvs) ↔ v = .ref a ∧ F a = none ∧ ∃ kbs, H a = some (dtO a kbs) ∧ EntT K F kvs kbs := by
  constructor
  · rintro ⟨h1, _, h3⟩
    obtain ⟨n, o, ho, kbs, rfl, r1, r2, r3⟩ := h3 (a, .dt kvs) List.mem_cons_self
    exact ⟨h1, n, kbs, ho, entT_iff.2 ⟨r1, r2, r3⟩⟩
  · rintro ⟨h1, h2, kbs, h3, h4⟩
    obtain ⟨r1, r2, r3⟩ := entT_iff.1 h4
    refine ⟨h1, List.pairwise_singleton _ _, fun p hp => ?_⟩
    rw [List.mem_singleton.mp hp]
    exact ⟨h2, _, h3, kbs, rfl, r1, r2, r3⟩
def dtAt (env : Env') (i : Nat) (kvs : List (List Int × D)) : Prop := (∃ a, env[i]? = some (dtS a kvs)) ∨ env[i]? = some (.ext (dtD kvs))
end
section
variable {G : GG} {N : List Str} {sc : SC} {k : Nat} {a b : Expr} {ta tb : DT} {py pos spos apos cpos : Pos} {x : Str}
def dDInT (neg : Bool) (i : Nat) (t : DT) : DT := fun Ex env Q => t Ex env fun x env1 => ∃ key kvs, x = .ext (kT key) ∧ dtAt env1 i kvs ∧ Q (.ext (.bl (neg != (luK kvs key).isSome))) env1
def dDGetT (i : Nat) (t : DT) : DT := fun Ex env Q => (∃ kvs, dtAt env i kvs) ∧ t Ex env fun x env1 => ∃ key kvs d, x = .ext (kT key) ∧ dtAt env1 i kvs ∧ luK kvs key = some d ∧ Q (.ext d) env1
def sPutDT (i : Nat) (tk tv : DT) : DTS := fun Ex E env => tv Ex env fun y env0 => frzD env0 y fun d env1 => (∃ a kvs, env1[i]? = some (dtS a kvs)) ∧ tk Ex env1 fun x env2 => ∃ a kvs key, env2[i]? = some (dtS a kvs) ∧ x = .ext (kT key) ∧ kvs.length < sizeLine ∧ E.nx (env2.set i (dtS a (ptK kvs key d)))
def dDNewT : DT := fun _ env Q => ∀ a, Q (dtS a []) env
theorem de_dnewT : DE G N sc k (.Dict [] [] pos) dDNewT := ⟨fun W => ⟨tTNew, fun X S => pe_tnew, fun e Ex hl env T F σ H Q R hh ht hR p hp => by
  refine hR _ _ F env (dtS p []) (hh.push (Grow.loose hh.fh hp) (dt_ok.2 ⟨rfl, hh.fh.free hp, [], upd_same, .nil⟩) fun c hc => ?_) (ht p)
  rw [List.mem_singleton.mp hc]
  exact hp⟩⟩
def sSealDT (i : Nat) (t : DTS) : DTS := fun Ex E env => ∃ a kvs, env[i]? = some (dtS a kvs) ∧ t Ex E (env.set i (.ext (dtD kvs)))
end
end HD
namespace HD
open PySem PyProof.Rows L2
def keyST (x : Sl) (q : List (List Int) → Prop) : Prop := match x with
  | .ext (.dt ks _) => q ks
  | _ => False
theorem keyST_dt (ks : List (List Int)) (ds : List D) (q : List (List Int) → Prop) : keyST (.ext (.dt ks ds)) q = q ks := rfl
def dKeysT (t : DT) : DTI := fun Ex env Q => t Ex env fun x env1 => keyST x fun ks => Q (ks.map kT) (fun _ => True) env1
end HD
namespace HD
open PySem PyProof.Rows L2
open PySem.W (dataLt keyToks keyToksAll dataLe EachIs AllAlike Sortable list_sort_data KdlSrc kdl_extend kdl_hint_dict alike alikeAll)
theorem toks_ints : ∀ ns ms : List Int, PyProof.Rows.lexLt itemOrd (keyToksAll (ns.map PyData.int)) (keyToksAll (ms.map PyData.int)) = HT.lexLt ns ms
  | [], [] => by
    show PyProof.Rows.lexLt itemOrd [Sum.inl 0] [Sum.inl 0] = false
    decide
  | [], m :: ms => by
    show PyProof.Rows.lexLt itemOrd [Sum.inl 0] (Sum.inl 1 :: _) = true
    rw [lex_cons]
    show (decide ((0 : Int) < 1) || _) = true
    rfl
  | n :: ns, [] => by
    show PyProof.Rows.lexLt itemOrd (Sum.inl 1 :: _) [Sum.inl 0] = false
    rw [lex_cons]
    show (decide ((1 : Int) < 0) || (!decide ((0 : Int) < 1) && _)) = false
    rfl
  | n :: ns, m :: ms => by
    show PyProof.Rows.lexLt itemOrd (Sum.inl 1 :: Sum.inl n :: keyToksAll (ns.map PyData.int)) (Sum.inl 1 :: Sum.inl m :: keyToksAll (ms.map PyData.int)) = _
    rw [lex_cons, lex_cons, toks_ints ns ms, HT.lexLt_cons]
    show (decide ((1 : Int) < 1) || (!decide ((1 : Int) < 1) && (decide (n < m) || (!decide (m < n) && HT.lexLt ns ms)))) = _
    have e1 : decide ((1 : Int) < 1) = false := by decide
    rw [e1, Bool.false_or, Bool.not_false, Bool.true_and]
    by_cases e : n = m
    · subst e
      rw [if_pos rfl, decide_eq_false (Int.lt_irrefl n), Bool.false_or, Bool.not_false, Bool.true_and]
    · rw [if_neg e]
      by_cases h : n < m
      · rw [decide_eq_true h, Bool.true_or]
      · rw [decide_eq_false h, decide_eq_true (show m < n by omega)]
        rfl
abbrev tI (k : List Int) : PyData := .tuple (k.map PyData.int)
theorem alike_ints : ∀ ns ms : List Int, alikeAll (ns.map PyData.int) (ms.map PyData.int) = true
  | [], _ => rfl
  | _ :: _, [] => rfl
  | n :: ns, m :: ms => by
    show (alike (.int n) (.int m) && alikeAll (ns.map PyData.int) (ms.map PyData.int)) = true
    rw [alike_ints ns ms]
    rfl
section
variable {prog : Program} {w : World} {A : Around} {E : Value → Shared → Prop} {s : Shared}
theorem depth_all : ∀ k : List Int, PyData.depthAll (k.map PyData.int) = 0
  | [] => rfl
  | n :: k => by
    show max 0 (PyData.depthAll (k.map PyData.int)) = 0
    rw [depth_all k]
    rfl
theorem depth_ints (k : List Int) : (tI k).depth ≤ 1 := by
  show PyData.depthAll (k.map PyData.int) + 1 ≤ 1
  rw [depth_all]
  exact Nat.le_refl _
end
theorem tup_reads {X : Cx} {pins : List (Addr × Obj)} {σ : L2.St} {H : Hp} {s : Shared} {b : Addr} {ks : List Int} (I : Inv X pins σ H s) (h : TupD X.K H b (ks.map V.int)) : ∃ as, Reads s.heap (.ref b) (tI ks) as := by
  refine Dp.reads I _ (.ref b) (.ref b) (.tup h.sq ?_) rfl
  clear h
  induction ks with
  | nil => exact .nil
  | cons k ks ih => exact .cons (.int k) ih
def LxK (ks : List (List Int)) : Prop := ks.Pairwise fun a b => HT.lexLt b a = false
def fSortK : List D → (Sl → Prop) → Prop
  | [.dt ks _], Q => (ks.length ≤ 1 ∨ ∀ k ∈ ks, k ≠ []) ∧ ∀ (ks' : List (List Int)) (a : Addr), ks'.Perm ks → LxK ks' → Q (.lst a (ks'.map kT))
  | _, _ => False
theorem seq_putDT (i : Nat) (tk tv : DT) (u : DTS) (Ex : DX) (E : DEnds) (env : Env') : sSeq (sPutDT i tk tv) u Ex E env = sPutDT i tk tv Ex { E with nx := fun env1 => u Ex E env1 } env := rfl
theorem seq_sealDT (i : Nat) (t u : DTS) (Ex : DX) (E : DEnds) (env : Env') : sSeq (sSealDT i t) u Ex E env = sSealDT i t Ex { E with nx := fun env1 => u Ex E env1 } env := rfl
end HD
namespace HD
open PySem PyProof.Rows L2
section
variable {X : Cx} {a b c d : Expr} {ta tb tc td : TE} {pos : Pos}
def tChain3 (r r' r'' : R2) (ta tb tc td : TE) : TE := fun σ H Q => ta σ H fun x H1 => tb σ H1 fun y H2 => r x y H2 fun z H3 => ∃ k, z = .bl k ∧
  (if k = true then tc σ H3 fun w H4 => r' y w H4 fun z' H5 => ∃ k', z' = .bl k' ∧ (if k' = true then td σ H5 fun v H6 => r'' w v H6 Q else Q (.bl false) H5) else Q (.bl false) H3)
theorem pe_chain3 {op op' op'' : CmpOp} {r r' r'' : R2} (ho : OpR X (compareOp op) r) (ho' : OpR X (compareOp op') r') (ho'' : OpR X (compareOp op'') r'') (ha : PE X a ta) (hb : PE X b tb) (hc : PE X c tc) (hd : PE X d td)
    (hm : lastMarks [op, op', op''] [b, c, d] = false := by with_unfolding_all rfl) : PE X (.Compare a [op, op', op''] [b, c, d] pos) (tChain3 r r' r'' ta tb tc td) := by
  refine ⟨fun pins s σ H Q I h => ?_⟩
  refine Compare_chain (thn (ha.run pins s σ H _ I h) fun v s1 ⟨x, H1, I1, r1, q1⟩ => chain_link (thn (hb.run pins s1 σ H1 _ I1 q1) fun u s2 ⟨y, H2, I2, r2, q2⟩ =>
    thn (ho pins s2 σ H2 x y v u _ I2 r1 r2 q2) fun d s3 ⟨z, H3, I3, r3, k, e, q3⟩ => ?_)) hm
  subst e
  cases r3
  refine wpAny_truthy_bool ?_
  cases k with
  | false => exact ite_ff ⟨.bl false, H3, I3, rfl, q3⟩
  | true =>
    refine ite_tt (chain_link (thn (hc.run pins s3 σ H3 _ I3 q3) fun w' s4 ⟨z', H4, I4, r4, q4⟩ => thn (ho' pins s4 σ H4 y z' u w' _ I4 r2 r4 q4) fun d' s5 ⟨z2, H5, I5, r5, k2, e2, q5⟩ => ?_))
    subst e2
    cases r5
    refine wpAny_truthy_bool ?_
    cases k2 with
    | false => exact ite_ff ⟨.bl false, H5, I5, rfl, q5⟩
    | true => exact ite_tt (chain_last (thn (hd.run pins s5 σ H5 _ I5 q5) fun w2 s6 ⟨z3, H6, I6, r6, q6⟩ => ho'' pins s6 σ H6 z' z3 w' w2 Q I6 r4 r6 q6))
end
section
variable {G : GG} {N : List Str} {sc : SC} {k : Nat} {a b c d : Expr} {ta tb tc td : DT} {pos : Pos}
def dChain3 (f f' f'' : D → D → (Sl → Prop) → Prop) (ta tb tc td : DT) : DT := fun Ex env Q => ta Ex env fun x env1 => tb Ex env1 fun y env2 => wd env2 x fun d => wd env2 y fun d' => f d d' fun z =>
  BlS z (fun b => if b = true then (tc Ex env2 fun w env3 => wd env3 y fun d1 => wd env3 w fun d2 => f' d1 d2 fun z' => BlS z' (fun b' => if b' = true then (td Ex env3 fun v env4 => wd env4 w fun d3 => wd env4 v fun d4 => f'' d3 d4 fun sl => Q sl env4) else Q (.ext (.bl false)) env3) .mk) else Q (.ext (.bl false)) env2) .mk
theorem bls {z : Sl} {k : Bool → Prop} {t : Tok k} (h : BlS z k t) : ∃ b, z = .ext (.bl b) ∧ k b := by
  unfold BlS at h
  split at h
  · exact ⟨_, rfl, h⟩
  · exact h.elim
theorem de_chain3 {op op' op'' : CmpOp} {f f' f'' : D → D → (Sl → Prop) → Prop} (hr : CmpR op f) (hr' : CmpR op' f') (hr'' : CmpR op'' f'') (ha : DE G N sc k a ta) (hb : DE G N sc k b tb) (hc : DE G N sc k c tc) (hd : DE G N sc k d td)
    (hm : lastMarks [op, op', op''] [b, c, d] = false := by with_unfolding_all rfl) : DE G N sc k (.Compare a [op, op', op''] [b, c, d] pos) (dChain3 f f' f'' ta tb tc td) :=
  ⟨fun W => by
    obtain ⟨r, h1, h2⟩ := hr
    obtain ⟨r', h1', h2'⟩ := hr'
    obtain ⟨r'', h1'', h2''⟩ := hr''
    obtain ⟨te, p1, i1⟩ := ha.ex W
    obtain ⟨tf, p2, i2⟩ := hb.ex W
    obtain ⟨tg, p3, i3⟩ := hc.ex W
    obtain ⟨tw, p4, i4⟩ := hd.ex W
    refine ⟨tChain3 (r G.K) (r' G.K) (r'' G.K) te tf tg tw, fun X S => pe_chain3 (by rw [← S.K]; exact h2 X S.units) (by rw [← S.K]; exact h2' X S.units) (by rw [← S.K]; exact h2'' X S.units) (p1 X S) (p2 X S) (p3 X S) (p4 X S) hm, fun e Ex hl env T F σ H Q R hh ht hR => ?_⟩
    refine i1 e Ex hl env T F σ H _ _ hh ht fun v H1 F1 env1 x hh1 q1 => ?_
    refine i2 e Ex hl env1 _ F1 σ H1 _ _ hh1 q1 fun u H2 F2 env2 y hh2 q2 => ?_
    obtain ⟨d, rd, q3⟩ := hh2.wd (v := v) (sl := x) (List.mem_cons_of_mem _ List.mem_cons_self) q2
    obtain ⟨d', rd', q4⟩ := hh2.wd (v := u) (sl := y) List.mem_cons_self q3
    refine h1 _ F2 H2 v u d d' _ _ hh2.fh rd rd' q4 fun z F3 H3 sl g ok own q5 => ?_
    obtain ⟨bb, e5, q5'⟩ := bls q5
    subst e5
    clear q5
    have hh3 := hh2.push g ok own
    refine ⟨bb, hh3.temps (z, .ext (.bl bb)) List.mem_cons_self, ?_⟩
    cases bb with
    | false =>
      rw [if_neg Bool.false_ne_true] at q5' ⊢
      exact hR (.bl false) H3 F3 env2 (.ext (.bl false)) (hh3.pop.pop.pop.pushE rfl) q5'
    | true =>
      rw [if_pos rfl] at q5' ⊢
      refine i3 e Ex hl env2 _ F3 σ H3 _ _ hh3.pop q5' fun w H4 F4 env4 x4 hh4 q6 => ?_
      obtain ⟨d1, rd1, q7⟩ := hh4.wd (v := u) (sl := y) (List.mem_cons_of_mem _ List.mem_cons_self) q6
      obtain ⟨d2, rd2, q8⟩ := hh4.wd (v := w) (sl := x4) List.mem_cons_self q7
      refine h1' _ F4 H4 u w d1 d2 _ _ hh4.fh rd1 rd2 q8 fun z' F5 H5 sl' g' ok' own' q9 => ?_
      obtain ⟨b2, e9, q9'⟩ := bls q9
      subst e9
      clear q9
      have hh5 := hh4.push g' ok' own'
      refine ⟨b2, hh5.temps (z', .ext (.bl b2)) List.mem_cons_self, ?_⟩
      cases b2 with
      | false =>
        rw [if_neg Bool.false_ne_true] at q9' ⊢
        exact hR (.bl false) H5 F5 env4 (.ext (.bl false)) (hh5.pop.pop.pop.pop.pushE rfl) q9'
      | true =>
        rw [if_pos rfl] at q9' ⊢
        refine i4 e Ex hl env4 _ F5 σ H5 _ _ hh5.pop q9' fun t H6 F6 env6 x6 hh6 q10 => ?_
        obtain ⟨d3, rd3, q11⟩ := hh6.wd (v := w) (sl := x4) (List.mem_cons_of_mem _ List.mem_cons_self) q10
        obtain ⟨d4, rd4, q12⟩ := hh6.wd (v := t) (sl := x6) List.mem_cons_self q11
        exact h1'' _ F6 H6 w t d3 d4 _ R hh6.fh rd3 rd4 q12 (hh6.pop.pop.pop.pop.done hR)⟩
end
def rGeT (K : PySem.W.Frag) : R2 := fun x y H Q => ∃ (a b : Addr) (ns ms : List Int), x = .ref a ∧ y = .ref b ∧ TupD K H a (ns.map V.int) ∧ TupD K H b (ms.map V.int) ∧ Q (.bl (!HT.lexLt ns ms)) H
theorem op_geT {X : Cx} (hu : X.A.units + 64 < cLine) : OpR X (compareOp .GtE) (rGeT X.K) := by
  intro pins s σ H x y v u Q I rx ry h
  obtain ⟨a, b, ns, ms, rfl, rfl, ha, hb, q⟩ := h
  cases rx
  cases ry
  obtain ⟨as, ra⟩ := tup_reads I ha
  obtain ⟨bs, rb⟩ := tup_reads I hb
  have hdp := depth_ints ns
  refine PySem.W.ge_data ra rb (alike_ints ns ms) (fun z => by cases z) ?_ ?_
  · have : min (tI ns).depth (tI ms).depth ≤ (tI ns).depth := Nat.min_le_left _ _
    omega
  · have e : PySem.W.dataLt (tI ns) (tI ms) = HT.lexLt ns ms := toks_ints ns ms
    rw [e]
    exact ⟨.bl (!HT.lexLt ns ms), H, I, rfl, q⟩
def fGeT : D → D → (Sl → Prop) → Prop
  | .tup xs, .tup ys, Q => ∃ ns ms : List Int, xs = ns.map D.int ∧ ys = ms.map D.int ∧ Q (.ext (.bl (!HT.lexLt ns ms)))
  | _, _, _ => False
theorem c_geT : CmpR .GtE fGeT := ⟨fun K => rGeT K, fun K F H v u d d' Q R fh r1 r2 h ha => by
    cases d <;> try exact h.elim
    cases d' <;> try exact h.elim
    obtain ⟨ns, ms, rfl, rfl, q⟩ := h
    obtain ⟨a, vs, rfl, _, e1, p1⟩ := r1.tup fh
    obtain ⟨b, us, rfl, _, e2, p2⟩ := r2.tup fh
    have z1 := p1.ints
    have z2 := p2.ints
    subst z1
    subst z2
    exact ⟨a, b, ns, ms, rfl, rfl, TupD.same fh e1, TupD.same fh e2, ha.bl fh q⟩, fun X hu => op_geT hu⟩
end HD
namespace HD
open PySem PyProof.Rows L2
theorem ints_few {l : List Int} (nd : l.Nodup) (h : ∀ n ∈ l, 0 ≤ n ∧ n < 60) : l.length < 64 := by
  have nd2 : (l.map Int.toNat).Nodup := by
    refine List.pairwise_map.2 (List.Pairwise.imp_of_mem ?_ nd)
    intro a b ha hb ne e
    have h1 := h a ha
    have h2 := h b hb
    exact ne (by omega)
  have := nodup_le (m := List.range 60) nd2 fun x hx => by
    obtain ⟨n, hn, rfl⟩ := List.mem_map.1 hx
    have := h n hn
    exact List.mem_range.2 (by omega)
  rw [List.length_map, List.length_range] at this
  omega
def rSortedSetB (w : World) : List V → Hp → VK → Prop := fun vs H Q => ∃ (a : Addr) (S : Int → Bool) (n : Nat), vs = [V.ref a] ∧ H a = some (SetO w a S n) ∧ (∀ l : List Int, l.Nodup → l.length = n → (∀ k : Int, k ∈ l ↔ S k = true) → n < 64) ∧
  ∀ (ns : List Int) (p : Addr), ns.Pairwise (· < ·) → (∀ k : Int, k ∈ ns ↔ S k = true) → H p = none → Q (.ref p) (upd H p (.lst (ns.map V.int)))
theorem cr_sortedSetB {X : Cx} (hc : X.calm = true) : CallR X (.builtin "sorted") (rSortedSetB X.w) := by
  intro pins s σ H vs us Q I r h
  obtain ⟨a, S, n, rfl, ha, h64, q⟩ := h
  have R := setO_get I ha
  have hn64 : n < 64 := by
    obtain ⟨o, es, ep, t, ho, hex, hd, g, nd, hm, hb, hf, hn, hr, hl⟩ := R
    exact h64 _ nd (by rw [List.length_map, Array.length_toList]; exact hn) fun k => (hm k).symm
  exact cr_sortedSet hc pins s σ H [V.ref a] us Q I r ⟨a, S, n, rfl, ha, hn64, fun ns p h1 h2 h3 h4 => q ns p h1 h2 h4⟩
section
variable {G : GG} {N : List Str} {sc : SC} {k : Nat} {a : Expr} {ta : DT} {p p2 pos pos2 : Pos}
def dSortSetB (t : DT) : DT := fun Ex env Q => t Ex env fun x env1 => wd env1 x fun d => match d with
  | .lst ds => ∃ ns : List Int, ds = ns.map D.int ∧ ns.length < 3000 ∧ (∀ n ∈ ns, 0 ≤ n ∧ n < 60) ∧ ∀ (ns' : List Int) (b : Addr), ns'.Pairwise (· < ·) → (∀ n : Int, n ∈ ns' ↔ n ∈ ns) → Q (.lst b (ns'.map D.int)) env1
  | _ => False
theorem de_sortsetB (ha : DE G N sc k a ta) (hm : G.mg "sorted" = none) (hm2 : G.mg "set" = none) (hg : GlS sc "sorted" := by rfl) (hg2 : GlS sc "set" := by rfl) (n1 : NoStar a [] := by intro _; rfl) (n2 : NoStar (.Call (.Name "set" p2) [a] [] pos2) [] := by intro _; rfl) (hp1 : ∀ env, (backTo pos (starEach [] env)).any (·.1) = false := by intro _; rfl) (hp2 : ∀ env, (backTo pos2 (starEach [] env)).any (·.1) = false := by intro _; rfl) :
    DE G N sc k (.Call (.Name "sorted" p) [.Call (.Name "set" p2) [a] [] pos2] [] pos) (dSortSetB ta) := ⟨fun W => by
  obtain ⟨te, p1, i1⟩ := ha.ex W
  refine ⟨tCB (rSortedSetB G.w) (tCons (tCB (rSetLI G.K G.w) (tCons te tNil)) tNil), fun X S => ?_, fun e Ex hl env T F σ H Q R hh ht hR => ?_⟩
  · have c1 := cr_sortedSetB (X := X) S.calm
    have c2 := cr_setLI (X := X) S.calm
    rw [S.w] at c1
    rw [S.w, S.K] at c2
    exact pe_callB c1 (S.gl hg) (by rw [S.mg]; exact hm) (by decide +kernel) (pa_cons (pe_callTy c2 (S.gl hg2) (by rw [S.mg]; exact hm2) (by decide +kernel) (pa_cons (p1 X S) pa_nil (n1 _)) (by decide) (by decide) (n1 _) (hp2 _)) pa_nil (n2 _)) (by decide) (by decide) (n2 _) (hp1 _)
  · refine i1 e Ex hl env T F σ H _ _ hh ht fun v H1 F1 env1 x hh1 q1 => ?_
    obtain ⟨d, rd, q2⟩ := hh1.wd (v := v) (sl := x) List.mem_cons_self q1
    cases d with
    | lst ds =>
      obtain ⟨ns, rfl, hl64, few, q⟩ := q2
      obtain ⟨c, vs, rfl, e1, r1⟩ := rd.lst hh1.fh
      have z := r1.ints
      subst z
      refine ⟨c, ns, rfl, SqL.of e1, Nat.lt_of_lt_of_le (Nat.add_lt_add_right hl64 1) (by decide), fun p' cn hn hc => ?_⟩
      refine ⟨p', _, cn, rfl, upd_same, fun l nd hl hk => ?_, fun ns' p'' h1 h2 hn2 => ?_⟩
      · rw [← hl]
        exact ints_few nd fun n hn' => few n (of_decide_eq_true ((hk n).1 hn'))
      · have aft := (hh1.pop.done hR).more (o := SetO G.w p' (fun j => decide (j ∈ ns)) cn) hh1.fh hn
        refine aft.lst (Grow.loose hh1.fh hn).fh hn2 (Reps.of_ints ns') (q ns' p'' h1 fun n => ?_)
        rw [h2 n]
        exact decide_eq_true_iff
    | _ => exact q2.elim⟩
end
end HD
namespace HD
open PySem L2
abbrev Cells := List (Addr × OC)
def putC (cs : Cells) (b : Addr) (oc : OC) : Cells := cs.map fun p => if p.1 = b then (b, oc) else p
theorem putC_keys (cs : Cells) (b : Addr) (oc : OC) : (putC cs b oc).map (·.1) = cs.map (·.1) := by
  unfold putC
  rw [List.map_map]
  refine List.map_congr_left fun p _ => ?_
  show (if p.1 = b then (b, oc) else p).1 = p.1
  split
  · rename_i h
    exact h.symm
  · rfl
section
variable {K : PySem.W.Frag} {e : Ent} {env env' : Env'} {T T' : Tmp} {F : Hp} {σ : L2.St} {H : Hp}
theorem cells_write {v : V} {d : D} {cs : Cells} {b : Addr} {oc : OC} {o : HO} (h : SlOk K F H v (.reg d cs)) (ok : OC.ok K F b oc o) : SlOk K F (upd H b o) v (.reg d (putC cs b oc)) := by
  obtain ⟨h1, h2, h3⟩ := h
  refine ⟨h1, by rw [putC_keys]; exact h2, fun p hp => ?_⟩
  obtain ⟨q, hq, rfl⟩ := List.mem_map.1 hp
  obtain ⟨n, o', ho, okc⟩ := h3 q hq
  show F (if q.1 = b then (b, oc) else q).1 = none ∧ ∃ o1, upd H b o (if q.1 = b then (b, oc) else q).1 = some o1 ∧ OC.ok K F (if q.1 = b then (b, oc) else q).1 (if q.1 = b then (b, oc) else q).2 o1
  split
  · rename_i z
    exact ⟨by rw [← z]; exact n, o, upd_same, ok⟩
  · rename_i z
    exact ⟨n, o', by rw [upd_ne z]; exact ho, okc⟩
theorem Holds.cellW {i : Nat} {d : D} {cs : Cells} {b : Addr} {oc : OC} {o : HO} (h : Holds K e env T F σ H) (hi : env[i]? = some (.reg d cs)) (hb : b ∈ cs.map (·.1)) (ok : OC.ok K F b oc o) : Holds K e (env.set i (.reg d (putC cs b oc))) T F σ (upd H b o) :=
  h.writeR hi hb (putC_keys cs b oc) (fun v z => cells_write z ok) (fun z => nomatch z)
theorem cellOf_key {cs : Cells} {b : Addr} {oc : OC} (h : cellOf cs b = some oc) : b ∈ cs.map (·.1) := List.mem_map.2 ⟨(b, oc), cellOf_mem h, rfl⟩
theorem Holds.regroup (h : Holds K e env T F σ H) (len : env'.length = σ.length) (slots : ∀ (i : Nat) sl, env'[i]? = some sl → sl = .un ∨ ∃ v, σ[i]? = some (some v) ∧ SlOk K F H v sl) (temps : ∀ p ∈ T', SlOk K F H p.1 p.2)
    (nd : (ownedE env' ++ ownedT T').Nodup) (sub : ∀ a ∈ ownedE env' ++ ownedT T', a ∈ ownedE env ++ ownedT T) : Holds K e env' T' F σ H :=
  ⟨h.fh, len, slots, temps, nd, h.s1, h.s2, fun a ha => h.s3 a (sub a ha)⟩
theorem Holds.retemp {v : V} {sl sl' : Sl} (h : Holds K e env ((v, sl) :: T) F σ H) (ok : SlOk K F H v sl') (nd : sl'.owned.Nodup) (sub : ∀ a ∈ sl'.owned, a ∈ sl.owned) : Holds K e env ((v, sl') :: T) F σ H := by
  have h1 : (ownedE env ++ (sl.owned ++ ownedT T)).Nodup := h.nd
  obtain ⟨n1, n2, n3⟩ := List.nodup_append.mp h1
  obtain ⟨n4, n5, n6⟩ := List.nodup_append.mp n2
  refine h.regroup h.len h.slots (fun p hp => ?_) ?_ (fun a ha => ?_)
  · rcases List.mem_cons.mp hp with rfl | hp
    · exact ok
    · exact h.temps p (List.mem_cons_of_mem _ hp)
  · show (ownedE env ++ (sl'.owned ++ ownedT T)).Nodup
    refine List.nodup_append.mpr ⟨n1, List.nodup_append.mpr ⟨nd, n5, fun a ha b hb => n6 a (sub a ha) b hb⟩, fun a ha b hb => ?_⟩
    rcases List.mem_append.mp hb with hb | hb
    · exact n3 a ha b (List.mem_append_left _ (sub b hb))
    · exact n3 a ha b (List.mem_append_right _ hb)
  · have ha' : a ∈ ownedE env ++ (sl'.owned ++ ownedT T) := ha
    show a ∈ ownedE env ++ (sl.owned ++ ownedT T)
    rcases List.mem_append.mp ha' with hb | hb
    · exact List.mem_append_left _ hb
    · rcases List.mem_append.mp hb with hb | hb
      · exact List.mem_append_right _ (List.mem_append_left _ (sub a hb))
      · exact List.mem_append_right _ (List.mem_append_right _ hb)
theorem Holds.asReg {v : V} {p : Addr} {ds : List D} (h : Holds K e env ((v, .lst p ds) :: T) F σ H) : Holds K e env ((v, .reg (.val (.ref p)) [(p, .lst ds)]) :: T) F σ H := by
  obtain ⟨h1, h2, vs, h3, h4⟩ := h.temps (v, .lst p ds) List.mem_cons_self
  refine h.retemp ⟨h1, List.pairwise_singleton _ _, fun q hq => ?_⟩ (List.pairwise_singleton _ _) fun a ha => ha
  rw [List.mem_singleton.mp hq]
  exact ⟨h2, _, h3, vs, rfl, h4⟩
theorem Holds.extReg {v : V} {d : D} (h : Holds K e env ((v, .ext d) :: T) F σ H) : Holds K e env ((v, .reg d []) :: T) F σ H :=
  h.retemp ⟨h.temps (v, .ext d) List.mem_cons_self, List.nodup_nil, fun q hq => nomatch hq⟩ List.nodup_nil fun a ha => ha
def stoS (fz : Bool) (env : Env') (x : Sl) (k : D → Cells → Env' → Prop) : Prop := match x with
  | .ext d => k d [] env
  | .lst p ds => if fz = true then k (.lst ds) [] env else k (.val (.ref p)) [(p, .lst ds)] env
  | .reg d cs => k d cs env
  | .al i a => match env[i]? with
    | some (.lst b ds) => b = a ∧ k (.lst ds) [] (env.set i (.ext (.lst ds)))
    | _ => False
  | .ar _ _ => False
  | .un => False
theorem Holds.sto {fz : Bool} {v : V} {x : Sl} {k : D → Cells → Env' → Prop} (h : Holds K e env ((v, x) :: T) F σ H) (w : stoS fz env x k) : ∃ d cs F1 env', Same F F1 ∧ Holds K e env' ((v, .reg d cs) :: T) F1 σ H ∧ k d cs env' := by
  cases x with
  | un => exact w.elim
  | ar _ _ => exact w.elim
  | ext d => exact ⟨d, [], F, env, Same.refl _, h.extReg, w⟩
  | reg d cs => exact ⟨d, cs, F, env, Same.refl _, h, w⟩
  | lst p ds =>
    cases fz with
    | true =>
      obtain ⟨F1, sm, h1⟩ := h.freezeT
      exact ⟨.lst ds, [], F1, env, sm, h1.extReg, w⟩
    | false => exact ⟨_, _, F, env, Same.refl _, h.asReg, w⟩
  | al i a =>
    have w' : (match env[i]? with | some (.lst b ds) => b = a ∧ k (.lst ds) [] (env.set i (.ext (.lst ds))) | _ => False) := w
    split at w'
    · rename_i b ds hb
      obtain ⟨rfl, w'⟩ := w'
      have w2 : frzD env (.al i b) fun d env1 => k d [] env1 := by
        show (match env[i]? with | some (.lst c ds) => c = b ∧ k (.lst ds) [] (env.set i (.ext (.lst ds))) | some (.ext (.lst ds)) => False | _ => False)
        rw [hb]
        exact ⟨rfl, w'⟩
      obtain ⟨d, F1, env1, sm, h1, rd, q⟩ := h.frz1 w2
      exact ⟨d, [], F1, env1, sm, (h1.pushE rd).extReg, q⟩
    · exact w'.elim
theorem Holds.absorb {v : V} {i : Nat} {d d2 : D} {cs cs2 : Cells} (h : Holds K e env ((v, .reg d2 cs2) :: T) F σ H) (hi : env[i]? = some (.reg d cs)) :
    (∀ a ∈ cs.map (·.1), a ∉ cs2.map (·.1)) ∧ Rep K F d2 v ∧ Holds K e (env.set i (.reg d (cs ++ cs2))) T F σ H := by
  obtain ⟨A, B, e1, e2⟩ := splitE hi
  have nd : (ownedE env ++ (cs2.map (·.1) ++ ownedT T)).Nodup := h.nd
  have m1 : ∀ a ∈ cs.map (·.1), a ∈ ownedE env := fun a ha => mem_ownedE hi ha
  obtain ⟨n1, n2, n3⟩ := List.nodup_append.mp nd
  have dis : ∀ a ∈ cs.map (·.1), a ∉ cs2.map (·.1) := fun a ha hb => n3 a (m1 a ha) a (List.mem_append_left _ hb) rfl
  obtain ⟨t1, t2, t3⟩ := h.temps (v, .reg d2 cs2) List.mem_cons_self
  have perm : (ownedE env ++ (cs2.map (·.1) ++ ownedT T)).Perm (ownedE (env.set i (.reg d (cs ++ cs2))) ++ ownedT T) := by
    rw [e1, e2]
    show (A ++ (cs.map (·.1) ++ B) ++ (cs2.map (·.1) ++ ownedT T)).Perm (A ++ ((cs ++ cs2).map (·.1) ++ B) ++ ownedT T)
    simp only [List.map_append, List.append_assoc]
    refine List.Perm.append_left A (List.Perm.append_left _ ?_)
    rw [← List.append_assoc, ← List.append_assoc]
    exact List.Perm.append_right _ List.perm_append_comm
  refine ⟨dis, t1, h.regroup (by rw [List.length_set]; exact h.len) (fun j sl q => ?_) (fun p hp => h.temps p (List.mem_cons_of_mem _ hp)) (perm.nodup nd) fun a ha => perm.mem_iff.mpr ha⟩
  rw [List.getElem?_set] at q
  split at q
  · rename_i ij
    subst ij
    split at q
    · cases q
      rcases h.slots i _ hi with z | ⟨w, hw, o1, o2, o3⟩
      · cases z
      · refine .inr ⟨w, hw, o1, ?_, fun p hp => ?_⟩
        · rw [List.map_append]
          exact List.nodup_append.mpr ⟨o2, t2, fun a ha b hb z => dis a ha (z ▸ hb)⟩
        · rcases List.mem_append.mp hp with hp | hp
          · exact o3 p hp
          · exact t3 p hp
    · cases q
  · exact h.slots j sl q
theorem Holds.carve {i : Nat} {d : D} {b : Addr} {cs sub rest : Cells} (h : Holds K e env T F σ H) (hi : env[i]? = some (.reg d cs)) (hp : cs.Perm (sub ++ rest)) : Holds K e (env.set i (.reg d rest)) ((.ref b, .reg (.val (.ref b)) sub) :: T) F σ H := by
  obtain ⟨A, B, e1, e2⟩ := splitE hi
  have pk : (cs.map (·.1)).Perm (sub.map (·.1) ++ rest.map (·.1)) := by
    have := hp.map (·.1)
    rwa [List.map_append] at this
  have perm : (ownedE env ++ ownedT T).Perm (ownedE (env.set i (.reg d rest)) ++ (sub.map (·.1) ++ ownedT T)) := by
    rw [e1, e2]
    show (A ++ (cs.map (·.1) ++ B) ++ ownedT T).Perm (A ++ (rest.map (·.1) ++ B) ++ (sub.map (·.1) ++ ownedT T))
    simp only [List.append_assoc]
    refine List.Perm.append_left A ?_
    refine ((pk.trans List.perm_append_comm).append_right (B ++ ownedT T)).trans ?_
    simp only [List.append_assoc]
    refine List.Perm.append_left _ ?_
    rw [← List.append_assoc, ← List.append_assoc]
    exact List.Perm.append_right _ List.perm_append_comm
  have n : (sub.map (·.1) ++ rest.map (·.1)).Nodup := by
    rcases h.slots i _ hi with z | ⟨w, hw, o1, o2, o3⟩
    · cases z
    · exact pk.nodup o2
  obtain ⟨m1, m2, m3⟩ := List.nodup_append.mp n
  rcases h.slots i _ hi with z | ⟨w, hw, o1, o2, o3⟩
  · cases z
  refine h.regroup (by rw [List.length_set]; exact h.len) (fun j sl q => ?_) (fun p hp' => ?_) (perm.nodup h.nd) fun a ha => perm.mem_iff.mpr ha
  · rw [List.getElem?_set] at q
    split at q
    · rename_i ij
      subst ij
      split at q
      · cases q
        exact .inr ⟨w, hw, o1, m2, fun p hp' => o3 p (hp.mem_iff.mpr (List.mem_append_right _ hp'))⟩
      · cases q
    · exact h.slots j sl q
  · rcases List.mem_cons.mp hp' with rfl | hp'
    · exact ⟨rfl, m1, fun p hp' => o3 p (hp.mem_iff.mpr (List.mem_append_left _ hp'))⟩
    · exact h.temps p hp'
end
end HD
namespace HD
open PySem L2
def cellS (env : Env') (x : Sl) (k : Nat → Addr → D → Cells → OC → Prop) : Prop := match x with
  | .ar i b => match env[i]? with
    | some (.reg d cs) => match cellOf cs b with
      | some oc => k i b d cs oc
      | none => False
    | _ => False
  | _ => False
def ptrD (i : Nat) : D → Sl
  | .val (.ref q) => .ar i q
  | d => .ext d
def lstO (oc : OC) (k : List D → Prop) : Prop := match oc with
  | .lst ds => k ds
  | _ => False
def insO (oc : OC) (k : Str → Addr → List (Str × D) → Prop) : Prop := match oc with
  | .ins c dx fs => k c dx fs
  | _ => False
section
variable {K : PySem.W.Frag} {e : Ent} {env : Env'} {T : Tmp} {F : Hp} {σ : L2.St} {H : Hp}
theorem Holds.cellS {v : V} {x : Sl} {k : Nat → Addr → D → Cells → OC → Prop} (h : Holds K e env T F σ H) (m : (v, x) ∈ T) (w : HD.cellS env x k) :
    ∃ i b d cs oc, x = .ar i b ∧ v = .ref b ∧ env[i]? = some (.reg d cs) ∧ cellOf cs b = some oc ∧ (F b = none ∧ ∃ o, H b = some o ∧ OC.ok K F b oc o) ∧ k i b d cs oc := by
  cases x with
  | ar i b =>
    have ev : v = .ref b := h.temps _ m
    have w' : (match env[i]? with | some (.reg d cs) => (match cellOf cs b with | some oc => k i b d cs oc | none => False) | _ => False) := w
    split at w'
    · rename_i d cs hi
      split at w'
      · rename_i oc hc
        exact ⟨i, b, d, cs, oc, rfl, ev, hi, hc, h.cell hi hc, w'⟩
      · exact w'.elim
    · exact w'.elim
  | _ => exact w.elim
theorem putC_out {cs : Cells} {b : Addr} {oc : OC} (h : b ∉ cs.map (·.1)) : putC cs b oc = cs := by
  unfold putC
  refine (List.map_congr_left fun p hp => ?_).trans (List.map_id cs)
  exact if_neg fun z => h (List.mem_map.2 ⟨p, hp, z⟩)
theorem putC_app (cs cs2 : Cells) (b : Addr) (oc : OC) : putC (cs ++ cs2) b oc = putC cs b oc ++ putC cs2 b oc := List.map_append
theorem Holds.putIn {v : V} {i : Nat} {d d2 : D} {cs cs2 : Cells} {b : Addr} {oc : OC} {o : HO} (h : Holds K e env ((v, .reg d2 cs2) :: T) F σ H) (hi : env[i]? = some (.reg d cs)) (hb : b ∈ cs.map (·.1)) (ok : Rep K F d2 v → OC.ok K F b oc o) :
    (∀ a ∈ cs.map (·.1), a ∉ cs2.map (·.1)) ∧ Holds K e (env.set i (.reg d (putC cs b oc ++ cs2))) T F σ (upd H b o) := by
  obtain ⟨dis, rd, h1⟩ := h.absorb hi
  have hl : i < env.length := (List.getElem?_eq_some_iff.mp hi).1
  have hi1 : (env.set i (.reg d (cs ++ cs2)))[i]? = some (.reg d (cs ++ cs2)) := by rw [List.getElem?_set, if_pos rfl, if_pos hl]
  have h2 := h1.cellW hi1 (b := b) (by rw [List.map_append]; exact List.mem_append_left _ hb) (ok rd)
  rw [List.set_set, putC_app, putC_out (dis b hb)] at h2
  exact ⟨dis, h2⟩
theorem ptrD_ok {i : Nat} {d : D} {v : V} (h : Rep K F d v) : SlOk K F H v (ptrD i d) := by
  unfold ptrD
  split
  · exact h
  · exact h
theorem ptrD_owned (i : Nat) (d : D) : (ptrD i d).owned = [] := by
  unfold ptrD
  split <;> rfl
theorem Holds.pushP {v : V} {d : D} (i : Nat) (h : Holds K e env T F σ H) (ok : Rep K F d v) : Holds K e env ((v, ptrD i d) :: T) F σ H :=
  h.push (Grow.refl h.fh) (ptrD_ok ok) fun a ha => by rw [ptrD_owned] at ha; cases ha
def putFD (f : Str) (d : D) : List (Str × D) → List (Str × D)
  | [] => [(f, d)]
  | (g, x) :: r => if g = f then (g, d) :: r else (g, x) :: putFD f d r
theorem putF_ents {f : Str} {d : D} {v : V} (hd : Rep K F d v) : ∀ {fs : List (Str × D)} {vs : List (Str × V)}, Ents K F fs vs → Ents K F (putFD f d fs) (putF f v vs)
  | [], vs, h => by
    rw [h.emp]
    exact .cons hd .nil
  | (g, x) :: r, vs, h => by
    obtain ⟨u, rs, rfl, r1, r2⟩ := h.inv
    show Ents K F (if g = f then (g, d) :: r else (g, x) :: putFD f d r) (if g = f then (g, v) :: rs else (g, u) :: putF f v rs)
    split
    · exact .cons hd r2
    · exact .cons r1 (putF_ents hd r2)
end
structure ClsF (G : GG) (c f : Str) : Prop where
  cl : Cls G.K (He.ga G.K c)
  na : NoAttr G.K (He.ga G.K c) f
section
variable {G : GG} {N : List Str} {sc : SC} {k : Nat} {a b : Expr} {ta tb tc : DT} {apos cpos p p2 pos pos2 py spos : Pos} {x : Str}
def dVarR (i : Nat) : DT := fun _ env Q => match env[i]? with
  | some (.reg d _) => ∃ q, rootOf d = some q ∧ Q (.ar i q) env
  | some (.ar j q) => Q (.ar j q) env
  | _ => False
theorem de_varR (i : Nat) {pos : Pos} (hN : N[i]? = some x := by rfl) (hv : Vis sc.sc x := by first | exact Or.inl rfl | exact Or.inr (Or.inl rfl) | exact Or.inr (Or.inr rfl))
    (hd : (x == ("__debug__" : Str)) = false := by decide) (hcd : (x == ("__classdict__" : Str)) = false := by decide) : DE G N sc k (.Name x pos) (dVarR i) :=
  ⟨fun W => ⟨tVar i, fun X S => pe_var (by rw [S.nms]; exact hN) (S.vis hv) hd hcd, fun e Ex _ env T F σ H Q R hh ht hR => by
    unfold dVarR at ht
    split at ht
    · rename_i d cs q
      obtain ⟨q0, e0, ht⟩ := ht
      rcases hh.slots i _ q with z | ⟨v, hv, ok, _⟩
      · cases z
      rw [rootOf_some e0] at ok
      have ev : v = .ref q0 := ok
      subst ev
      exact ⟨_, hv, hR _ H F env (.ar i q0) (hh.push (Grow.refl hh.fh) rfl fun a ha => nomatch ha) ht⟩
    · rename_i j q0 q
      rcases hh.slots i _ q with z | ⟨v, hv, ok⟩
      · cases z
      have ev : v = .ref q0 := ok
      subst ev
      exact ⟨_, hv, hR _ H F env (.ar j q0) (hh.push (Grow.refl hh.fh) rfl fun a ha => nomatch ha) ht⟩
    · exact ht.elim⟩⟩
def dPtr (i j : Nat) : DT := fun _ env Q => match env[i]? with
  | some (.ext (.val (.ref q))) => Q (.ar j q) env
  | _ => False
def dAttr (c0 f : Str) (t : DT) : DT := fun Ex env Q => t Ex env fun x env1 => cellS env1 x fun i _ _ _ oc => insO oc fun c _ fs => c = c0 ∧ ∃ d, luK fs f = some d ∧ Q (ptrD i d) env1
def sAttr (c0 f : Str) (fz : Bool) (t te : DT) : DTS := fun Ex E env => te Ex env fun y env1 => stoS fz env1 y fun d2 cs2 env2 => t Ex env2 fun x env3 => cellS env3 x fun i b r cs oc => insO oc fun c dx fs =>
  c = c0 ∧ fs.length < 1000 ∧ ((∀ a ∈ cs.map (·.1), a ∉ cs2.map (·.1)) → E.nx (env3.set i (.reg r (putC cs b (.ins c dx (putFD f d2 fs)) ++ cs2))))
theorem ds_attr {c0 f : Str} {fz : Bool} (h : DE G N sc k a ta) (hb : DE G N sc k b tb) (hc : ClsF G c0 f) (hs : ∀ env, swapsWith b (some (.Attribute a f spos)) pos.line env = pure false := by intro _; rfl) : DS G N sc k (.Assign [.Attribute a f spos] b pos) (sAttr c0 f fz ta tb) := ⟨fun W => by
  obtain ⟨te, p1, i1⟩ := h.ex W
  obtain ⟨tf, p2, i2⟩ := hb.ex W
  refine ⟨sFld G.K te tf f, fun X S => by rw [← S.K]; exact ps_fld (p1 X S) (p2 X S) (hs _), fun e Ex hl env F σ H E Dn hh ht ok => ?_⟩
  refine i2 e Ex hl env [] F σ H _ _ hh ht fun v H1 F1 env1 y hh1 q1 => ?_
  obtain ⟨d2, cs2, F2, env2, _, hh2, q2⟩ := hh1.sto q1
  refine i1 e Ex hl env2 _ F2 σ H1 _ _ hh2 q2 fun u H3 F3 env3 z hh3 q3 => ?_
  obtain ⟨i, b, d, cs, oc, rfl, rfl, hi, hcell, ⟨_, o, ho, okc⟩, q⟩ := hh3.cellS List.mem_cons_self q3
  cases oc with
  | ins c dx fs =>
    obtain ⟨rfl, hz, q⟩ := q
    obtain ⟨vs, rfl, m1, m2⟩ := okc
    have hle : vs.length < 1000 := by
      rw [← Ents.length (K := G.K) (F := F3) ⟨m1, m2⟩]
      exact hz
    obtain ⟨dis, hh4⟩ := hh3.pop.putIn (oc := .ins c dx (putFD f d2 fs)) (o := .ins (He.ga G.K c) dx (putF f v vs)) hi (cellOf_key hcell) (fun rd => ⟨_, rfl, (putF_ents rd ⟨m1, m2⟩).1, (putF_ents rd ⟨m1, m2⟩).2⟩)
    exact ⟨b, _, dx, vs, rfl, ho, hc.cl, hc.na, hle, ok.nx _ F3 σ _ hh4 (q dis)⟩
  | _ => exact q.elim⟩
def lstK (_ : Nat) (_ : Addr) (_ : D) (_ : Cells) (oc : OC) : Prop := lstO oc fun _ => True
theorem lstK_of {env : Env'} {x : Sl} {K : PySem.W.Frag} {e : Ent} {T : Tmp} {F : Hp} {σ : L2.St} {H : Hp} {v : V} (h : Holds K e env T F σ H) (m : (v, x) ∈ T) (w : cellS env x lstK) : ∃ b us, v = .ref b ∧ H b = some (.lst us) := by
  obtain ⟨i, b, d, cs, oc, rfl, rfl, hi, hcell, ⟨_, o, ho, okc⟩, q⟩ := h.cellS m w
  cases oc with
  | lst ds =>
    obtain ⟨us, rfl, _⟩ := okc
    exact ⟨b, us, rfl, ho⟩
  | _ => exact q.elim
def dAppR (fz : Bool) (t te : DT) : DT := fun Ex env Q => t Ex env fun x env1 => cellS env1 x lstK ∧ te Ex env1 fun y env2 => stoS fz env2 y fun d2 cs2 env3 => cellS env3 x fun i b r cs oc => lstO oc fun ds =>
  ds.length < sizeLine ∧ ((∀ a ∈ cs.map (·.1), a ∉ cs2.map (·.1)) → Q (.ext .non) (env3.set i (.reg r (putC cs b (.lst (ds ++ [d2])) ++ cs2))))
theorem de_appR {fz : Bool} (ha : DE G N sc k a ta) (hb : DE G N sc k b tb) (hw : FewArgs a "append" b [] cpos := by intro _; exact ⟨rfl, rfl, rfl, rfl⟩) (hline : (apos.endLine == cpos.line) = true := by rfl) :
    DE G N sc k (.Call (.Attribute a "append" apos) [b] [] cpos) (dAppR fz ta tb) := ⟨fun W => by
  obtain ⟨te, p1, i1⟩ := ha.ex W
  obtain ⟨tf, p2, i2⟩ := hb.ex W
  refine ⟨tBM G.K "list" rAppend te (tCons tf tNil), fun X S => ?_, fun e Ex hl env T F σ H Q R hh ht hR => ?_⟩
  · obtain ⟨hbase, hfew, hs, hplain⟩ := hw X.env
    rw [← S.K]
    exact pe_bm PySem.F.plainAttrs_list PySem.F.slot_list_append PySem.F.type_list_append mt_append (p1 X S) (pa_cons (p2 X S) pa_nil hs) hbase hfew hline hs hplain
  · refine i1 e Ex hl env T F σ H _ _ hh ht fun w H1 F1 env1 x hh1 ⟨q0, q1⟩ => ?_
    obtain ⟨b0, us0, rfl, hu0⟩ := lstK_of hh1 List.mem_cons_self q0
    refine ⟨.inl ⟨rfl, us0, SqL.of hu0⟩, ?_⟩
    refine i2 e Ex hl env1 _ F1 σ H1 _ _ hh1 q1 fun u H2 F2 env2 y hh2 q2 => ?_
    obtain ⟨d2, cs2, F3, env3, _, hh3, q3⟩ := hh2.sto q2
    show rAppend (.ref b0) [u] H2 R
    obtain ⟨i, b, d, cs, oc, rfl, eb, hi, hcell, ⟨_, o, ho, okc⟩, q⟩ := hh3.cellS (List.mem_cons_of_mem _ List.mem_cons_self) q3
    cases eb
    cases oc with
    | lst ds =>
      obtain ⟨us, rfl, rr⟩ := okc
      obtain ⟨hz, q⟩ := q
      obtain ⟨dis, hh4⟩ := hh3.putIn (oc := .lst (ds ++ [d2])) (o := .lst (us ++ [u])) hi (cellOf_key hcell) (fun rd => ⟨_, rfl, rr.append (.one rd)⟩)
      exact ⟨b0, us, u, rfl, rfl, ho, by rw [← rr.length]; exact hz, hR .non _ F3 _ (.ext .non) (hh4.pop.pushE rfl) (q dis)⟩
    | _ => exact q.elim⟩
def dExtR (t te : DT) : DT := fun Ex env Q => t Ex env fun x env1 => cellS env1 x lstK ∧ te Ex env1 fun y env2 => wd env2 y fun d2 => match d2 with
  | .lst es => cellS env2 x fun i b r cs oc => lstO oc fun ds => ds.length + es.length ≤ sizeLine ∧ Q (.ext .non) (env2.set i (.reg r (putC cs b (.lst (ds ++ es)))))
  | _ => False
theorem de_extR (ha : DE G N sc k a ta) (hb : DE G N sc k b tb) (hw : FewArgs a "extend" b [] cpos := by intro _; exact ⟨rfl, rfl, rfl, rfl⟩) (hline : (apos.endLine == cpos.line) = true := by rfl) :
    DE G N sc k (.Call (.Attribute a "extend" apos) [b] [] cpos) (dExtR ta tb) := ⟨fun W => by
  obtain ⟨te, p1, i1⟩ := ha.ex W
  obtain ⟨tf, p2, i2⟩ := hb.ex W
  refine ⟨tBM G.K "list" rExtend te (tCons tf tNil), fun X S => ?_, fun e Ex hl env T F σ H Q R hh ht hR => ?_⟩
  · obtain ⟨hbase, hfew, hs, hplain⟩ := hw X.env
    rw [← S.K]
    exact pe_bm PySem.F.plainAttrs_list PySem.F.slot_list_extend PySem.F.type_list_extend mt_extend (p1 X S) (pa_cons (p2 X S) pa_nil hs) hbase hfew hline hs hplain
  · refine i1 e Ex hl env T F σ H _ _ hh ht fun w H1 F1 env1 x hh1 ⟨q0, q1⟩ => ?_
    obtain ⟨b0, us0, rfl, hu0⟩ := lstK_of hh1 List.mem_cons_self q0
    refine ⟨.inl ⟨rfl, us0, SqL.of hu0⟩, ?_⟩
    refine i2 e Ex hl env1 _ F1 σ H1 _ _ hh1 q1 fun u H2 F2 env2 y hh2 q2 => ?_
    obtain ⟨d2, rd, q3⟩ := hh2.wd (v := u) (sl := y) List.mem_cons_self q2
    cases d2 with
    | lst es =>
      obtain ⟨c2, us2, rfl, hu2, rr2⟩ := rd.lst hh2.fh
      show rExtend (.ref b0) [.ref c2] H2 R
      obtain ⟨i, b, d, cs, oc, rfl, eb, hi, hcell, ⟨_, o, ho, okc⟩, q⟩ := hh2.cellS (List.mem_cons_of_mem _ List.mem_cons_self) q3
      cases eb
      cases oc with
      | lst ds =>
        obtain ⟨us, rfl, rr⟩ := okc
        obtain ⟨hz, q⟩ := q
        have hh4 := hh2.pop.cellW (oc := .lst (ds ++ es)) (o := .lst (us ++ us2)) hi (cellOf_key hcell) ⟨_, rfl, rr.append rr2⟩
        exact ⟨b0, c2, us, us2, rfl, rfl, ho, hu2, by rw [← rr.length, ← rr2.length]; exact hz, hR .non _ F2 _ (.ext .non) (hh4.pop.pushE rfl) q⟩
      | _ => exact q.elim
    | _ => exact q3.elim⟩
def dClrR (t : DT) : DT := fun Ex env Q => t Ex env fun x env1 => cellS env1 x fun i b r cs oc => lstO oc fun _ => Q (.ext .non) (env1.set i (.reg r (putC cs b (.lst []))))
def dPopR (t : DT) : DT := fun Ex env Q => t Ex env fun x env1 => cellS env1 x fun i b r cs oc => lstO oc fun ds => ∃ d, ds[ds.length - 1]? = some d ∧ Q (ptrD i d) (env1.set i (.reg r (putC cs b (.lst ds.dropLast))))
def dIxR (t te : DT) : DT := fun Ex env Q => t Ex env fun x env1 => te Ex env1 fun y env2 => match y with
  | .ext (.int n) => cellS env2 x fun i _ _ _ oc => lstO oc fun ds => ∃ d, atI ds n = some d ∧ Q (ptrD i d) env2
  | _ => False
end
end HD
namespace HD
open PySem L2
def dkO (oc : OC) (k : List (Key × D) → Prop) : Prop := match oc with
  | .dk kvs => k kvs
  | .lkK _ _ kvs => k kvs
  | _ => False
def dtO' (oc : OC) (k : List (List Int × D) → Prop) : Prop := match oc with
  | .dt kvs => k kvs
  | .lkT _ _ kvs => k kvs
  | _ => False
def dkW (oc : OC) (k : List (Key × D) → Prop) : Prop := match oc with
  | .dk kvs => k kvs
  | _ => False
def dtW (oc : OC) (k : List (List Int × D) → Prop) : Prop := match oc with
  | .dt kvs => k kvs
  | _ => False
section
variable {G : GG} {N : List Str} {sc : SC} {k : Nat} {a b c : Expr} {ta tb tc : DT} {apos cpos p p2 pos pos2 py spos : Pos} {x : Str}
theorem de_ixR (ha : DE G N sc k a ta) (hb : DE G N sc k b tb) (hs : PlainIx b := by intro _ _; rfl) : DE G N sc k (.Subscript a b pos) (dIxR ta tb) := ⟨fun W => by
  obtain ⟨te, p1, i1⟩ := ha.ex W
  obtain ⟨tf, p2, i2⟩ := hb.ex W
  refine ⟨tOp (rIx G.K) te tf, fun X S => pe_ix (by rw [← S.K]; exact ix_seq) (p1 X S) (p2 X S) hs, fun e Ex hl env T F σ H Q R hh ht hR => ?_⟩
  refine i1 e Ex hl env T F σ H _ _ hh ht fun v H1 F1 env1 x hh1 q1 => ?_
  refine i2 e Ex hl env1 _ F1 σ H1 _ _ hh1 q1 fun u H2 F2 env2 y hh2 q2 => ?_
  cases y with
  | ext d =>
    cases d with
    | int n =>
      have eu : u = .int n := hh2.temps (u, .ext (.int n)) List.mem_cons_self
      obtain ⟨i, b, d, cs, oc, rfl, rfl, hi, hcell, ⟨_, o, ho, okc⟩, q⟩ := hh2.cellS (List.mem_cons_of_mem _ List.mem_cons_self) q2
      cases oc with
      | lst ds =>
        obtain ⟨us, rfl, rr⟩ := okc
        obtain ⟨d1, e1, q⟩ := q
        obtain ⟨w, e', r⟩ := rr.atI e1
        exact .inl ⟨b, us, n, w, rfl, eu, SqL.of ho, e', hR w _ F2 env2 _ (hh2.pop.pop.pushP i r) q⟩
      | _ => exact q.elim
    | _ => exact q2.elim
  | _ => exact q2.elim⟩
def sSetR (fz : Bool) (t tI te : DT) : DTS := fun Ex E env => te Ex env fun y env0 => stoS fz env0 y fun d2 cs2 env1 => t Ex env1 fun x env2 => tI Ex env2 fun z env3 => match z with
  | .ext (.int n) => cellS env3 x fun i b r cs oc => lstO oc fun ds => ∃ j, ixN ds.length n = some j ∧ ((∀ a ∈ cs.map (·.1), a ∉ cs2.map (·.1)) → E.nx (env3.set i (.reg r (putC cs b (.lst (ds.set j d2)) ++ cs2))))
  | _ => False
def dDGetR (t te : DT) : DT := fun Ex env Q => t Ex env fun x env1 => te Ex env1 fun y env2 => cellS env2 x fun i _ _ _ oc => dkO oc fun kvs => ∃ key d, y = .ext (kD key) ∧ luK kvs key = some d ∧ Q (ptrD i d) env2
def dDInR (neg : Bool) (te t : DT) : DT := fun Ex env Q => te Ex env fun y env1 => t Ex env1 fun x env2 => cellS env2 x fun _ _ _ _ oc => dkO oc fun kvs => ∃ key, y = .ext (kD key) ∧ Q (.ext (.bl (neg != (luK kvs key).isSome))) env2
def sPutR (fz : Bool) (t tk tv : DT) : DTS := fun Ex E env => tv Ex env fun y env0 => stoS fz env0 y fun d2 cs2 env1 => t Ex env1 fun x env2 => tk Ex env2 fun z env3 => cellS env3 x fun i b r cs oc => dkW oc fun kvs => ∃ key, z = .ext (kD key) ∧ kvs.length < sizeLine ∧
  ((∀ a ∈ cs.map (·.1), a ∉ cs2.map (·.1)) → E.nx (env3.set i (.reg r (putC cs b (.dk (ptK kvs key d2)) ++ cs2))))
def dkK (_ : Nat) (_ : Addr) (_ : D) (_ : Cells) (oc : OC) : Prop := dkO oc fun _ => True
def dGet2R (t te tf : DT) : DT := fun Ex env Q => t Ex env fun x env1 => cellS env1 x dkK ∧ te Ex env1 fun y env2 => tf Ex env2 fun z env3 => frzD env3 z fun d3 env4 => cellS env4 x fun i _ _ _ oc => dkO oc fun kvs => ∃ key, y = .ext (kD key) ∧ Q (ptrD i ((luK kvs key).getD d3)) env4
def dPop1R (t te : DT) : DT := fun Ex env Q => t Ex env fun x env1 => cellS env1 x dkK ∧ te Ex env1 fun y env2 => cellS env2 x fun i b r cs oc => dkW oc fun kvs => ∃ key d, y = .ext (kD key) ∧ luK kvs key = some d ∧ Q (ptrD i d) (env2.set i (.reg r (putC cs b (.dk (drK kvs key)))))
def dPop2R (t te tf : DT) : DT := fun Ex env Q => t Ex env fun x env1 => cellS env1 x dkK ∧ te Ex env1 fun y env2 => tf Ex env2 fun z env3 => frzD env3 z fun d3 env4 => cellS env4 x fun i b r cs oc => dkW oc fun kvs => ∃ key, y = .ext (kD key) ∧
  Q (ptrD i ((luK kvs key).getD d3)) (env4.set i (.reg r (putC cs b (.dk (drK kvs key)))))
end
end HD
namespace HD
open PySem PySem.Spec PyProof.Rows L2
section
variable {G : GG} {N : List Str} {sc : SC} {k : Nat} {a b c : Expr} {ta tb tc : DT} {apos cpos p p2 pos pos2 py spos : Pos} {x : Str}
def dDGetTR (t te : DT) : DT := fun Ex env Q => t Ex env fun x env1 => te Ex env1 fun y env2 => cellS env2 x fun i _ _ _ oc => dtO' oc fun kvs => ∃ key d, y = .ext (kT key) ∧ luK kvs key = some d ∧ Q (ptrD i d) env2
def dDInTR (neg : Bool) (te t : DT) : DT := fun Ex env Q => te Ex env fun y env1 => t Ex env1 fun x env2 => cellS env2 x fun _ _ _ _ oc => dtO' oc fun kvs => ∃ key, y = .ext (kT key) ∧ Q (.ext (.bl (neg != (luK kvs key).isSome))) env2
def sPutTR (fz : Bool) (t tk tv : DT) : DTS := fun Ex E env => tv Ex env fun y env0 => stoS fz env0 y fun d2 cs2 env1 => t Ex env1 fun x env2 => tk Ex env2 fun z env3 => cellS env3 x fun i b r cs oc => dtW oc fun kvs => ∃ key, z = .ext (kT key) ∧ kvs.length < sizeLine ∧
  ((∀ a ∈ cs.map (·.1), a ∉ cs2.map (·.1)) → E.nx (env3.set i (.reg r (putC cs b (.dt (ptK kvs key d2)) ++ cs2))))
def dtK (_ : Nat) (_ : Addr) (_ : D) (_ : Cells) (oc : OC) : Prop := dtO' oc fun _ => True
def dPop1TR (t te : DT) : DT := fun Ex env Q => t Ex env fun x env1 => cellS env1 x dtK ∧ te Ex env1 fun y env2 => cellS env2 x fun i b r cs oc => dtW oc fun kvs => ∃ key d, y = .ext (kT key) ∧ luK kvs key = some d ∧ Q (ptrD i d) (env2.set i (.reg r (putC cs b (.dt (drK kvs key)))))
end
end HD
namespace HD
open PySem PyProof.Rows L2
inductive Bk where
  | no
  | slot (i : Nat)
  | part (i : Nat)
def lend1 (m : Nat) (env : Env') (x : Sl) (k : Sl → Bk → Env' → Prop) : Prop := match m with
  | 0 => froz env x fun d => k (.ext d) .no env
  | 1 => match x with
    | .al i a => match env[i]? with
      | some (.lst b ds) => b = a ∧ k (.lst a ds) (.slot i) (env.set i .un)
      | _ => False
    | .ar i b => match env[i]? with
      | some (.reg d cs) => rootOf d = some b ∧ k (.reg (.val (.ref b)) cs) (.slot i) (env.set i .un)
      | _ => False
    | .lst a ds => k (.lst a ds) .no env
    | .reg d cs => k (.reg d cs) .no env
    | .ext d => k (.ext d) .no env
    | .un => False
  | _ => match x with
    | .ar i b => match env[i]? with
      | some (.reg d cs) => ∃ sub rest, cs.Perm (sub ++ rest) ∧ k (.reg (.val (.ref b)) sub) (.part i) (env.set i (.reg d rest))
      | _ => False
    | _ => False
def lendM : List Nat → Env' → List Sl → (List Sl → List Bk → Env' → Prop) → Prop
  | [], env, [], k => k [] [] env
  | m :: ms, env, x :: xs, k => lend1 m env x fun s bk env1 => lendM ms env1 xs fun ss bks env2 => k (s :: ss) (bk :: bks) env2
  | _, _, _, _ => False
def give1 (b : Bk) (env : Env') (s : Sl) (k : Env' → Prop) : Prop := match b with
  | .no => k env
  | .slot i => s.plain ∧ k (env.set i s)
  | .part i => match s with
    | .reg _ sub => match env[i]? with
      | some (.reg d rest) => (∀ a ∈ rest.map (·.1), a ∉ sub.map (·.1)) → k (env.set i (.reg d (rest ++ sub)))
      | _ => False
    | _ => False
def giveM : List Bk → Env' → List Sl → (Env' → Prop) → Prop
  | [], env, _, k => k env
  | b :: bs, env, s :: ss, k => give1 b env s fun env1 => giveM bs env1 ss k
  | _ :: _, _, [], _ => False
def BkOk (σ : L2.St) (v : V) : Bk → Prop
  | .slot i => σ[i]? = some (some v)
  | _ => True
def BksOk (σ : L2.St) : List V → List Bk → Prop
  | v :: vs, b :: bs => BkOk σ v b ∧ BksOk σ vs bs
  | _, _ => True
section
variable {K : PySem.W.Frag} {e : Ent} {σ : L2.St} {H : Hp}
theorem Holds.lend1 {m : Nat} {env : Env'} {T : Tmp} {F : Hp} {v : V} {x : Sl} {k : Sl → Bk → Env' → Prop} (h : Holds K e env ((v, x) :: T) F σ H) (w : HD.lend1 m env x k) :
    ∃ s bk F1 env1, Same F F1 ∧ Holds K e env1 ((v, s) :: T) F1 σ H ∧ BkOk σ v bk ∧ k s bk env1 := by
  match m with
  | 0 =>
    obtain ⟨d, F1, sm, h1, rd, q⟩ := h.froz1 w
    exact ⟨.ext d, .no, F1, env, sm, h1.pushE rd, trivial, q⟩
  | 1 =>
    cases x with
    | un => exact w.elim
    | ext d => exact ⟨_, .no, F, env, Same.refl _, h, trivial, w⟩
    | lst a ds => exact ⟨_, .no, F, env, Same.refl _, h, trivial, w⟩
    | reg d cs => exact ⟨_, .no, F, env, Same.refl _, h, trivial, w⟩
    | al i a =>
      have ev : v = .ref a := h.temps (v, .al i a) List.mem_cons_self
      have w' : (match env[i]? with | some (.lst b ds) => b = a ∧ k (.lst a ds) (.slot i) (env.set i .un) | _ => False) := w
      split at w'
      · rename_i b ds hb
        obtain ⟨rfl, w'⟩ := w'
        rcases h.slots i _ hb with z | ⟨u, hu, e1, _⟩
        · cases z
        subst e1
        subst ev
        exact ⟨_, .slot i, F, _, Same.refl _, h.pop.take hb hu, hu, w'⟩
      · exact w'.elim
    | ar i b =>
      have ev : v = .ref b := h.temps (v, .ar i b) List.mem_cons_self
      have w' : (match env[i]? with | some (.reg d cs) => rootOf d = some b ∧ k (.reg (.val (.ref b)) cs) (.slot i) (env.set i .un) | _ => False) := w
      split at w'
      · rename_i d cs hb
        obtain ⟨hr, w'⟩ := w'
        have ed := rootOf_some hr
        subst ed
        rcases h.slots i _ hb with z | ⟨u, hu, e1, _⟩
        · cases z
        have e1' : u = .ref b := e1
        subst e1'
        subst ev
        exact ⟨_, .slot i, F, _, Same.refl _, h.pop.take hb hu, hu, w'⟩
      · exact w'.elim
  | m + 2 =>
    cases x with
    | ar i b =>
      have ev : v = .ref b := h.temps (v, .ar i b) List.mem_cons_self
      have w' : (match env[i]? with | some (.reg d cs) => ∃ sub rest, cs.Perm (sub ++ rest) ∧ k (.reg (.val (.ref b)) sub) (.part i) (env.set i (.reg d rest)) | _ => False) := w
      split at w'
      · rename_i d cs hb
        obtain ⟨sub, rest, hp, w'⟩ := w'
        subst ev
        exact ⟨_, .part i, F, _, Same.refl _, h.pop.carve hb hp, trivial, w'⟩
      · exact w'.elim
    | _ => exact w.elim
theorem Holds.lendM : ∀ {ms : List Nat} {vs : List V} {xs : List Sl} {env : Env'} {T : Tmp} {F : Hp} {k : List Sl → List Bk → Env' → Prop}, vs.length = xs.length → Holds K e env (vs.zip xs ++ T) F σ H → HD.lendM ms env xs k →
    ∃ ss bks F1 env1, Same F F1 ∧ ss.length = vs.length ∧ Holds K e env1 (vs.zip ss ++ T) F1 σ H ∧ BksOk σ vs bks ∧ k ss bks env1
  | [], [], [], env, T, F, k, _, h, w => ⟨[], [], F, env, Same.refl _, rfl, h, trivial, w⟩
  | [], _, _ :: _, _, _, _, _, _, _, w => w.elim
  | _ :: _, _, [], _, _, _, _, _, _, w => w.elim
  | _, _ :: _, [], _, _, _, _, le, _, _ => by cases le
  | _, [], _ :: _, _, _, _, _, le, _, _ => by cases le
  | m :: ms, v :: vs, x :: xs, env, T, F, k, le, h, w => by
    have le' : vs.length = xs.length := by simpa using le
    have w' : HD.lend1 m env x fun s bk env1 => HD.lendM ms env1 xs fun ss bks env2 => k (s :: ss) (bk :: bks) env2 := w
    obtain ⟨s, bk, F1, env1, sm, h1, b1, w1⟩ := Holds.lend1 (T := vs.zip xs ++ T) h w'
    have h2 : Holds K e env1 (vs.zip xs ++ ((v, s) :: T)) F1 σ H := h1.perm List.perm_middle.symm
    obtain ⟨ss, bks, F2, env2, sm2, l2, h3, b2, w2⟩ := Holds.lendM le' h2 w1
    exact ⟨s :: ss, bk :: bks, F2, env2, sm.trans sm2, by rw [List.length_cons, List.length_cons, l2], h3.perm List.perm_middle, ⟨b1, b2⟩, w2⟩
theorem ownedT_zip : ∀ {vs : List V} {ss : List Sl}, ss.length = vs.length → ownedT (vs.zip ss) = ownedE ss
  | [], [], _ => rfl
  | [], _ :: _, h => by cases h
  | _ :: _, [], h => by cases h
  | v :: vs, s :: ss, h => by
    show s.owned ++ ownedT (vs.zip ss) = s.owned ++ ownedE ss
    rw [ownedT_zip (by simpa using h)]
theorem ownedT_app (T U : Tmp) : ownedT (T ++ U) = ownedT T ++ ownedT U := by
  unfold ownedT
  exact List.flatMap_append
theorem zip_get {vs : List V} {ss : List Sl} (le : ss.length = vs.length) {i : Nat} {s : Sl} (h : ss[i]? = some s) : ∃ v, vs[i]? = some v ∧ (v, s) ∈ vs.zip ss := by
  obtain ⟨hi, e⟩ := List.getElem?_eq_some_iff.mp h
  have hv : i < vs.length := by omega
  refine ⟨vs[i], List.getElem?_eq_getElem hv, ?_⟩
  refine List.mem_iff_getElem?.2 ⟨i, ?_⟩
  rw [List.getElem?_zip_eq_some]
  exact ⟨List.getElem?_eq_getElem hv, h⟩
theorem Holds.argsM {env : Env'} {T : Tmp} {F : Hp} {vs : List V} {ss : List Sl} (le : ss.length = vs.length) (h : Holds K e env (vs.zip ss ++ T) F σ H) : Holds K (entOf F H ss) ss [] F (vs.map some) H := by
  have nd := h.nd
  rw [ownedT_app, ownedT_zip le] at nd
  refine ⟨h.fh, by rw [List.length_map, le], fun i sl q => ?_, (fun p hp => nomatch hp), ?_, Same.refl _, fun a o q _ => ⟨q, fun z => z⟩, fun a ha => .inl ?_⟩
  · obtain ⟨v, hv, hm⟩ := zip_get le q
    exact .inr ⟨v, by rw [List.getElem?_map, hv]; rfl, h.temps _ (List.mem_append_left _ hm)⟩
  · show (ownedE ss ++ []).Nodup
    rw [List.append_nil]
    exact (List.nodup_append.mp (List.nodup_append.mp nd).2.1).1
  · have ha' : a ∈ ownedE ss ++ [] := ha
    rwa [List.append_nil] at ha'
theorem Holds.leftM {env : Env'} {T : Tmp} {F F' H' : Hp} {vs : List V} {ss fin : List Sl} {v : V} {r : Sl} (le : ss.length = vs.length) (h : Holds K e env (vs.zip ss ++ T) F σ H) (hf : Holds K (entOf F H ss) fin [(v, r)] F' (vs.map some) H') :
    fin.length = vs.length ∧ Holds K e env ((v, r) :: (vs.zip fin ++ T)) F' σ H' := by
  have lf : fin.length = vs.length := by rw [hf.len, List.length_map]
  have nd := h.nd
  rw [ownedT_app, ownedT_zip le] at nd
  obtain ⟨n1, n2, n3⟩ := List.nodup_append.mp nd
  obtain ⟨n4, n5, n6⟩ := List.nodup_append.mp n2
  have l : Left (ownedE ss) F H F' H' := ⟨hf.s1, hf.fh, fun b o q n => hf.s2 b o q n⟩
  have hmem : ∀ a, a ∈ ownedE env ++ ownedT T → a ∈ ownedE env ++ ownedT (vs.zip ss ++ T) := fun a ha => by
    rw [ownedT_app]
    rcases List.mem_append.mp ha with z | z
    · exact List.mem_append_left _ z
    · exact List.mem_append_right _ (List.mem_append_right _ z)
  have dis : ∀ a ∈ ownedE env ++ ownedT T, a ∉ ownedE ss := fun a ha hb => by
    rcases List.mem_append.mp ha with z | z
    · exact n3 a z a (List.mem_append_left _ hb) rfl
    · exact n6 a hb a z rfl
  have live : ∀ a ∈ ownedE env ++ ownedT T, H a ≠ none := fun a ha z => by
    obtain ⟨_, o, q⟩ := h.ownedH a (hmem a ha)
    rw [z] at q
    cases q
  have new : ∀ a ∈ ownedE fin ++ ownedT [(v, r)], a ∈ ownedE ss ∨ H a = none := fun a ha => hf.s3 a ha
  have apart : ∀ a ∈ ownedE fin ++ ownedT [(v, r)], a ∉ ownedE env ++ ownedT T := fun a ha hb => by
    rcases new a ha with z | z
    · exact dis a hb z
    · exact live a hb z
  have inA : ∀ a ∈ ownedE ss, a ∈ e.A0 ∨ e.H0 a = none := fun a ha => h.s3 a (by
    rw [ownedT_app, ownedT_zip le]
    exact List.mem_append_right _ (List.mem_append_left _ ha))
  refine ⟨lf, l.fh, h.len, fun i sl q => ?_, fun p hp => ?_, ?_, h.s1.trans l.ff, fun b o q n => ?_, fun a ha => ?_⟩
  · rcases h.slots i sl q with z | ⟨w, hw, ok⟩
    · exact .inl z
    · exact .inr ⟨w, hw, ok.left l fun a ha => dis a (List.mem_append_left _ (mem_ownedE q ha))⟩
  · rcases List.mem_cons.mp hp with rfl | hp
    · exact hf.temps (v, r) List.mem_cons_self
    · rcases List.mem_append.mp hp with hp | hp
      · obtain ⟨i, hi⟩ := List.mem_iff_getElem?.1 hp
        obtain ⟨p1, p2⟩ := p
        rw [List.getElem?_zip_eq_some] at hi
        obtain ⟨h1, h2⟩ := hi
        rcases hf.slots i p2 h2 with z | ⟨w, hw, ok⟩
        · subst z
          trivial
        · rw [List.getElem?_map, h1] at hw
          cases hw
          exact ok
      · exact (h.temps p (List.mem_append_right _ hp)).left l fun a ha => dis a (List.mem_append_right _ (List.mem_flatMap.mpr ⟨p, hp, ha⟩))
  · show (ownedE env ++ (r.owned ++ ownedT (vs.zip fin ++ T))).Nodup
    rw [ownedT_app, ownedT_zip lf]
    have hn : (ownedE fin ++ (r.owned ++ [])).Nodup := hf.nd
    rw [List.append_nil] at hn
    have hn2 : (r.owned ++ ownedE fin).Nodup := (List.perm_append_comm).nodup hn
    have ap : ∀ a ∈ r.owned ++ ownedE fin, a ∉ ownedE env ++ ownedT T := fun a ha => apart a (by
      show a ∈ ownedE fin ++ (r.owned ++ [])
      rw [List.append_nil]
      rcases List.mem_append.mp ha with z | z
      · exact List.mem_append_right _ z
      · exact List.mem_append_left _ z)
    rw [← List.append_assoc r.owned]
    refine List.nodup_append.mpr ⟨n1, List.nodup_append.mpr ⟨hn2, n5, fun a ha b hb z => ap a ha (z ▸ List.mem_append_right _ hb)⟩, fun a ha b hb z => ?_⟩
    subst z
    rcases List.mem_append.mp hb with hb | hb
    · exact ap a hb (List.mem_append_left _ ha)
    · exact n3 a ha a (List.mem_append_right _ hb) rfl
  · obtain ⟨q1, q2⟩ := h.s2 b o q n
    have nb : b ∉ ownedE ss := fun z => by
      rcases inA b z with y | y
      · exact n y
      · rw [q] at y
        cases y
    obtain ⟨r1, r2⟩ := l.out b o q1 nb
    exact ⟨r1, fun z => r2 (q2 z)⟩
  · have key : ∀ a ∈ ownedE fin ++ ownedT [(v, r)], a ∈ e.A0 ∨ e.H0 a = none := fun a ha => by
      rcases new a ha with z | z
      · exact inA a z
      · cases q : e.H0 a with
        | none => exact .inr rfl
        | some o =>
          by_cases hA : a ∈ e.A0
          · exact .inl hA
          · rw [(h.s2 a o q hA).1] at z
            cases z
    have ha' : a ∈ ownedE env ++ (r.owned ++ ownedT (vs.zip fin ++ T)) := ha
    rw [ownedT_app, ownedT_zip lf] at ha'
    rcases List.mem_append.mp ha' with hb | hb
    · exact h.s3 a (hmem a (List.mem_append_left _ hb))
    · rcases List.mem_append.mp hb with hb | hb
      · refine key a ?_
        show a ∈ ownedE fin ++ (r.owned ++ [])
        rw [List.append_nil]
        exact List.mem_append_right _ hb
      · rcases List.mem_append.mp hb with hb | hb
        · exact key a (List.mem_append_left _ hb)
        · exact h.s3 a (hmem a (List.mem_append_right _ hb))
theorem Holds.give1 {bk : Bk} {env : Env'} {T : Tmp} {F : Hp} {v : V} {s : Sl} {k : Env' → Prop} (h : Holds K e env ((v, s) :: T) F σ H) (b : BkOk σ v bk) (w : HD.give1 bk env s k) : ∃ env1, Holds K e env1 T F σ H ∧ k env1 := by
  cases bk with
  | no => exact ⟨env, h.pop, w⟩
  | slot i =>
    obtain ⟨hp, w⟩ := w
    have h2 := h.assign i hp
    have z : σ.set i (some v) = σ := by
      obtain ⟨hl, e⟩ := List.getElem?_eq_some_iff.mp (show σ[i]? = some (some v) from b)
      rw [← e]
      exact List.set_getElem_self hl
    rw [z] at h2
    exact ⟨_, h2, w⟩
  | part i =>
    cases s with
    | reg d2 sub =>
      have w' : (match env[i]? with | some (.reg d rest) => (∀ a ∈ rest.map (·.1), a ∉ sub.map (·.1)) → k (env.set i (.reg d (rest ++ sub))) | _ => False) := w
      split at w'
      · rename_i d rest hb
        obtain ⟨dis, _, h2⟩ := h.absorb hb
        exact ⟨_, h2, w' dis⟩
      · exact w'.elim
    | _ => exact w.elim
theorem Holds.giveM : ∀ {bks : List Bk} {vs : List V} {ss : List Sl} {env : Env'} {T : Tmp} {F : Hp} {k : Env' → Prop}, ss.length = vs.length → Holds K e env (vs.zip ss ++ T) F σ H → BksOk σ vs bks → HD.giveM bks env ss k → ∃ env1, Holds K e env1 T F σ H ∧ k env1
  | [], vs, ss, env, T, F, k, _, h, _, w => ⟨env, h.sub (List.sublist_append_right _ _), w⟩
  | _ :: _, _, [], _, _, _, _, _, _, _, w => w.elim
  | _ :: _, [], _ :: _, _, _, _, _, le, _, _, _ => by cases le
  | b :: bs, v :: vs, s :: ss, env, T, F, k, le, h, bo, w => by
    have w' : HD.give1 b env s fun env1 => HD.giveM bs env1 ss k := w
    obtain ⟨env1, h1, w1⟩ := Holds.give1 (T := vs.zip ss ++ T) h bo.1 w'
    exact Holds.giveM (by simpa using le) h1 bo.2 w1
def callM (spec : DSpec) (ms : List Nat) (Ex : DX) (env : Env') (xs : List Sl) (Q : Sl → Env' → Prop) : Prop := lendM ms env xs fun ss bks env1 => spec ss (fun r fin => r.plain ∧ giveM bks env1 fin fun env2 => Q r env2) (fun c fin => giveM bks env1 fin fun env2 => Ex c env2)
end
def dCallM (spec : DSpec) (ms : List Nat) (ta : DTA) : DT := fun Ex env Q => ta Ex env fun xs env1 => callM spec ms Ex env1 xs Q
section
variable {G : GG} {N : List Str} {sc : SC} {k kf n : Nat} {x : Str} {spec : DSpec} {e o : Expr} {es : List Expr} {p pos apos : Pos}
def insK (c m : Str) (_ : Nat) (_ : Addr) (_ : D) (_ : Cells) (oc : OC) : Prop := insO oc fun c' _ fs => c' = c ∧ luK fs m = none
def objS (c m : Str) (env : Env') (x : Sl) : Prop := match x with
  | .reg (.val (.ref a)) cs => match cellOf cs a with
    | some (.ins c' _ fs) => c' = c ∧ luK fs m = none
    | _ => False
  | x => cellS env x (insK c m)
def dMethO (c m : Str) (spec : DSpec) (ms : List Nat) (to : DT) (ta : DTA) : DT := fun Ex env Q => to Ex env fun x env1 => objS c m env1 x ∧ ta Ex env1 fun xs env2 => callM spec ms Ex env2 (x :: xs) Q
end
end HD
namespace HD
open PySem PyProof.Rows L2
abbrev newS (c : Str) (a dx : Addr) : Sl := .reg (.val (.ref a)) [(a, .ins c dx []), (dx, .own a)]
def makeM (c : Str) (spec : DSpec) (ms : List Nat) (Ex : DX) (env : Env') (xs : List Sl) (Q : Sl → Env' → Prop) : Prop := lendM ms env xs fun ss bks env1 => ∀ a dx, a ≠ dx → spec (newS c a dx :: ss)
  (fun r fin => r = .ext .non ∧ match fin with | s0 :: fr => giveM bks env1 fr fun env2 => s0.plain ∧ Q s0 env2 | [] => False)
  (fun c fin => match fin with | _ :: fr => giveM bks env1 fr fun env2 => Ex c env2 | [] => False)
def dMake (c : Str) (spec : DSpec) (ms : List Nat) (ta : DTA) : DT := fun Ex env Q => ta Ex env fun xs env1 => makeM c spec ms Ex env1 xs Q
def tMakeD (C : Addr) (sp : Sp) (E : L2.St → XK) (t : TA) : TE := fun σ H Q => t σ H fun vs H1 => ∀ x dx, H1 x = none → H1 dx = none → dx ≠ x → sp (.ref x :: vs) (upd (upd H1 dx (.own x)) x (.ins C dx [])) (fun v H2 => v = .non ∧ Q (.ref x) H2) (E σ)
section
variable {K : PySem.W.Frag} {e : Ent} {σ : L2.St} {H : Hp}
theorem Holds.pushNew {env : Env'} {T : Tmp} {F : Hp} {c : Str} {x dx : Addr} (h : Holds K e env T F σ H) (hx : H x = none) (hd : H dx = none) (ne : dx ≠ x) : Holds K e env ((V.ref x, newS c x dx) :: T) F σ (upd (upd H dx (.own x)) x (.ins (He.ga K c) dx [])) := by
  have g1 : Grow F H F (upd H dx (.own x)) := Grow.loose h.fh hd
  have hx' : upd H dx (.own x) x = none := by rw [upd_ne ne.symm]; exact hx
  have g2 := g1.trans (Grow.loose (o := .ins (He.ga K c) dx []) g1.fh hx')
  refine h.push g2 ⟨rfl, ?_, fun p hp => ?_⟩ fun a ha => ?_
  · exact List.nodup_cons.2 ⟨fun z => ne (List.mem_singleton.1 z).symm, List.pairwise_singleton _ _⟩
  · rcases List.mem_cons.1 hp with rfl | hp
    · exact ⟨h.fh.free hx, _, upd_same, [], rfl, rfl, rfl⟩
    · rw [List.mem_singleton.1 hp]
      exact ⟨h.fh.free hd, .own x, by show upd (upd H dx (HO.own x)) x _ dx = _; rw [upd_ne ne, upd_same], rfl⟩
  · rcases List.mem_cons.1 ha with rfl | ha
    · exact hx
    · rw [List.mem_singleton.1 ha]
      exact hd
theorem im_make {W : WX} {c : Str} {spec : DSpec} {n : Nat} {ms : List Nat} {ta : TA} {t : DTA} (h : ImA K W ta t) (hn : ∀ ds Q X, spec ds Q X → ds.length = n) : Im K W (tMakeD (He.ga K c) (toSp K n spec) (WE W) ta) (dMake c spec ms t) := fun e Ex hl env T F σ H Q R hh ht hR => by
  refine h e Ex hl env T F σ H _ _ hh ht fun vs H1 F1 env1 xs le hh1 q1 x dx hx hd ne => ?_
  obtain ⟨ss, bks, F2, env2, _, ls, h1, b1, w1⟩ := hh1.lendM le q1
  have w2 := w1 x dx ne.symm
  have h2 : Holds K e env2 ((V.ref x :: vs).zip (newS c x dx :: ss) ++ T) F2 σ _ := h1.pushNew hx hd ne
  have ls' : (newS c x dx :: ss).length = (V.ref x :: vs).length := by rw [List.length_cons, List.length_cons, ls]
  refine ⟨F2, newS c x dx :: ss, _, _, by rw [← hn _ _ _ w2, ls'], h2.argsM ls', w2, fun v H' F' r fin hf hq => ?_, fun c' H' F' fin hf hq => ?_⟩
  · obtain ⟨lf, h3⟩ := h2.leftM ls' hf
    obtain ⟨rfl, hq⟩ := hq
    cases fin with
    | nil => exact hq.elim
    | cons s0 fr =>
      have ev : v = .non := h3.temps (v, .ext .non) List.mem_cons_self
      refine ⟨ev, ?_⟩
      have h4 : Holds K e env2 (vs.zip fr ++ ((V.ref x, s0) :: T)) F' σ H' := h3.pop.perm List.perm_middle.symm
      obtain ⟨env3, h5, _, q⟩ := h4.giveM (by simpa using lf) b1 hq
      exact hR _ H' F' env3 s0 h5 q
  · have hf' : Holds K (entOf F2 _ (newS c x dx :: ss)) fin [(V.non, Sl.ext .non)] F' ((V.ref x :: vs).map some) H' := hf.pushE rfl
    obtain ⟨lf, h3⟩ := h2.leftM ls' hf'
    cases fin with
    | nil => exact hq.elim
    | cons s0 fr =>
      have h4 : Holds K e env2 (vs.zip fr ++ ((V.ref x, s0) :: T)) F' σ H' := h3.pop.perm List.perm_middle.symm
      obtain ⟨env3, h5, q⟩ := h4.giveM (by simpa using lf) b1 hq
      exact hl c' env3 F' σ H' h5.bare q
end
structure KDef (G : GG) (kf : Nat) (c : Str) (n : Nat) (spec : DSpec) : Prop where
  ex : ∃ f fd ps, FnG G.P G.w G.K G.mg G.base (L2.CX G.P G.w) kf f fd ps (toSp G.K n spec) ∧ Mk G.K (He.ga G.K c) f ∧ Binds G.K fd ps []
  mg : G.mg c = some (.ref (He.ga G.K c))
  len : ∀ ds Q X, spec ds Q X → ds.length = n
section
variable {X : Cx} {C : CXT} {k : Nat} {f c : Addr} {fd : FuncData} {ps : List Str} {sp : Sp} {E : XK}
theorem run_makeG {pins : List (Addr × Obj)} {σ : L2.St} {H : Hp} {s : Shared} {Q : VK} {us : List Value} {vs : List V} (M : Mk X.K c f) (F : FnG X.prog X.w X.K X.mg X.base C k f fd ps sp) (gd : X.A.guards = some []) (hr : Room (k + 1) X.A) (hb : Binds X.K fd ps [])
    (pass : ∀ (pins : List (Addr × Obj)) (H : Hp) (s : Shared) (e : Value) (s' : Shared), L2.Inv X pins σ H s → C X.stack H s E e s' → X.xe e s') (I : L2.Inv X pins σ H s) (r : Vals vs us)
    (h : ∀ x dx, H x = none → H dx = none → dx ≠ x → sp (.ref x :: vs) (upd (upd H dx (.own x)) x (.ins c dx [])) (fun v H2 => v = .non ∧ Q (.ref x) H2) E) :
    wpAny (model X.prog X.w) X.A (call (.ref c) us) (EP X pins σ Q) X.xe s := by
  have hq := h (s.heap.objs.size + 1) s.heap.objs.size (I.hok.fresh (Nat.le_succ _)) (I.hok.fresh (Nat.le_refl _)) (Nat.ne_of_lt (Nat.lt_succ_self _))
  have I2 := L2.Inv.made (C := c) I
  have r2 : Vals (V.ref (s.heap.objs.size + 1) :: vs) (Value.ref (s.heap.objs.size + 1) :: us) := .cons rfl r
  have hl : (Value.ref (s.heap.objs.size + 1) :: us).length = ps.length := by
    have e := r2.length
    rw [F.fit _ _ _ _ hq] at e
    exact e.symm
  have b := hb { s with heap := (s.heap.push PySem.W.emptyDict).push (PySem.W.instObj c s.heap.objs.size) } (Value.ref (s.heap.objs.size + 1) :: us) I2.kIn (by rw [List.append_nil]; exact hl)
  rw [List.append_nil] at b
  refine wpAny_call (make_map (f := f) I.kIn M.makes M.init (beq_iff_eq.mp M.fn) (codeAny_mono (F.go _ X.stack _ _ ⟨Value.ref (s.heap.objs.size + 1) :: us, []⟩ (Value.ref (s.heap.objs.size + 1) :: us) _ _ E (by exact gd) (hr.make c us [])
    (I2.env0.make c us []) b r2 hq) fun r s' hq' => ?_))
  cases r with
  | error e => exact pass pins _ _ e s' I2 hq'
  | ok fl =>
    cases fl with
    | ret u =>
      obtain ⟨v, H', I3, rv, ev, q3⟩ := I2.after hq'
      subst ev
      exact ⟨rv, ⟨V.ref (s.heap.objs.size + 1), H', I3, rfl, q3⟩⟩
    | next => exact False.elim hq'
    | brk => exact False.elim hq'
    | cont => exact False.elim hq'
end
section
variable {G : GG} {N : List Str} {sc : SC} {k kf n : Nat} {spec : DSpec} {e o a : Expr} {es : List Expr} {p pos apos : Pos} {st : Stmt} {t : DTS} {ta : DT}
theorem de_make {c : Str} {ta : DTA} (ms : List Nat) (d : KDef G kf c n spec) (ha : DAs G N sc k (e :: es) ta) (hk : kf + 1 ≤ k := by decide) (hg : GlS sc c := by rfl) (hdb : (c == ("__debug__" : Str)) = false := by decide) (he : NoStar e es := by intro _; rfl) (hpl : ∀ env, (backTo pos (starEach es env)).any (·.1) = false := by intro _; rfl) :
    DE G N sc k (.Call (.Name c p) (e :: es) [] pos) (dMake c spec ms ta) := ⟨fun W => by
  obtain ⟨te, p1, i1⟩ := ha.ex W
  refine ⟨_, fun X S => ?_, im_make i1 d.len⟩
  obtain ⟨f, fd, ps, h1, h3, h4⟩ := d.ex
  have h2 := d.mg
  have pass : ∀ σ, PassesAt (L2.CX X.prog X.w) X σ (WE W σ) := fun σ => passAt S.tk σ
  rw [← S.prog, ← S.w, ← S.K, ← S.mg, ← S.base] at h1
  rw [← S.mg, ← S.K] at h2
  rw [← S.K] at h3 h4 ⊢
  refine ⟨fun pins s σ H Q I h => ?_⟩
  refine wpAny_Call_Name_kw (ld_glob I (S.gl hg) h2 ?_ hdb)
  refine PySem.W.callWith_K (h₀ := X.base) I.ok.mod.kin h3.kp (thn ((p1 X S).run pos pins s σ H _ I h) fun us s1 ⟨vs, H1, I1, r, q⟩ => ⟨I1.kIn, ?_⟩) (he _) (hpl _)
  exact run_makeG h3 h1 S.gd (S.room.mono hk) h4 (pass σ) I1 r q⟩
def sSetA (i : Nat) (t : DT) : DTS := fun Ex E env => t Ex env fun x env1 => match x with
  | .ar j b => E.nx (env1.set i (.ar j b))
  | .ext d => E.nx (env1.set i (.ext d))
  | _ => False
def dMoveR (i : Nat) : DT := fun _ env Q => match env[i]? with
  | some (.reg d cs) => Q (.reg d cs) (env.set i .un)
  | _ => False
end
end HD
namespace HD
open PySem PyProof.Rows L2
section
variable {G : GG} {N : List Str} {sc : SC} {k kf n : Nat} {e o a : Expr} {es : List Expr} {p pos apos : Pos} {st : Stmt} {t : DTS} {ta : DT}
def sSetG (i : Nat) (t : DT) : DTS := fun Ex E env => t Ex env fun x env1 => match x with
  | .lst a ds => E.nx (env1.set i (.reg (.val (.ref a)) [(a, .lst ds)]))
  | .reg d cs => E.nx (env1.set i (.reg d cs))
  | _ => False
theorem ds_setG {x : Str} {pos' : Pos} (i : Nat) (h : DE G N sc k a ta) (hi : N[i]? = some x := by rfl) (hx : LocS sc x := by first | exact Or.inl rfl | exact Or.inr ⟨rfl, rfl⟩) (hs : ∀ env, env.scope = sc.sc → swapsWith a (some (.Name x pos')) pos.line env = pure false := by intro _ _; rfl) : DS G N sc k (.Assign [.Name x pos'] a pos) (sSetG i ta) := ⟨fun W => by
  obtain ⟨te, p1, i1⟩ := h.ex W
  refine ⟨tAsg te (gName i), fun X S => ps_set (by rw [S.nms]; exact S.nd) (by rw [S.nms]; exact hi) (S.loc hx).1 (p1 X S) (hs _ S.scp) (S.loc hx).2, fun e Ex hl env F σ H E Dn hh ht ok => ?_⟩
  refine i1 e Ex hl env [] F σ H _ _ hh ht fun v H1 F1 env1 x hh1 q1 => ?_
  cases x with
  | lst a ds => exact ok.nx _ F1 _ H1 (hh1.asReg.assign i trivial) q1
  | reg d cs => exact ok.nx _ F1 _ H1 (hh1.assign i trivial) q1
  | _ => exact q1.elim⟩
def dExtTR (t te : DT) : DT := fun Ex env Q => t Ex env fun x env1 => cellS env1 x lstK ∧ te Ex env1 fun y env2 => match y with
  | .ext (.tup es) => cellS env2 x fun i b r cs oc => lstO oc fun ds => ds.length + es.length ≤ sizeLine ∧ Q (.ext .non) (env2.set i (.reg r (putC cs b (.lst (ds ++ es)))))
  | _ => False
theorem de_extTR {b : Expr} {tb : DT} {cpos : Pos} (ha : DE G N sc k a ta) (hb : DE G N sc k b tb) (hw : FewArgs a "extend" b [] cpos := by intro _; exact ⟨rfl, rfl, rfl, rfl⟩) (hline : (apos.endLine == cpos.line) = true := by rfl) :
    DE G N sc k (.Call (.Attribute a "extend" apos) [b] [] cpos) (dExtTR ta tb) := ⟨fun W => by
  obtain ⟨te, p1, i1⟩ := ha.ex W
  obtain ⟨tf, p2, i2⟩ := hb.ex W
  refine ⟨tBM G.K "list" (rExtT G.K) te (tCons tf tNil), fun X S => ?_, fun e Ex hl env T F σ H Q R hh ht hR => ?_⟩
  · obtain ⟨hbase, hfew, hs, hplain⟩ := hw X.env
    rw [← S.K]
    exact pe_bm PySem.F.plainAttrs_list PySem.F.slot_list_extend PySem.F.type_list_extend mt_extT (p1 X S) (pa_cons (p2 X S) pa_nil hs) hbase hfew hline hs hplain
  · refine i1 e Ex hl env T F σ H _ _ hh ht fun w H1 F1 env1 x hh1 ⟨q0, q1⟩ => ?_
    obtain ⟨b0, us0, rfl, hu0⟩ := lstK_of hh1 List.mem_cons_self q0
    refine ⟨.inl ⟨rfl, us0, SqL.of hu0⟩, ?_⟩
    refine i2 e Ex hl env1 _ F1 σ H1 _ _ hh1 q1 fun u H2 F2 env2 y hh2 q2 => ?_
    cases y with
    | ext d2 =>
      cases d2 with
      | tup es =>
        obtain ⟨ct, zs, eu, ht, rt⟩ := hh2.temps (u, .ext (.tup es)) List.mem_cons_self
        subst eu
        show rExtT G.K (.ref b0) [.ref ct] H2 R
        obtain ⟨i, b, d, cs, oc, rfl, eb, hi, hcell, ⟨_, o, ho, okc⟩, q⟩ := hh2.cellS (List.mem_cons_of_mem _ List.mem_cons_self) q2
        cases eb
        cases oc with
        | lst ds =>
          obtain ⟨us, rfl, rr⟩ := okc
          obtain ⟨hz, q⟩ := q
          have hh4 := hh2.pop.cellW (oc := .lst (ds ++ es)) (o := .lst (us ++ zs)) hi (cellOf_key hcell) ⟨_, rfl, rr.append rt⟩
          exact ⟨b0, ct, us, zs, rfl, rfl, ho, TupD.same hh2.fh ht, by rw [← rr.length, ← rt.length]; exact hz, hR .non _ F2 _ (.ext .non) (hh4.pop.pushE rfl) q⟩
        | _ => exact q.elim
      | _ => exact q2.elim
    | _ => exact q2.elim⟩
end
theorem seq_setG (i : Nat) (t : DT) (u : DTS) (Ex : DX) (E : DEnds) (env : Env') : sSeq (sSetG i t) u Ex E env = sSetG i t Ex { E with nx := fun env1 => u Ex E env1 } env := rfl
theorem seq_setA (i : Nat) (t : DT) (u : DTS) (Ex : DX) (E : DEnds) (env : Env') : sSeq (sSetA i t) u Ex E env = sSetA i t Ex { E with nx := fun env1 => u Ex E env1 } env := rfl
theorem seq_attr (c f : Str) (fz : Bool) (t te : DT) (u : DTS) (Ex : DX) (E : DEnds) (env : Env') : sSeq (sAttr c f fz t te) u Ex E env = sAttr c f fz t te Ex { E with nx := fun env1 => u Ex E env1 } env := rfl
theorem seq_setR (fz : Bool) (t tI te : DT) (u : DTS) (Ex : DX) (E : DEnds) (env : Env') : sSeq (sSetR fz t tI te) u Ex E env = sSetR fz t tI te Ex { E with nx := fun env1 => u Ex E env1 } env := rfl
theorem seq_putR (fz : Bool) (t tI te : DT) (u : DTS) (Ex : DX) (E : DEnds) (env : Env') : sSeq (sPutR fz t tI te) u Ex E env = sPutR fz t tI te Ex { E with nx := fun env1 => u Ex E env1 } env := rfl
theorem seq_putTR (fz : Bool) (t tI te : DT) (u : DTS) (Ex : DX) (E : DEnds) (env : Env') : sSeq (sPutTR fz t tI te) u Ex E env = sPutTR fz t tI te Ex { E with nx := fun env1 => u Ex E env1 } env := rfl
end HD
namespace HD
open PySem L2
def RegS (o : Option Sl) (k : D → Cells → Prop) (_ : Tok k) : Prop := match o with
  | some (.reg d cs) => k d cs
  | _ => False
def CellS (o : Option OC) (k : OC → Prop) (_ : Tok k) : Prop := match o with
  | some oc => k oc
  | none => False
def RefS (o : Option Sl) (k1 : Addr → Prop) (k2 : Nat → Addr → Prop) (_ : Tok k1) (_ : Tok k2) : Prop := match o with
  | some (.reg d _) => ∃ q, rootOf d = some q ∧ k1 q
  | some (.ar j q) => k2 j q
  | _ => False
theorem RegS_reg (d : D) (cs : Cells) (k : D → Cells → Prop) (t : Tok k) : RegS (some (.reg d cs)) k t = k d cs := rfl
theorem CellS_some (oc : OC) (k : OC → Prop) (t : Tok k) : CellS (some oc) k t = k oc := rfl
theorem RefS_reg (a : Addr) (cs : Cells) (k1 : Addr → Prop) (k2 : Nat → Addr → Prop) (t : Tok k1) (u : Tok k2) : RefS (some (.reg (.val (.ref a)) cs)) k1 k2 t u = k1 a :=
  propext ⟨fun ⟨q, e, h⟩ => by cases e; exact h, fun h => ⟨a, rfl, h⟩⟩
theorem RefS_ar (j : Nat) (a : Addr) (k1 : Addr → Prop) (k2 : Nat → Addr → Prop) (t : Tok k1) (u : Tok k2) : RefS (some (.ar j a)) k1 k2 t u = k2 j a := rfl
theorem dVarR_w (i : Nat) (Ex : DX) (env : Env') (Q : Sl → Env' → Prop) : dVarR i Ex env Q = RefS env[i]? (fun q => Q (.ar i q) env) (fun j q => Q (.ar j q) env) .mk .mk := rfl
theorem cellS_ar (env : Env') (i : Nat) (b : Addr) (k : Nat → Addr → D → Cells → OC → Prop) : cellS env (.ar i b) k = RegS env[i]? (fun d cs => CellS (cellOf cs b) (fun oc => k i b d cs oc) .mk) .mk := by
  unfold RegS CellS cellS
  dsimp only <;> (rcases env[i]? with _ | s <;> first | rfl | (cases s <;> rfl))
theorem wd_ar (env : Env') (i : Nat) (b : Addr) (k : D → Prop) : wd env (.ar i b) k = RegS env[i]? (fun _ cs => CellS (cellOf cs b) (fun oc => lstO oc fun ds => k (.lst ds)) .mk) .mk := by
  unfold RegS CellS lstO wd
  dsimp only <;> (rcases env[i]? with _ | s <;> first | rfl | (cases s <;> first | rfl | (rename_i d cs; dsimp only <;> (rcases cellOf cs b with _ | oc <;> first | rfl | (cases oc <;> rfl)))))
theorem seqD_ar (env : Env') (i : Nat) (b : Addr) (q : List D → (Env' → Prop) → Prop) : seqD env (.ar i b) q = RegS env[i]? (fun _ cs => CellS (cellOf cs b) (fun oc => lstO oc fun ds => q ds (atC i b ds)) .mk) .mk := by
  unfold RegS CellS lstO seqD iterD
  dsimp only <;> (rcases env[i]? with _ | s <;> first | rfl | (cases s <;> first | rfl | (rename_i d cs; dsimp only <;> (rcases cellOf cs b with _ | oc <;> first | rfl | (cases oc <;> rfl)))))
theorem lstO_lst (ds : List D) (k : List D → Prop) : lstO (.lst ds) k = k ds := rfl
theorem insO_ins (c : Str) (dx : Addr) (fs : List (Str × D)) (k : Str → Addr → List (Str × D) → Prop) : insO (.ins c dx fs) k = k c dx fs := rfl
theorem dkO_dk (kvs : List (Key × D)) (k : List (Key × D) → Prop) : dkO (.dk kvs) k = k kvs := rfl
theorem dkO_lk (od : Obj) (vs : List (Key × V)) (kvs : List (Key × D)) (k : List (Key × D) → Prop) : dkO (.lkK od vs kvs) k = k kvs := rfl
theorem dtO_dt (kvs : List (List Int × D)) (k : List (List Int × D) → Prop) : dtO' (.dt kvs) k = k kvs := rfl
theorem dtO_lk (od : Obj) (kbs : List (List Int × Addr × V)) (kvs : List (List Int × D)) (k : List (List Int × D) → Prop) : dtO' (.lkT od kbs kvs) k = k kvs := rfl
theorem dkW_dk (kvs : List (Key × D)) (k : List (Key × D) → Prop) : dkW (.dk kvs) k = k kvs := rfl
theorem dtW_dt (kvs : List (List Int × D)) (k : List (List Int × D) → Prop) : dtW (.dt kvs) k = k kvs := rfl
theorem stoS_ext (fz : Bool) (env : Env') (d : D) (k : D → Cells → Env' → Prop) : stoS fz env (.ext d) k = k d [] env := rfl
theorem stoS_reg (fz : Bool) (env : Env') (d : D) (cs : Cells) (k : D → Cells → Env' → Prop) : stoS fz env (.reg d cs) k = k d cs env := rfl
theorem stoS_lstT (env : Env') (p : Addr) (ds : List D) (k : D → Cells → Env' → Prop) : stoS true env (.lst p ds) k = k (.lst ds) [] env := by
  simp [stoS]
theorem stoS_lstF (env : Env') (p : Addr) (ds : List D) (k : D → Cells → Env' → Prop) : stoS false env (.lst p ds) k = k (.val (.ref p)) [(p, .lst ds)] env := by
  simp [stoS]
theorem stoS_al (fz : Bool) (env : Env') (i : Nat) (a : Addr) (k : D → Cells → Env' → Prop) : stoS fz env (.al i a) k = AtL env[i]? fun b ds => b = a ∧ k (.lst ds) [] (env.set i (.ext (.lst ds))) := by
  simp only [AtL, ← AtL_eq] <;> rfl
theorem ptrD_ref (i : Nat) (q : Addr) : ptrD i (.val (.ref q)) = .ar i q := rfl
theorem ptrD_int (i : Nat) (n : Int) : ptrD i (.int n) = .ext (.int n) := rfl
theorem ptrD_str (i : Nat) (n : Str) : ptrD i (.str n) = .ext (.str n) := rfl
theorem ptrD_bl (i : Nat) (n : Bool) : ptrD i (.bl n) = .ext (.bl n) := rfl
theorem ptrD_non (i : Nat) : ptrD i .non = .ext .non := rfl
theorem ptrD_tup (i : Nat) (ds : List D) : ptrD i (.tup ds) = .ext (.tup ds) := rfl
theorem ptrD_tk (i : Nat) (ds : List D) : ptrD i (.tk ds) = .ext (.tk ds) := rfl
theorem ptrD_lst (i : Nat) (ds : List D) : ptrD i (.lst ds) = .ext (.lst ds) := rfl
theorem ptrD_fz (i : Nat) (ds : List D) : ptrD i (.fz ds) = .ext (.fz ds) := rfl
def setGS (i : Nat) (x : Sl) (env1 : Env') (k : Env' → Prop) : Prop := match x with
  | .lst a ds => k (env1.set i (.reg (.val (.ref a)) [(a, .lst ds)]))
  | .reg d cs => k (env1.set i (.reg d cs))
  | _ => False
theorem sSetG_w (i : Nat) (t : DT) (Ex : DX) (E : DEnds) (env : Env') : sSetG i t Ex E env = t Ex env fun x env1 => setGS i x env1 E.nx := rfl
theorem setGS_lst (i : Nat) (a : Addr) (ds : List D) (env1 : Env') (k : Env' → Prop) : setGS i (.lst a ds) env1 k = k (env1.set i (.reg (.val (.ref a)) [(a, .lst ds)])) := rfl
theorem setGS_reg (i : Nat) (d : D) (cs : Cells) (env1 : Env') (k : Env' → Prop) : setGS i (.reg d cs) env1 k = k (env1.set i (.reg d cs)) := rfl
def setAS (i : Nat) (x : Sl) (env1 : Env') (k : Env' → Prop) : Prop := match x with
  | .ar j b => k (env1.set i (.ar j b))
  | .ext d => k (env1.set i (.ext d))
  | _ => False
theorem sSetA_w (i : Nat) (t : DT) (Ex : DX) (E : DEnds) (env : Env') : sSetA i t Ex E env = t Ex env fun x env1 => setAS i x env1 E.nx := rfl
theorem setAS_ar (i j : Nat) (b : Addr) (env1 : Env') (k : Env' → Prop) : setAS i (.ar j b) env1 k = k (env1.set i (.ar j b)) := rfl
theorem setAS_ext (i : Nat) (d : D) (env1 : Env') (k : Env' → Prop) : setAS i (.ext d) env1 k = k (env1.set i (.ext d)) := rfl
def intS (y : Sl) (k : Int → Prop) : Prop := match y with
  | .ext (.int n) => k n
  | _ => False
theorem intS_int (n : Int) (k : Int → Prop) : intS (.ext (.int n)) k = k n := rfl
theorem dIxR_w (t te : DT) (Ex : DX) (env : Env') (Q : Sl → Env' → Prop) : dIxR t te Ex env Q = t Ex env fun x env1 => te Ex env1 fun y env2 => intS y fun n => cellS env2 x fun i _ _ _ oc => lstO oc fun ds => GetS (atI ds n) (fun d => Q (ptrD i d) env2) .mk := rfl
def tupS (y : Sl) (k : List D → Prop) : Prop := match y with
  | .ext (.tup es) => k es
  | _ => False
theorem tupS_tup (es : List D) (k : List D → Prop) : tupS (.ext (.tup es)) k = k es := rfl
theorem dExtTR_w (t te : DT) (Ex : DX) (env : Env') (Q : Sl → Env' → Prop) : dExtTR t te Ex env Q = t Ex env fun x env1 => cellS env1 x lstK ∧ te Ex env1 fun y env2 => tupS y fun es => cellS env2 x fun i b r cs oc => lstO oc fun ds => ds.length + es.length ≤ sizeLine ∧ Q (.ext .non) (env2.set i (.reg r (putC cs b (.lst (ds ++ es))))) := rfl
def lstS (d : D) (k : List D → Prop) : Prop := match d with
  | .lst es => k es
  | _ => False
theorem lstS_lst (es : List D) (k : List D → Prop) : lstS (.lst es) k = k es := rfl
theorem dExtR_w (t te : DT) (Ex : DX) (env : Env') (Q : Sl → Env' → Prop) : dExtR t te Ex env Q = t Ex env fun x env1 => cellS env1 x lstK ∧ te Ex env1 fun y env2 => wd env2 y fun d2 => lstS d2 fun es => cellS env2 x fun i b r cs oc => lstO oc fun ds => ds.length + es.length ≤ sizeLine ∧ Q (.ext .non) (env2.set i (.reg r (putC cs b (.lst (ds ++ es))))) := rfl
theorem dPopR_w (t : DT) (Ex : DX) (env : Env') (Q : Sl → Env' → Prop) : dPopR t Ex env Q = t Ex env fun x env1 => cellS env1 x fun i b r cs oc => lstO oc fun ds => GetS ds[ds.length - 1]? (fun d => Q (ptrD i d) (env1.set i (.reg r (putC cs b (.lst ds.dropLast))))) .mk := rfl
end HD
namespace HD
open PySem PyProof.Rows L2
open PySem.W (dataLt dataLe EachIs AllAlike Sortable list_sort_data sorted_data)
section
variable {prog : Program} {w : World} {A : Around} {E : Value → Shared → Prop} {s : Shared}
theorem sorted_dataT {β : Type} {R : Value → β → Prop} {enc : β → PyData} {vs : List Value} {bs : List β} {l : Addr} {Q : Value → Shared → Prop} (hl : IsTup s.heap l vs.toArray) (e : EachIs R vs bs) (er : EachIs (fun v b => ∃ as, Reads s.heap v (enc b) as) vs bs) (hal : AllAlike (bs.map enc)) (hk : Sortable (bs.map enc)) (hL : bs.length ≤ sizeLine)
    (hu : ∀ b, b ∈ bs → A.units + 3 + (enc b).depth < cLine)
    (h : ∀ out, out.length = bs.length → EachIs R out (bs.mergeSort (dataLe false enc)) → Q (.ref (s.heap.objs.size + 1)) { s with heap := sortedAll s.heap vs (List.toArray out) }) :
    wpAny (model prog w) A (call (.builtin "sorted") [.ref l]) Q E s := by
  have hz : vs.length ≤ sizeLine := by rw [e.length]; exact hL
  refine Calls.call_function_entry kind_sorted plain_sorted entry_sorted (args_sorted1 _) ?_
  unfold Builtin.«sorted»
  refine wpAny_bind (m := checkCount "sorted" 1 1 _) (wpAny_pure ?_)
  refine wpAny_bind (collect_tup hl ?_ hz)
  refine wpAny_bind (wpAny_newList ?_ hz)
  have hsz : ((s.heap.push (seqObj "list" #[] 0)).update s.heap.objs.size (Obj.mapSeq (· ++ vs.toArray))).objs.size = s.heap.objs.size + 1 := by
    rw [Heap.size_update, size_push']
  have hoL : (((s.heap.push (seqObj "list" #[] 0)).update s.heap.objs.size (Obj.mapSeq (· ++ vs.toArray))).push (seqObj "list" vs.toArray 0)).get? (s.heap.objs.size + 1) = some (seqObj "list" vs.toArray 0) := by
    rw [← hsz]; exact Heap.get?_push_size _ rfl
  have keep : ∀ b o, s.heap.get? b = some o → b ≠ s.heap.objs.size + 1 ∧ (((s.heap.push (seqObj "list" #[] 0)).update s.heap.objs.size (Obj.mapSeq (· ++ vs.toArray))).push (seqObj "list" vs.toArray 0)).get? b = some o := fun b o q => by
    have hlt : b < s.heap.objs.size := Heap.lt_size q
    refine ⟨Nat.ne_of_lt (Nat.lt_succ_of_lt hlt), Heap.get?_push_of_some _ ?_⟩
    rw [Heap.get?_update_ne _ _ _ _ (Nat.ne_of_lt hlt)]
    exact Heap.get?_push_of_some _ q
  show wpAny _ _ _ _ _ { s with heap := ((s.heap.push (seqObj "list" #[] 0)).update s.heap.objs.size (Obj.mapSeq (· ++ vs.toArray))).push (seqObj "list" vs.toArray 0) }
  rw [hsz]
  refine wpAny_bind (wpAny_holding (list_sort_data (R := R) (enc := enc) (bs := bs) hoL e (er.mono fun v b r' => r'.elim fun as r => ⟨as, PyProof.Rows.Reads.keeps (fun b o q => (keep b o q).2) r, fun ha => (PyProof.On.reads_mem_get r _ ha).elim fun o ho => (keep _ o ho).1 rfl⟩) hal hk hL (fun b hb => ?_) fun out hlen he => ?_))
  · have := hu b hb
    show A.units + 1 + 1 + (enc b).depth < cLine
    omega
  · exact wpAny_pure ⟨_, rfl, h out hlen he⟩
end
def rSortD (K : PySem.W.Frag) : List V → Hp → VK → Prop := fun vs H Q => ∃ (a : Addr) (us : List V) (ds : List D), vs = [V.ref a] ∧ (SqL K H a us ∨ SqT K H a us) ∧ DpAll K H us (D.pys ds) ∧
  (∀ d ∈ ds, ∃ x r, d.py = .tuple (x :: r)) ∧ AllAlike (D.pys ds) ∧ (∀ d ∈ ds, d.py.depth ≤ 50) ∧
  ∀ (zs : List (V × D)) (p : Addr), zs.Perm (us.zip ds) → zs.Pairwise (fun a b => dataLt b.2.py a.2.py = false) → H p = none → Q (.ref p) (upd H p (.lst (zs.map (·.1))))
theorem zip_each {X : Cx} {pins : List (Addr × Obj)} {σ : L2.St} {H : Hp} {s : Shared} (I : Inv X pins σ H s) : ∀ {us : List V} {ds : List D} {its : List Value}, Vals us its → DpAll X.K H us (D.pys ds) →
    EachIs (fun v (b : V × D) => RelV b.1 v) its (us.zip ds) ∧ EachIs (fun v (b : V × D) => ∃ as, Reads s.heap v b.2.py as) its (us.zip ds) ∧ (us.zip ds).map (fun b => b.2.py) = D.pys ds ∧ us.length = ds.length
  | _, [], _, .nil, .nil => ⟨.nil, .nil, rfl, rfl⟩
  | u :: us, d :: ds, i :: its, .cons r rs, .cons h hs => by
    obtain ⟨z1, z2, z3, z4⟩ := zip_each I (ds := ds) rs hs
    refine ⟨.cons r z1, .cons (Dp.reads I _ _ _ h r) z2, ?_, by simp [z4]⟩
    exact congrArg (d.py :: ·) z3
theorem each_vals {out : List Value} {zs : List (V × D)} (h : EachIs (fun v (b : V × D) => RelV b.1 v) out zs) : Vals (zs.map (·.1)) out := by
  induction h with
  | nil => exact .nil
  | cons a _ ih => exact .cons a ih
theorem pys_mem' {ds : List D} {x : PyData} (h : x ∈ D.pys ds) : ∃ d ∈ ds, d.py = x := by
  induction ds with
  | nil => cases h
  | cons d ds ih =>
    rcases List.mem_cons.1 h with rfl | h
    · exact ⟨d, List.mem_cons_self, rfl⟩
    · obtain ⟨e, he, q⟩ := ih h
      exact ⟨e, List.mem_cons_of_mem _ he, q⟩
theorem cr_sortD {X : Cx} (hu : X.A.units + 64 < cLine) : CallR X (.builtin "sorted") (rSortD X.K) := by
  intro pins s σ H vs us Q I r h
  obtain ⟨a, ys, ds, rfl, hs, hd, hc, hal, hdp, q⟩ := h
  rw [Vals.ref1 r]
  have main : ∀ its : List Value, Vals ys its → its.length ≤ sizeLine → ∀ out, EachIs (fun v (b : V × D) => RelV b.1 v) out ((ys.zip ds).mergeSort (dataLe false fun b => b.2.py)) →
      ∃ (v : V) (H' : Hp), Inv X pins σ H' { s with heap := sortedAll s.heap its out.toArray } ∧ RelV v (.ref (s.heap.objs.size + 1)) ∧ Q v H' := fun its rv hz out he => by
    obtain ⟨ep, he'⟩ := PyProof.Rows.sortedAll_at s.heap its out.toArray
    obtain ⟨z1, z2, z3, z4⟩ := zip_each I (ds := ds) rv hd
    have hpm := List.mergeSort_perm (ys.zip ds) (dataLe false fun b => b.2.py)
    have hlen : (((ys.zip ds).mergeSort (dataLe false fun b => b.2.py)).map (·.1)).length ≤ sizeLine := by
      rw [List.length_map, hpm.length_eq, ← z1.length]; exact hz
    refine ⟨.ref _, upd H (s.heap.objs.size + 1) (.lst (((ys.zip ds).mergeSort (dataLe false fun b => b.2.py)).map (·.1))), I.laid (t' := s.toks) (fun _ _ => PyProof.Rows.sortedAll_old) (Nat.le_succ _) ⟨hlen, out, ep, each_vals he, he'⟩, rfl, q _ _ hpm ?_ (I.hok.fresh (Nat.le_succ _))⟩
    have := List.pairwise_mergeSort (le := dataLe false fun b : V × D => b.2.py) (fun a b c => (PySem.W.sortLe_total _ _ _).trans a b c) (fun a b => Bool.or_eq_true_iff.2 ((PySem.W.sortLe_total _ _ _).total a b)) (ys.zip ds)
    refine this.imp fun {a b} hab => ?_
    have hab' : (!dataLt b.2.py a.2.py) = true := hab
    simpa using hab'
  have hsrt : ∀ its : List Value, Vals ys its → Sortable ((ys.zip ds).map fun b => b.2.py) ∧ AllAlike ((ys.zip ds).map fun b => b.2.py) ∧ ∀ b ∈ ys.zip ds, b.2.py.depth ≤ 50 := fun its rv => by
    obtain ⟨_, _, z3, _⟩ := zip_each I (ds := ds) rv hd
    rw [z3]
    refine ⟨.inl fun d h => ?_, hal, fun b hb => hdp _ (List.of_mem_zip hb).2⟩
    obtain ⟨e, he, rfl⟩ := pys_mem' h
    exact hc e he
  rcases hs with hs | hs
  · obtain ⟨its, rv, hl, hz⟩ := I.list hs
    obtain ⟨z1, z2, z3, z4⟩ := zip_each I (ds := ds) rv hd
    obtain ⟨s1, s2, s3⟩ := hsrt its rv
    have hz' : its.length ≤ sizeLine := by rw [← rv.length]; exact hz
    refine sorted_data hl.isList z1 z2 s2 s1 (by rw [← z1.length]; exact hz') (fun b hb => ?_) fun out _ he => main its rv hz' out he
    have := s3 b hb
    omega
  · obtain ⟨its, rv, hl, hz⟩ := I.tuple hs
    obtain ⟨z1, z2, z3, z4⟩ := zip_each I (ds := ds) rv hd
    obtain ⟨s1, s2, s3⟩ := hsrt its rv
    have hz' : its.length ≤ sizeLine := by rw [← rv.length]; exact hz
    refine sorted_dataT hl z1 z2 s2 s1 (by rw [← z1.length]; exact hz') (fun b hb => ?_) fun out _ he => main its rv hz' out he
    have := s3 b hb
    omega
def SrtD (ds : List D) : Prop := D.noVals ds = true ∧ (∀ d ∈ ds, ∃ x r, d.py = .tuple (x :: r)) ∧ AllAlike (D.pys ds) ∧ ∀ d ∈ ds, d.py.depth ≤ 50
def fSortD : List D → (Sl → Prop) → Prop
  | [.lst ds], Q => SrtD ds ∧ ∀ (ds' : List D) (a : Addr), ds'.Perm ds → ds'.Pairwise (fun x y => dataLt y.py x.py = false) → Q (.lst a ds')
  | [.tup ds], Q => SrtD ds ∧ ∀ (ds' : List D) (a : Addr), ds'.Perm ds → ds'.Pairwise (fun x y => dataLt y.py x.py = false) → Q (.lst a ds')
  | _, _ => False
theorem reps_dpall {K : PySem.W.Frag} {H : Hp} : ∀ {ds : List D} {vs : List V}, D.noVals ds = true → Reps K H ds vs → DpAll K H vs (D.pys ds)
  | [], vs, _, h => by
    have e : vs = [] := h
    subst e
    exact .nil
  | d :: ds, vs, hn, h => by
    obtain ⟨v, r, rfl, h1, h2⟩ := h
    have hn' : (d.noVal && D.noVals ds) = true := hn
    rw [Bool.and_eq_true] at hn'
    exact .cons (Rep.dp hn'.1 h1) (reps_dpall hn'.2 h2)
theorem reps_zip {K : PySem.W.Frag} {F : Hp} : ∀ {ds : List D} {vs : List V}, Reps K F ds vs → (vs.zip ds).map (·.2) = ds ∧ ∀ b ∈ vs.zip ds, Rep K F b.2 b.1
  | [], vs, h => by
    have e : vs = [] := h
    subst e
    exact ⟨rfl, fun b hb => nomatch hb⟩
  | d :: ds, vs, h => by
    obtain ⟨v, r, rfl, h1, h2⟩ := h
    obtain ⟨i1, i2⟩ := reps_zip h2
    refine ⟨congrArg (d :: ·) i1, fun b hb => ?_⟩
    rcases List.mem_cons.1 hb with rfl | hb
    · exact h1
    · exact i2 b hb
theorem reps_of_zip {K : PySem.W.Frag} {F : Hp} : ∀ {zs : List (V × D)}, (∀ b ∈ zs, Rep K F b.2 b.1) → Reps K F (zs.map (·.2)) (zs.map (·.1))
  | [], _ => rfl
  | b :: zs, h => .cons (h b List.mem_cons_self) (reps_of_zip fun c hc => h c (List.mem_cons_of_mem _ hc))
theorem b_sortD : BR "sorted" fSortD := ⟨fun _ _ K => rSortD K, fun _ _ K F H vs ds Q R fh hr hf ha => by
    unfold fSortD at hf
    have main : ∀ (es : List D) (us : List V) (b : Addr), Reps K F es us → (SqL K H b us ∨ SqT K H b us) → SrtD es → (∀ (ds' : List D) (a : Addr), ds'.Perm es → ds'.Pairwise (fun x y => dataLt y.py x.py = false) → Q (.lst a ds')) → rSortD K [V.ref b] H R := fun es us b hr hs ⟨n1, n2, n3, n4⟩ q => by
      refine ⟨b, us, es, rfl, hs, ?_, n2, n3, n4, fun zs p hpm hsr hp => ?_⟩
      · exact reps_dpall n1 (hr.same fh)
      · obtain ⟨y1, y2⟩ := reps_zip hr
        have := ha.lst fh hp (reps_of_zip fun b hb => y2 b (hpm.mem_iff.1 hb)) (q (zs.map (·.2)) p (by
          have := hpm.map (·.2)
          rw [y1] at this
          exact this) (by rw [List.pairwise_map]; exact hsr))
        exact this
    split at hf
    · obtain ⟨v, rfl, r⟩ := hr.one
      obtain ⟨n, q⟩ := hf
      obtain ⟨a, vs, rfl, e1, r1⟩ := r.lst fh
      exact main _ _ _ r1 (.inl (SqL.of e1)) n q
    · obtain ⟨v, rfl, r⟩ := hr.one
      obtain ⟨n, q⟩ := hf
      obtain ⟨a, vs, rfl, e1, _, r1⟩ := r.tup fh
      exact main _ _ _ r1 (.inr e1) n q
    · exact hf.elim, fun X _ hu => cr_sortD hu⟩
end HD
namespace HD
open PySem PyProof.Rows L2
def deepD (cs : Cells) : Nat → D → D
  | 0, d => d
  | n + 1, .val (.ref b) => match cellOf cs b with
    | some (.lst ds) => .lst (ds.map (deepD cs n))
    | _ => .val (.ref b)
  | n + 1, .lst ds => .lst (ds.map (deepD cs n))
  | n + 1, .tup ds => .tup (ds.map (deepD cs n))
  | _ + 1, d => d
def regC (env : Env') (i : Nat) (k : Cells → Prop) : Prop := match env[i]? with
  | some (.reg _ cs) => k cs
  | _ => False
def dCallD (i n : Nat) (spec : DSpec) (ta : DTA) : DT := fun Ex env Q => ta Ex env fun xs env1 => wds env1 xs fun ds => regC env1 i fun cs =>
  spec ((ds.map (deepD cs n)).map .ext) (fun r _ => r.imm = true ∧ r.plain ∧ Q r env1) (fun c _ => Ex c env1)
theorem regC_reg (env : Env') (i : Nat) (k : Cells → Prop) : regC env i k = RegS env[i]? (fun _ cs => k cs) .mk := by
  first | rfl | (unfold regC RegS <;> rfl)
theorem dMoveR_w (i : Nat) (Ex : DX) (env : Env') (Q : Sl → Env' → Prop) : dMoveR i Ex env Q = RegS env[i]? (fun d cs => Q (.reg d cs) (env.set i .un)) .mk := by
  first | rfl | (unfold dMoveR RegS <;> rfl)
theorem froz_lst (env : Env') (a : Addr) (ds : List D) (q : D → Prop) : froz env (.lst a ds) q = q (.lst ds) := rfl
theorem froz_ext (env : Env') (d : D) (q : D → Prop) : froz env (.ext d) q = q d := rfl
def dMoveL (i : Nat) : DT := fun _ env Q => AtL env[i]? fun a ds => Q (.lst a ds) (env.set i .un)
section
variable {G : GG} {N : List Str} {sc : SC} {k : Nat} {a b : Expr} {ta tb : DT} {p p2 pos pos2 apos cpos : Pos}
def dDictP (ta : DT) : DT := fun Ex env Q => ta Ex env fun x env1 => froz env1 x fun d => match d with
  | .lst xs => ∃ kvs : List (List Int × D), xs = kvs.map (fun p => D.tup [kT p.1, p.2]) ∧ (kvs.map (·.1)).Nodup ∧ ∀ a, Q (dtS a kvs) env1
  | _ => False
end
def upK (kvs more : List (List Int × D)) : List (List Int × D) := more.foldl (fun acc p => ptK acc p.1 p.2) kvs
section
variable {G : GG} {N : List Str} {sc : SC} {k : Nat} {a b : Expr} {ta tb : DT} {apos cpos : Pos}
def dUpdTR (t te : DT) : DT := fun Ex env Q => t Ex env fun x env1 => cellS env1 x dtK ∧ te Ex env1 fun y env2 => cellS env2 x fun i b r cs oc => dtW oc fun kvs => ∃ b2 more, y = dtS b2 more ∧ (kvs ≠ [] ∨ (more.map fun p => hT p.1).Nodup) ∧ kvs.length + more.length ≤ sizeLine ∧
  Q (.ext .non) (env2.set i (.reg r (putC cs b (.dt (upK kvs more)))))
end
end HD
namespace HD
open PySem PyProof.Rows L2
def mgK (kvs more : List (Key × D)) : List (Key × D) := more.foldl (fun acc p => ptK acc p.1 p.2) kvs
section
variable {G : GG} {N : List Str} {sc : SC} {k : Nat} {a b : Expr} {ta tb : DT} {apos cpos : Pos}
def dUpdKR (t te : DT) : DT := fun Ex env Q => t Ex env fun x env1 => cellS env1 x dkK ∧ te Ex env1 fun y env2 => cellS env2 x fun i b r cs oc => dkW oc fun kvs => ∃ b2 more, y = .reg (.val (.ref b2)) [(b2, .dk more)] ∧ kvs.length + more.length ≤ sizeLine ∧
  Q (.ext .non) (env2.set i (.reg r (putC cs b (.dk (mgK kvs more)))))
end
section
variable {G : GG} {N : List Str} {sc : SC} {k : Nat} {a b : Expr} {ta tb : DT} {p p2 pos pos2 : Pos}
def dDictZipK (ta tb : DT) : DT := fun Ex env Q => ta Ex env fun x env1 => tb Ex env1 fun y env2 => seqD env2 x fun xs _ => seqD env2 y fun ys _ => ∃ kvs : List (Key × D), xs = kvs.map (fun p => kD p.1) ∧ ys = kvs.map (·.2) ∧ ∀ a, Q (dkS a (mgK [] kvs)) env2
end
section
variable {G : GG} {N : List Str} {sc : SC} {k : Nat} {a : Expr} {ta : DT} {p pos : Pos}
def dDictC (ta : DT) : DT := fun Ex env Q => ta Ex env fun x env1 => cellS env1 x fun _ _ _ _ oc => dkO oc fun kvs => ∀ a, Q (dkS a kvs) env1
end
end HD
namespace HD
open PySem PyProof.Rows L2
section
variable {G : GG} {N : List Str} {sc : SC} {k : Nat} {x : Str} {py apos cpos : Pos}
def dClear (i : Nat) : DT := fun _ env Q => AtL env[i]? fun a _ => mutD env i a (fun _ q => q .non []) Q
end
end HD
namespace HD
open PySem PySem.Spec PyProof.Rows L2
section
variable {G : GG} {N : List Str} {sc : SC} {k : Nat} {a : Expr} {ta : DT} {p apos cpos pos : Pos}
def dListItems (ta : DT) : DT := fun Ex env Q => ta Ex env fun x env1 => ∃ b kvs, x = dkS b kvs ∧ ∀ a, Q (.lst a (kvs.map fun q => D.tup [kD q.1, q.2])) env1
end
end HD
namespace HD
open PySem PySem.Spec PyProof.Rows L2
section
variable {G : GG} {N : List Str} {sc : SC} {k : Nat} {a : Expr} {ta : DT} {p pos : Pos}
def dLenK (ta : DT) : DT := fun Ex env Q => ta Ex env fun x env1 => cellS env1 x fun _ _ _ _ oc => dkO oc fun kvs => Q (.ext (.int kvs.length)) env1
def dSortKI (ta : DT) : DT := fun Ex env Q => ta Ex env fun x env1 => cellS env1 x fun _ _ _ _ oc => dkO oc fun kvs => ∃ ks : List Int, kvs.map (·.1) = ks.map Sum.inl ∧ ks.length < 64 ∧ ∀ (ys : List Int) (b : Addr), ys.Perm ks → ys.Pairwise (· ≤ ·) → Q (.lst b (ys.map D.int)) env1
end
end HD
namespace HD
open PySem PySem.Spec PyProof.Rows L2
section
variable {G : GG} {N : List Str} {sc : SC} {k : Nat} {a : Expr} {ta : DT} {p pos : Pos} {y : Str} {cs : List Str}
def dInC (neg : Bool) (cs : List Str) (ta : DT) : DT := fun Ex env Q => ta Ex env fun x env1 => wd env1 x fun d => match d with
  | .str z => Q (.ext (.bl (if neg then !decide (z ∈ cs) else decide (z ∈ cs)))) env1
  | _ => False
end
end HD
namespace HD
open PySem PySem.Spec PySem.Calls PyProof.Rows L2
def fMinT : List D → (Sl → Prop) → Prop
  | [.tup ds], Q => ∃ ns : List Int, ds = ns.map D.int ∧ ns ≠ [] ∧ ∀ m, m ∈ ns → (∀ y, y ∈ ns → m ≤ y) → Q (.ext (.int m))
  | _, _ => False
def fMaxT : List D → (Sl → Prop) → Prop
  | [.tup ds], Q => ∃ ns : List Int, ds = ns.map D.int ∧ ns ≠ [] ∧ ∀ m, m ∈ ns → (∀ y, y ∈ ns → y ≤ m) → Q (.ext (.int m))
  | _, _ => False
end HD
namespace HD
open PySem PySem.Spec PyProof.Rows L2
section
variable {G : GG} {N : List Str} {sc : SC} {k : Nat} {a : Expr} {ta : DT} {p pos : Pos}
def dListKT (ta : DT) : DT := fun Ex env Q => ta Ex env fun x env1 => cellS env1 x fun _ _ _ _ oc => dtO' oc fun kvs => ∀ a, Q (.lst a (kvs.map fun q => kT q.1)) env1
end
end HD
namespace HD
open PySem PySem.Spec PyProof.Rows L2
def dispF : List (Str × Bool × DT) → Addr → List (Key × D) → Cells → DX → Env' → (Sl → Env' → Prop) → Prop
  | [], p, kvs, cs, _, env, Q => Q (.reg (.val (.ref p)) ((p, .dk (mgK [] kvs)) :: cs)) env
  | q :: r, p, kvs, cs, Ex, env, Q => q.2.2 Ex env fun x env1 => stoS q.2.1 env1 x fun d2 cs2 env2 => (∀ a ∈ p :: cs.map (·.1), a ∉ cs2.map (·.1)) → dispF r p (kvs ++ [(.inr q.1, d2)]) (cs ++ cs2) Ex env2 Q
def dDisp (prs : List (Str × Bool × DT)) : DT := fun Ex env Q => ∀ p, dispF prs p [] [] Ex env Q
end HD
namespace LS.V2.Y5.K75.E
open PySem L2 HD
def topS (i : Nat) : Stmt := PySem.Challenge.pw_sumorder_k75_trees_refused.main.body.getD i (.Pass ⟨0, 0, 0, 0⟩)
abbrev s_is_whole : Stmt := topS 6
abbrev s_near_of : Stmt := topS 42
abbrev s_bag_of : Stmt := topS 47
abbrev s_law_gprime : Stmt := topS 53
abbrev s_law_gfillings : Stmt := topS 59
abbrev s_law_gbags : Stmt := topS 66
abbrev s_law_gone_bag : Stmt := topS 67
abbrev s_law_gkind : Stmt := topS 69
abbrev s_are_names : Stmt := topS 25
abbrev s_is_tie : Stmt := topS 41
abbrev s_hanging : Stmt := topS 43
abbrev s_law_gfresh : Stmt := topS 54
abbrev s_are_bags : Stmt := topS 40
abbrev s_is_tree : Stmt := topS 44
abbrev s_law_gdraw : Stmt := topS 55
abbrev s_is_bag_tree : Stmt := topS 45
abbrev s_law_gword : Stmt := topS 61
abbrev s_law_gworths : Stmt := topS 62
abbrev s_law_gorder : Stmt := topS 65
abbrev s_law_gno_trees : Stmt := topS 71
abbrev s_Keeper_init : Stmt := inClass (topS 51) 0
abbrev s_law_gparts : Stmt := topS 63
abbrev s_law_gtree : Stmt := topS 68
abbrev s_law_gsheet : Stmt := topS 64
abbrev s_law_gmade : Stmt := topS 70
abbrev s_law : Stmt := topS 72
def y_is_whole : He.DefD := ⟨("is_whole", none), "is_whole", "is_whole", defArgs s_is_whole, defBody s_is_whole, defScope s_is_whole, [], []⟩
def y_near_of : He.DefD := ⟨("near_of", none), "near_of", "near_of", defArgs s_near_of, defBody s_near_of, defScope s_near_of, [], []⟩
def y_bag_of : He.DefD := ⟨("bag_of", none), "bag_of", "bag_of", defArgs s_bag_of, defBody s_bag_of, defScope s_bag_of, [], []⟩
def y_law_gprime : He.DefD := ⟨("_law_gprime", none), "_law_gprime", "_law_gprime", defArgs s_law_gprime, defBody s_law_gprime, defScope s_law_gprime, [], []⟩
def y_law_gfillings : He.DefD := ⟨("_law_gfillings", none), "_law_gfillings", "_law_gfillings", defArgs s_law_gfillings, defBody s_law_gfillings, defScope s_law_gfillings, [], []⟩
def y_law_gbags : He.DefD := ⟨("_law_gbags", none), "_law_gbags", "_law_gbags", defArgs s_law_gbags, defBody s_law_gbags, defScope s_law_gbags, [], []⟩
def y_law_gone_bag : He.DefD := ⟨("_law_gone_bag", none), "_law_gone_bag", "_law_gone_bag", defArgs s_law_gone_bag, defBody s_law_gone_bag, defScope s_law_gone_bag, [], []⟩
def y_law_gkind : He.DefD := ⟨("_law_gkind", none), "_law_gkind", "_law_gkind", defArgs s_law_gkind, defBody s_law_gkind, defScope s_law_gkind, [], []⟩
def y_are_names : He.DefD := ⟨("are_names", none), "are_names", "are_names", defArgs s_are_names, defBody s_are_names, defScope s_are_names, [], []⟩
def y_is_tie : He.DefD := ⟨("is_tie", none), "is_tie", "is_tie", defArgs s_is_tie, defBody s_is_tie, defScope s_is_tie, [], []⟩
def y_hanging : He.DefD := ⟨("hanging", none), "hanging", "hanging", defArgs s_hanging, defBody s_hanging, defScope s_hanging, [], []⟩
def y_law_gfresh : He.DefD := ⟨("_law_gfresh", none), "_law_gfresh", "_law_gfresh", defArgs s_law_gfresh, defBody s_law_gfresh, defScope s_law_gfresh, [], []⟩
def y_are_bags : He.DefD := ⟨("are_bags", none), "are_bags", "are_bags", defArgs s_are_bags, defBody s_are_bags, defScope s_are_bags, [], []⟩
def y_is_tree : He.DefD := ⟨("is_tree", none), "is_tree", "is_tree", defArgs s_is_tree, defBody s_is_tree, defScope s_is_tree, [], []⟩
def y_law_gdraw : He.DefD := ⟨("_law_gdraw", none), "_law_gdraw", "_law_gdraw", defArgs s_law_gdraw, defBody s_law_gdraw, defScope s_law_gdraw, [], []⟩
def y_is_bag_tree : He.DefD := ⟨("is_bag_tree", none), "is_bag_tree", "is_bag_tree", defArgs s_is_bag_tree, defBody s_is_bag_tree, defScope s_is_bag_tree, [], []⟩
def y_law_gword : He.DefD := ⟨("_law_gword", none), "_law_gword", "_law_gword", defArgs s_law_gword, defBody s_law_gword, defScope s_law_gword, [], []⟩
def y_law_gworths : He.DefD := ⟨("_law_gworths", none), "_law_gworths", "_law_gworths", defArgs s_law_gworths, defBody s_law_gworths, defScope s_law_gworths, [], []⟩
def y_law_gorder : He.DefD := ⟨("_law_gorder", none), "_law_gorder", "_law_gorder", defArgs s_law_gorder, defBody s_law_gorder, defScope s_law_gorder, [], []⟩
def y_law_gno_trees : He.DefD := ⟨("_law_gno_trees", none), "_law_gno_trees", "_law_gno_trees", defArgs s_law_gno_trees, defBody s_law_gno_trees, defScope s_law_gno_trees, [], []⟩
def y_Keeper_init : He.DefD := ⟨("Keeper", some "__init__"), "__init__", "Keeper.__init__", defArgs s_Keeper_init, defBody s_Keeper_init, defScope s_Keeper_init, [], []⟩
def y_law_gparts : He.DefD := ⟨("_law_gparts", none), "_law_gparts", "_law_gparts", defArgs s_law_gparts, defBody s_law_gparts, defScope s_law_gparts, [], []⟩
def y_law_gtree : He.DefD := ⟨("_law_gtree", none), "_law_gtree", "_law_gtree", defArgs s_law_gtree, defBody s_law_gtree, defScope s_law_gtree, [], []⟩
def y_law_gsheet : He.DefD := ⟨("_law_gsheet", none), "_law_gsheet", "_law_gsheet", defArgs s_law_gsheet, defBody s_law_gsheet, defScope s_law_gsheet, [], []⟩
def y_law_gmade : He.DefD := ⟨("_law_gmade", none), "_law_gmade", "_law_gmade", defArgs s_law_gmade, defBody s_law_gmade, defScope s_law_gmade, [], []⟩
def y_law : He.DefD := ⟨("law", none), "law", "law", defArgs s_law, defBody s_law, defScope s_law, [], []⟩
def fn0 : List He.DefD := [y_is_whole, y_near_of, y_bag_of, y_law_gprime, y_law_gfillings, y_law_gbags, y_law_gone_bag]
def fn1 : List He.DefD := [y_law_gkind, y_are_names, y_is_tie, y_hanging, y_law_gfresh, y_are_bags, y_is_tree]
def fn2 : List He.DefD := [y_law_gdraw, y_is_bag_tree, y_law_gword, y_law_gworths, y_law_gorder, y_law_gno_trees, y_Keeper_init]
def fn3 : List He.DefD := [y_law_gparts, y_law_gtree, y_law_gsheet, y_law_gmade, y_law]
def fnA : List He.DefD := fn0 ++ fn1
def fnB : List He.DefD := fn2 ++ fn3
def fn : List He.DefD := fnA ++ fnB
def fa0 : List He.Fa := [.glo "is_whole", .glo "near_of", .glo "bag_of", .glo "_law_gprime", .glo "_law_gfillings", .glo "_law_gbags", .glo "_law_gone_bag", .glo "_law_gkind", .glo "are_names", .glo "is_tie", .glo "hanging", .glo "_law_gfresh", .glo "are_bags", .glo "is_tree", .glo "_law_gdraw", .glo "is_bag_tree", .glo "_law_gword", .glo "_law_gworths", .glo "_law_gorder"]
def fa1 : List He.Fa := [.glo "_law_gno_trees", .mkr "Keeper", .glo "_law_gparts", .glo "_law_gtree", .glo "_law_gsheet", .glo "_law_gmade", .glo "law", .free "len", .free "range", .free "sorted", .free "set", .free "tuple", .free "list", .free "dict", .free "zip", .free "enumerate", .free "all", .free "any", .free "sum"]
def fa2 : List He.Fa := [.free "min", .free "max", .free "isinstance", .free "str", .free "int", .free "repr", .free "bool", .glo "Keeper", .cls "Keeper", .noat "Keeper" "bags", .noat "Keeper" "changes", .noat "Keeper" "known", .noat "Keeper" "laid", .noat "Keeper" "many", .noat "Keeper" "near", .noat "Keeper" "parts", .noat "Keeper" "sizes", .noat "Keeper" "word", .noat "Keeper" "worths"]
def fa3 : List He.Fa := [.glo "NoTree", .exc "NoTree", .glo "NoBack", .glo "NoBag", .glo "NoDeeds", .glo "NoFilling", .glo "NoName", .glo "NoNumber", .glo "NoOffers", .glo "NoPart", .glo "NoRow", .glo "NoText", .glo "NoTree", .glo "NoWeights", .glo "NoWorths", .glo "SumError", .glo "TooMany", .free "ValueError", .int "MOST_BAGS" 12]
def faA : List He.Fa := fa0 ++ fa1
def faB : List He.Fa := fa2 ++ fa3
def fa : List He.Fa := faA ++ faB
def nm0 : List PySem.Str := ["_wall", "ROOF", "unit", "join", "gather", "is_whole", "fillings_of", "SumError", "NoFilling", "NoName", "TooMany", "NoDeeds", "NoOffers", "NoTree", "NoBag", "NoPart", "NoWorths", "NoBack", "NoWeights", "NoNumber", "NoRow", "NoText", "are_names", "need_names", "place_of", "worth_by", "joined", "need_name", "without", "gathered"]
def nm1 : List PySem.Str := ["settled", "widened", "all_joined", "MOST_BAGS", "are_bags", "is_tie", "near_of", "hanging", "is_tree", "is_bag_tree", "bag_of", "left_for", "side_of", "Keeper", "_law_gprime", "_law_gfresh", "_law_gdraw", "_law_gunit", "_law_gjoin", "_law_ggather", "_law_gfillings", "_law_gat", "_law_gword", "_law_gworths", "_law_gparts", "_law_gsheet", "_law_gorder", "_law_gbags", "_law_gone_bag", "_law_gtree"]
def nm2 : List PySem.Str := ["_law_gkind", "_law_gmade", "_law_gno_trees"]
def nm : List PySem.Str := nm0 ++ nm1 ++ nm2
abbrev R : PySem.W.OpenRow := PySem.W.OpenLaw.row PySem.Challenge.rw_sumorder_k75_trees_refused
def ex : PySem.W.Frag → Bool := xsB ["NoTree"]
abbrev hk : PySem.W.Hook := hookE 4 fa fn ex
def ob (s : PySem.W.SharedT) : He.AlD × Bool := obsE 4 fa fn ex (HandSHeadRun.getT s)
theorem obE (s : PySem.W.SharedT) : ob s = hk.obs s.abs := obsE_eq (HandSHeadRun.getT_eq s)
section
open PySem PySem.W PySem.Calls PyProof.Rows HandSHeadRun
theorem top0 (w : World) : ∀ os : PySem.OsState, (HandSHeadRun.endF (HandSHeadRun.stepQ (HandSHeadRun.denQ HandSHeadRun.tabQ) R.prog w) 8000 R.prog w os).map (fun s => (looksF R.prog (boot_heap w.params) s.abs, seenQ (view R.prog [72]) nm (importedModules R.prog.main.body) (fun s => xlAt (view R.prog [72]) [] s && recOk R.toRowW.records s) s.abs)) = some (true, openGood (view R.prog [72]) nm) := by
  intro os; kernel_rfl
theorem top1 (w : World) : ∀ os : PySem.OsState, (HandSHeadRun.endF (HandSHeadRun.stepQ (HandSHeadRun.denQ HandSHeadRun.tabQ) R.prog w) 8000 R.prog w os).map (fun s => obsE 4 faA fnA (fun _ => true) (HandSHeadRun.getT s)) = some (He.valD fnA, true) := by
  intro os; kernel_rfl
theorem top2 (w : World) : ∀ os : PySem.OsState, (HandSHeadRun.endF (HandSHeadRun.stepQ (HandSHeadRun.denQ HandSHeadRun.tabQ) R.prog w) 8000 R.prog w os).map (fun s => obsE 4 faB fnB ex (HandSHeadRun.getT s)) = some (He.valD fnB, true) := by
  intro os; kernel_rfl
end
theorem topRun (w : World) : HandSHeadRun.RunEq R (PySem.W.view R.prog [72]) hk ob 8000 nm w := run_parts (top0 w) (top1 w) (top2 w)
end LS.V2.Y5.K75.E
namespace PM
def sz (S : List Nat) (n : Nat) : Nat := S.getD n 0
def prodN : List Nat → Nat
  | [] => 1
  | x :: xs => x * prodN xs
def psz (S : List Nat) (ns : List Nat) : Nat := prodN (ns.map (sz S))
def fills (S : List Nat) : List Nat → List (List Nat)
  | [] => [[]]
  | n :: ns => (List.range (sz S n)).flatMap fun w => (fills S ns).map (w :: ·)
def pl (S : List Nat) : Nat → List Nat → List Nat → Nat
  | acc, n :: ns, w :: ws => pl S (acc * sz S n + w) ns ws
  | acc, _, _ => acc
def Good (S : List Nat) : List Nat → List Nat → Prop
  | [], ws => ws = []
  | n :: ns, ws => ∃ w r, ws = w :: r ∧ w < sz S n ∧ Good S ns r
theorem Good.len {S : List Nat} {ns ws : List Nat} (h : Good S ns ws) : ws.length = ns.length := by
  induction ns generalizing ws with
  | nil => rw [show ws = [] from h]
  | cons n ns ih => obtain ⟨w, r, rfl, _, h2⟩ := h; simp [ih h2]
theorem pl_acc {S : List Nat} {ns ws : List Nat} (h : ws.length = ns.length) (acc : Nat) : pl S acc ns ws = acc * psz S ns + pl S 0 ns ws := by
  induction ns generalizing ws acc with
  | nil => simp [pl, psz, prodN]
  | cons n ns ih =>
    cases ws with
    | nil => simp at h
    | cons w ws =>
      have hl : ws.length = ns.length := by simpa using h
      have e : psz S (n :: ns) = sz S n * psz S ns := rfl
      rw [pl, pl, ih hl (acc * sz S n + w), ih hl (0 * sz S n + w), e, Nat.add_mul, Nat.zero_mul, Nat.zero_add, Nat.mul_assoc, Nat.add_assoc]
theorem mem_fills {S : List Nat} {ns f : List Nat} : f ∈ fills S ns ↔ Good S ns f := by
  induction ns generalizing f with
  | nil => simp [fills, Good]
  | cons n ns ih =>
    simp only [fills, List.mem_flatMap, List.mem_range, List.mem_map, Good]
    constructor
    · rintro ⟨w, hw, r, hr, rfl⟩
      exact ⟨w, r, rfl, hw, ih.1 hr⟩
    · rintro ⟨w, r, rfl, hw, hr⟩
      exact ⟨w, hw, r, ih.2 hr, rfl⟩
theorem range_blocks (P m : Nat) : ((List.range m).flatMap fun w => (List.range P).map fun i => w * P + i) = List.range (m * P) := by
  induction m with
  | zero => simp
  | succ m ih =>
    rw [List.range_succ, List.flatMap_append, ih, Nat.succ_mul, List.range_add]
    simp
theorem fills_pl (S ns : List Nat) : (fills S ns).map (pl S 0 ns) = List.range (psz S ns) := by
  induction ns with
  | nil => simp [fills, pl, psz, prodN]
  | cons n ns ih =>
    have e : psz S (n :: ns) = sz S n * psz S ns := rfl
    rw [e, fills, List.map_flatMap, ← range_blocks (psz S ns) (sz S n), ← ih]
    congr 1
    funext w
    rw [List.map_map, List.map_map]
    refine List.map_congr_left fun f hf => ?_
    have hl := (mem_fills.1 hf).len
    show pl S (0 * sz S n + w) ns f = w * psz S ns + pl S 0 ns f
    rw [pl_acc hl, Nat.zero_mul, Nat.zero_add]
theorem len_fills (S ns : List Nat) : (fills S ns).length = psz S ns := by
  have h := congrArg List.length (fills_pl S ns)
  simpa using h
def ats (ns f : List Nat) : Nat → Nat := fun n => f.getD (ns.idxOf n) 0
structure Part where
  ns : List Nat
  ws : List Int
def Rising (l : List Nat) : Prop := l.Pairwise (· < ·)
theorem rising_ext {a b : List Nat} (ha : Rising a) (hb : Rising b) (h : ∀ n, n ∈ a ↔ n ∈ b) : a = b := by
  induction a generalizing b with
  | nil =>
    cases b with
    | nil => rfl
    | cons y b => exact absurd ((h y).2 List.mem_cons_self) (by simp)
  | cons x a ih =>
    cases b with
    | nil => exact absurd ((h x).1 List.mem_cons_self) (by simp)
    | cons y b =>
      have ha' := List.pairwise_cons.1 ha
      have hb' := List.pairwise_cons.1 hb
      have e : x = y := by
        rcases List.mem_cons.1 ((h x).1 List.mem_cons_self) with e | e
        · exact e
        · rcases List.mem_cons.1 ((h y).2 List.mem_cons_self) with e' | e'
          · exact e'.symm
          · have h1 := hb'.1 x e
            have h2 := ha'.1 y e'
            omega
      subst e
      rw [ih ha'.2 hb'.2 fun n => ?_]
      constructor
      · intro hn
        rcases List.mem_cons.1 ((h n).1 (List.mem_cons_of_mem _ hn)) with e | e
        · have := ha'.1 n hn; omega
        · exact e
      · intro hn
        rcases List.mem_cons.1 ((h n).2 (List.mem_cons_of_mem _ hn)) with e | e
        · have := hb'.1 n hn; omega
        · exact e
structure Part.Ok (S : List Nat) (p : Part) : Prop where
  rise : Rising p.ns
  lt : ∀ n ∈ p.ns, n < S.length
  len : p.ws.length = psz S p.ns
def val (S : List Nat) (p : Part) (g : Nat → Nat) : Int := p.ws.getD (pl S 0 p.ns (p.ns.map g)) 0
def mkP (S : List Nat) (ns : List Nat) (F : (Nat → Nat) → Int) : Part := ⟨ns, (fills S ns).map fun f => F (ats ns f)⟩
def joinP (S : List Nat) (jn : Int → Int → Int) (U : List Nat) (p q : Part) : Part := mkP S U fun g => jn (val S p g) (val S q g)
end PM
namespace LS
open PySem L2 HD PM
inductive Wd where
  | sum | most | least | wide | any
  deriving DecidableEq
def Wd.s : Wd → Str
  | .sum => Str.ofString "sum"
  | .most => Str.ofString "most"
  | .least => Str.ofString "least"
  | .wide => Str.ofString "wide"
  | .any => Str.ofString "any"
def jn : Wd → Int → Int → Int
  | .sum, a, b => a * b
  | .most, a, b => a + b
  | .least, a, b => a + b
  | .wide, a, b => if b < a then b else a
  | .any, a, b => if b < a then b else a
theorem w_any (w : Wd) : (w.s == Str.ofString "any") = decide (w = .any) := by cases w <;> decide +kernel
abbrev dW (w : Wd) : Sl := .ext (.str w.s)
abbrev dI (i : Int) : Sl := .ext (.int i)
def unitW (w : Wd) : Int := match w with | .sum => 1 | .any => 1 | .most => 0 | .least => 0 | .wide => 10 ^ 30
def JarOk (n : Nat) (ds : List D) : Prop := ∃ (cells : List Int) (at' left : Int), ds = [.lst (iD cells), .int at', .int left] ∧ 0 ≤ at' ∧ at' ≤ n
theorem JarOk.up {n m : Nat} {ds : List D} (h : JarOk n ds) (hm : n ≤ m) : JarOk m ds := by
  obtain ⟨c, a, l, e, h1, h2⟩ := h
  exact ⟨c, a, l, e, h1, by omega⟩
theorem cut_iD (ns : List Int) (lo hi : Option Int) : cutD (iD ns) lo hi = iD ((ns.drop (HT.sIx ns.length 0 lo)).take (HT.sIx ns.length ns.length hi - HT.sIx ns.length 0 lo)) := by
  simp [cutD, List.map_take, List.map_drop]
def sp_law_prime : DSpec := fun args Q _ => ∃ i : Int, args = [dI i] ∧ 0 ≤ i ∧ ∀ (r : Int) fin, 2147483423 ≤ r → r ≤ 2147483647 → Q (dI r) fin
end LS
namespace LS
open PySem L2 HD PM
def sp_law_word : DSpec := fun args Q _ => ∃ (n : Nat) (a : Addr) (ds : List D), args = [.lst a ds] ∧ JarOk n ds ∧ n < 4294967296 ∧ ∀ (w : Wd) ds' fin, JarOk (n + 1) ds' → Q (dW w) (.lst a ds' :: fin)
def NumOk (w : Wd) (i : Int) : Prop := -1000000000000 ≤ i ∧ i ≤ 1000000000000 ∧ (w = .any → 0 ≤ i ∧ i ≤ 1)
def sp_law_times : DSpec := fun args Q _ => ∃ l : List Nat, (args = [.ext (.lst (nD l))] ∨ args = [.ext (.tup (nD l))]) ∧ (∀ x ∈ l, 0 < x) ∧ prodN l < 2 ^ 60 ∧ ∀ fin, Q (dI (prodN l : Nat)) fin
theorem prodN_pos {l : List Nat} (h : ∀ x ∈ l, 0 < x) : 0 < prodN l := by
  induction l with
  | nil => exact Nat.one_pos
  | cons x l ih => exact Nat.mul_pos (h x List.mem_cons_self) (ih fun y hy => h y (List.mem_cons_of_mem _ hy))
structure SzOk (S : List Nat) : Prop where
  pos : ∀ s ∈ S, 0 < s
  few : S.length ≤ 24
  prod : prodN S ≤ 4096
  small : ∀ s ∈ S, s ≤ 4
abbrev dSz (S : List Nat) : Sl := .ext (.tup (nD S))
theorem prodN_append (a b : List Nat) : prodN (a ++ b) = prodN a * prodN b := by
  induction a with
  | nil => simp [prodN]
  | cons x a ih => rw [List.cons_append, prodN, ih, prodN, Nat.mul_assoc]
end LS
namespace LS
open PySem L2 HD PM
theorem erase_perm {α : Type} (l : List α) : ∀ {i : Nat} (h : i < l.length), (l[i] :: l.eraseIdx i).Perm l := by
  induction l with
  | nil => intro i h; simp at h
  | cons x l ih =>
    intro i h
    cases i with
    | zero => exact .refl _
    | succ i =>
      have := ih (i := i) (by simpa using h)
      simp only [List.getElem_cons_succ, List.eraseIdx_cons_succ]
      exact (List.Perm.swap _ _ _).trans (List.Perm.cons x this)
theorem rgD_nat (n : Nat) : rgD 0 (n : Int) = nD (List.range n) := by
  unfold rgD
  simp
theorem iD_nat (l : List Nat) : iD (l.map fun n : Nat => (n : Int)) = nD l := by simp [iD, nD]
abbrev dP (p : Part) : D := .tup [.tup (nD p.ns), .tup (iD p.ws)]
theorem psz_le {S ns : List Nat} (hS : ∀ s ∈ S, 0 < s) (h : Rising ns) (hl : ∀ n ∈ ns, n < S.length) : psz S ns ≤ prodN S := by
  have e : ns = (List.range S.length).filter fun n => decide (n ∈ ns) := by
    refine rising_ext h (List.Pairwise.filter _ List.pairwise_lt_range) fun n => ?_
    simp only [List.mem_filter, List.mem_range, decide_eq_true_eq]
    exact ⟨fun hn => ⟨hl n hn, hn⟩, fun hn => hn.2⟩
  have sub : ns.Sublist (List.range S.length) := by rw [e]; exact List.filter_sublist
  have e2 : (List.range S.length).map (sz S) = S := by
    refine List.ext_getElem? fun i => ?_
    rw [List.getElem?_map]
    by_cases hi : i < S.length
    · simp [List.getElem?_range hi, sz, List.getD_eq_getElem?_getD, List.getElem?_eq_getElem hi]
    · rw [List.getElem?_eq_none (by simpa using hi), List.getElem?_eq_none (by omega)]; rfl
  have sub2 : (ns.map (sz S)).Sublist S := by have := sub.map (sz S); rwa [e2] at this
  have gen : ∀ {a b : List Nat}, a.Sublist b → (∀ s ∈ b, 0 < s) → prodN a ≤ prodN b := by
    intro a b hs
    induction hs with
    | slnil => intro _; exact Nat.le_refl _
    | cons x h ih =>
      intro hb
      have h1 := ih fun s hs => hb s (List.mem_cons_of_mem _ hs)
      exact Nat.le_trans h1 (Nat.le_mul_of_pos_left _ (hb x List.mem_cons_self))
    | cons_cons x h ih =>
      intro hb
      exact Nat.mul_le_mul_left _ (ih fun s hs => hb s (List.mem_cons_of_mem _ hs))
  exact gen sub2 hS
theorem sz_mem {S : List Nat} {n : Nat} (h : n < S.length) : sz S n ∈ S := by
  unfold sz
  rw [List.getD_eq_getElem?_getD, List.getElem?_eq_getElem h]
  exact List.getElem_mem h
theorem sz_at {S : List Nat} {n : Nat} (h : n < S.length) : (nD S)[n]? = some (.int (sz S n : Nat)) := by
  unfold sz
  simp [List.getElem?_map, List.getD_eq_getElem?_getD, List.getElem?_eq_getElem h]
theorem rising_len {ns : List Nat} {m : Nat} (h : Rising ns) (hl : ∀ n ∈ ns, n < m) : ns.length ≤ m := by
  have e : ns = (List.range m).filter fun n => decide (n ∈ ns) := by
    refine rising_ext h (List.Pairwise.filter _ List.pairwise_lt_range) fun n => ?_
    simp only [List.mem_filter, List.mem_range, decide_eq_true_eq]
    exact ⟨fun hn => ⟨hl n hn, hn⟩, fun hn => hn.2⟩
  rw [e]
  have := List.length_filter_le (fun n => decide (n ∈ ns)) (List.range m)
  simpa using this
def NumsOk (w : Wd) (p : Part) : Prop := ∀ x ∈ p.ws, NumOk w x
end LS
namespace LS
open PySem L2 HD PM
local macro_rules | `(tactic| trivial) => `(tactic| try simp -dsimp only [↓sSeq, ↓sIf, ↓sRet, ↓retD_ext, ↓retD_lst, ↓retD_al, ↓sSet, ↓sSetE, ↓sAsg, ↓sDrop, ↓sNext, ↓sFor, ↓sRetN, ↓sCont, ↓sBreak, ↓dTest, ↓dOp, ↓dVar_w, ↓dC, ↓dCons, ↓dNil, ↓dTup, ↓dLst, ↓frzDs, ↓frzD_ext, ↓frzD_lst, ↓frzD_al, ↓wd_ext, ↓wd_lst, ↓wd_al, ↓wds, ↓AtS_ext, ↓AtS_lst, ↓AtL, ↓fAdd, ↓fSub, ↓fMul, ↓fDiv, ↓fMod, ↓fPow, ↓fCmp, ↓fIn, ↓fEq_ii, ↓fEq_ss, ↓fEq_bb, ↓fEq_tt, ↓fEq_ll, ↓fNe_ii, ↓fNe_ss, ↓fNe_bb, ↓fNe_tt, ↓fNe_ll, ↓fIx_l, ↓fIx_t, ↓fIx_k, ↓fIx_f, ↓GetS_some, ↓NatS_some, ↓fSl, ↓fIsN, ↓fNotN, ↓D.knN, ↓dNot, ↓dAnd, ↓dOr, ↓dAndV_w, ↓dOrV_w, ↓dNotV, ↓dIf, ↓dNeg, ↓dChain_w, ↓BlS_bl, ↓dCall_w, ↓dCallJ_w, ↓anyAl, ↓frozs, ↓froz, ↓gSet, ↓gTupD, ↓gsCons, ↓gsNil, ↓dSeq, ↓seqD_tup, ↓seqD_elst, ↓seqD_lst, ↓seqD_al, ↓dRange1, ↓dRange2, ↓dZip, ↓dCB, ↓dLc, ↓dYes, ↓dNoPart, ↓dPart, ↓dSl, ↓fLen, ↓fMin, ↓fMax, ↓fSum, ↓fAll, ↓fAny, ↓fSorted, ↓fTuple, ↓fList, ↓dRg1, ↓dRg2, ↓dLstRg, ↓dTupRg, ↓dIndex, ↓fIdx, ↓dAppend_w, ↓dExtend_w, ↓extD_lst, ↓dPopAt_w, ↓popD_int, ↓dPop_w, ↓mutD_w, ↓sSetItem_w, ↓setD_int, ↓dSortSet, ↓dTable_w, ↓wipeE, finals1, finals2, finals3, finals4, finals5, finals6, fin1_ext, fin1_lst, List.getElem?_cons_zero, List.getElem?_cons_succ, List.getElem?_nil, List.set_cons_zero, List.set_cons_succ, List.cons_append, List.nil_append, List.append_nil, List.replicate_succ, List.replicate_zero, List.map_cons, List.map_nil, List.length_cons, List.length_nil, true_and, and_true, ite_true, ite_false, if_true, if_false, Bool.false_eq_true, decide_eq_true_eq, Sl.plain, D.isSq, eq_self_iff_true, forall_const, reduceIte, true_or, or_true, atI_0, atI_1, atI_2, atI_3, ixN_0, ixN_1, ixN_2, AtS_ext, AtS_lst, FzS_lst, FzS_ext, GetS_some, NatS_some, ↓fIsi1, ↓fIsi2, BoolS_some, HD.kb_non_tuple, HD.kb_non_list, HD.kb_non_bool, HD.kb_non_int, HD.kb_non_str, HD.kb_bl_tuple, HD.kb_bl_list, HD.kb_bl_bool, HD.kb_bl_int, HD.kb_bl_str, HD.kb_int_tuple, HD.kb_int_list, HD.kb_int_bool, HD.kb_int_int, HD.kb_int_str, HD.kb_str_tuple, HD.kb_str_list, HD.kb_str_bool, HD.kb_str_int, HD.kb_str_str, HD.kb_lst_tuple, HD.kb_lst_list, HD.kb_lst_bool, HD.kb_lst_int, HD.kb_lst_str, HD.kb_tup_tuple, HD.kb_tup_list, HD.kb_tup_bool, HD.kb_tup_int, HD.kb_tup_str, ↓sFz_w, ↓FzS_lst, ↓FzS_ext, ↓dSortSetL, ↓fAbs, ↓fInt, ↓fRepr, ↓fLtT, ↓sRaise, ↓sTryKeep, ↓dCallV_w, ↓dMeth, ↓fCount, ↓fSplit])
abbrev fD (fs : List (List Nat)) : List D := fs.map fun f => D.tup (nD f)
theorem fD_cons (f : List Nat) (fs : List (List Nat)) : fD (f :: fs) = D.tup (nD f) :: fD fs := rfl
theorem fD_app (a b : List (List Nat)) : fD (a ++ b) = fD a ++ fD b := List.map_append
theorem fD_len (a : List (List Nat)) : (fD a).length = a.length := List.length_map _
def SqN (l : List Nat) (Z : D) : Prop := Z = .tup (nD l) ∨ Z = .lst (nD l)
def FArgs (S ns : List Nat) (args : List Sl) : Prop := ∃ Z W, args = [.ext Z, .ext W] ∧ SqN S Z ∧ SqN ns W
theorem ix_sq {S : List Nat} {Z : D} {n : Nat} {Q : Sl → Prop} (hZ : SqN S Z) (hn : n < S.length) (q : Q (dI (sz S n : Nat))) : fIx Z (.int (n : Nat)) Q := by
  rcases hZ with rfl | rfl
  · exact ⟨_, atN (sz_at hn), q⟩
  · exact ⟨_, atN (sz_at hn), q⟩
def sp_fillings_of : DSpec := fun args Q _ => ∃ (S ns : List Nat), FArgs S ns args ∧ (∀ n ∈ ns, n < S.length ∧ 0 < sz S n) ∧ psz S ns ≤ 4096 ∧ ns.length ≤ 100 ∧ ∀ fin, Q (.ext (.lst (fD (fills S ns)))) fin
def e1_fillings_of : DT :=
    (dOp fAdd (dVar 5) (dTup (dCons (dVar 6) dNil)))
def b2_fillings_of : DTS :=
    (sDrop (dExtend 4 (dLc (dRange1 (dCons (dOp fIx (dVar 0) (dVar 3)) dNil)) (gSet 6) dYes e1_fillings_of [6])))
def k3_fillings_of : DTS :=
    (sSetE 2 (dVar 4))
def b4_fillings_of : DTS :=
    (sSeq (sSet 4 (dLst dNil))
    (sSeq (sFor (dSeq (dVar 2)) (gSet 5) b2_fillings_of)
    k3_fillings_of))
def k5_fillings_of : DTS :=
    (sRet (dVar 2))
def t_fillings_of : DTS :=
    (sSeq (sSetE 2 (dLst (dCons (dTup dNil) dNil)))
    (sSeq (sFor (dSeq (dVar 1)) (gSet 3) b4_fillings_of)
    k5_fillings_of))
theorem q1_fillings_of {Q : Sl → Env' → Prop} {s0 s1 s2 s3 s4 : Sl} {f : List Nat} (hf : f.length ≤ 1000) (ws : List Nat) : ∀ (acc : List D), acc.length + ws.length ≤ 5000 → (∀ b, Q (.lst b (acc ++ fD (ws.map fun w => f ++ [w]))) [s0, s1, s2, s3, s4, .ext (.tup (nD f)), .un]) →
    lcD (gSet 6) dYes e1_fillings_of [6] (fun _ => True) Q (nD ws) acc [s0, s1, s2, s3, s4, .ext (.tup (nD f)), .un] := by
  induction ws with
  | nil => intro acc _ hQ; exact ⟨True.intro, fun b => by simpa using hQ b⟩
  | cons w ws ih =>
    intro acc hl hQ
    rw [List.length_cons] at hl
    rw [nD_cons, lcD]
    unfold e1_fillings_of
    trivial
    refine ⟨Nat.lt_of_le_of_lt (by omega : acc.length ≤ 5000) (by decide), by decide, by rw [nD_len]; exact Nat.le_trans (by omega : f.length + (0 + 1) ≤ 2000) (by decide), ?_⟩
    have := ih (acc ++ [.tup (nD (f ++ [w]))]) (by rw [List.length_append, List.length_singleton]; omega) (fun b => by simpa using hQ b)
    rw [nD_app] at this
    exact this
theorem q2_fillings_of {Ex : DX} {E : DEnds} {S : List Nat} {Z : D} {s1 s2 : Sl} {a4 : Addr} {n : Nat} (hZ : SqN S Z) (hn : n < S.length) (fs : List (List Nat)) : ∀ (A : List (List Nat)) (s5 : Sl), (∀ f ∈ fs, f.length ≤ 1000) → A.length + fs.length * sz S n ≤ 5000 → sz S n ≤ 5000 →
    (∀ u5, E.nx [.ext Z, s1, s2, dI (n : Nat), .lst a4 (fD (A ++ fs.flatMap fun f => (List.range (sz S n)).map fun w => f ++ [w])), u5, .un]) →
    forD (gSet 5) b2_fillings_of (fun _ => True) Ex E (fD fs) [.ext Z, s1, s2, dI (n : Nat), .lst a4 (fD A), s5, .un] := by
  induction fs with
  | nil => intro A s5 _ _ _ hE; exact ⟨True.intro, by simpa using hE s5⟩
  | cons f fs ih =>
    intro A s5 hf hl hz hE
    rw [List.length_cons, Nat.add_mul, Nat.one_mul] at hl
    rw [fD_cons, forD]
    unfold b2_fillings_of
    trivial
    refine ix_sq hZ hn ?_
    trivial
    refine ⟨⟨by omega, by omega⟩, ?_⟩
    rw [rgD_nat]
    refine q1_fillings_of (hf f List.mem_cons_self) _ [] (by simpa using hz) fun b => ?_
    trivial
    refine ⟨?_, ?_⟩
    · rw [fD_len, fD_len, List.length_map, List.length_range]
      exact Nat.le_trans (by omega : A.length + sz S n ≤ 10000) (by decide)
    have := ih (A ++ (List.range (sz S n)).map fun w => f ++ [w]) (.ext (.tup (nD f))) (fun g hg => hf g (List.mem_cons_of_mem _ hg)) (by rw [List.length_append, List.length_map, List.length_range]; omega) hz (fun u5 => by simpa using hE u5)
    rw [fD_app] at this
    exact this
theorem fills_step {S : List Nat} (fs : List (List Nat)) (n : Nat) (ns : List Nat) :
    ((fs.flatMap fun f => (List.range (sz S n)).map fun w => f ++ [w]).flatMap fun f => (fills S ns).map (f ++ ·)) = fs.flatMap fun f => (fills S (n :: ns)).map (f ++ ·) := by
  rw [List.flatMap_assoc]
  congr 1
  funext f
  rw [fills, List.map_flatMap, List.flatMap_map]
  congr 1
  funext w
  rw [List.map_map]
  exact List.map_congr_left fun g _ => by simp
theorem q3_fillings_of {Ex : DX} {E : DEnds} {S : List Nat} {Z : D} {s1 : Sl} (hZ : SqN S Z) (ns : List Nat) : ∀ (fs : List (List Nat)) (k : Nat) (s3 s4 s5 : Sl), (∀ n ∈ ns, n < S.length ∧ 0 < sz S n) → fs.length * psz S ns ≤ 4096 → (∀ f ∈ fs, f.length = k) → k + ns.length ≤ 1000 →
    (∀ u3 u4 u5, E.nx [.ext Z, s1, .ext (.lst (fD (fs.flatMap fun f => (fills S ns).map (f ++ ·)))), u3, u4, u5, .un]) →
    forD (gSet 3) b4_fillings_of (fun _ => True) Ex E (nD ns) [.ext Z, s1, .ext (.lst (fD fs)), s3, s4, s5, .un] := by
  induction ns with
  | nil =>
    intro fs k s3 s4 s5 _ _ _ _ hE
    have := hE s3 s4 s5
    simp only [fills, List.map_cons, List.map_nil, List.append_nil] at this
    have e : fs.flatMap (fun f => [f]) = fs := by simp
    rw [e] at this
    exact ⟨True.intro, this⟩
  | cons n ns ih =>
    intro fs k s3 s4 s5 hn hb hk hl hE
    rw [List.length_cons] at hl
    obtain ⟨hn1, hn2⟩ := hn n List.mem_cons_self
    have hpos : 0 < psz S ns := prodN_pos fun x hx => by
      obtain ⟨y, hy, rfl⟩ := List.mem_map.1 hx
      exact (hn y (List.mem_cons_of_mem _ hy)).2
    have e : psz S (n :: ns) = sz S n * psz S ns := rfl
    rw [e, ← Nat.mul_assoc] at hb
    have hb2 : fs.length * sz S n ≤ 4096 := Nat.le_trans (Nat.le_mul_of_pos_right _ hpos) hb
    rw [nD_cons, forD]
    unfold b4_fillings_of
    trivial
    refine ⟨by decide, fun a4 => ?_⟩
    by_cases hz : fs = []
    · subst hz
      refine ⟨True.intro, ?_⟩
      unfold k3_fillings_of
      trivial
      exact ih [] (k + 1) _ _ _ (fun m hm => hn m (List.mem_cons_of_mem _ hm)) (by simp) (by simp) (by omega) (fun u3 u4 u5 => by simpa using hE u3 u4 u5)
    have hfl : 0 < fs.length := List.length_pos_iff.2 hz
    have hs : sz S n ≤ 5000 := Nat.le_trans (Nat.le_mul_of_pos_left _ hfl) (by omega)
    refine q2_fillings_of (a4 := a4) hZ hn1 fs [] _ (fun f hf => by rw [hk f hf]; omega) (by simp; omega) hs fun u5 => ?_
    unfold k3_fillings_of
    trivial
    refine ih _ (k + 1) _ _ _ (fun m hm => hn m (List.mem_cons_of_mem _ hm)) ?_ ?_ (by omega) (fun u3 u4 u5 => by rw [fills_step]; exact hE u3 u4 u5)
    · have el : (fs.flatMap fun f => (List.range (sz S n)).map fun w => f ++ [w]).length = fs.length * sz S n := by
        clear ih hb hk hE hz hfl hb2
        induction fs with
        | nil => simp
        | cons f fs ihf => rw [List.flatMap_cons, List.length_append, ihf]; simp [Nat.add_mul, Nat.add_comm]
      rw [el]; exact hb
    · intro f hf
      obtain ⟨g, hg, hf2⟩ := List.mem_flatMap.1 hf
      obtain ⟨w, _, rfl⟩ := List.mem_map.1 hf2
      rw [List.length_append, hk g hg]; rfl
theorem m_fillings_of : Meets t_fillings_of 2 5 sp_fillings_of := by
  rintro args Qd Xd ⟨S, ns, ⟨Z, W, rfl, hZ, hW⟩, hn, hb, hl, hQ⟩
  show t_fillings_of _ _ [_, _, .un, .un, .un, .un, .un]
  unfold t_fillings_of
  have e : ([[]].flatMap fun f => (fills S ns).map (f ++ ·)) = fills S ns := by simp
  rcases hW with rfl | rfl
  all_goals
    trivial
    refine ⟨by decide, by decide, ?_⟩
    refine q3_fillings_of hZ ns [[]] 0 _ _ _ hn (by simpa using hb) (by simp) (by omega) fun u3 u4 u5 => ?_
    unfold k5_fillings_of
    trivial
    rw [e]
    exact hQ _
theorem getD_at {g : List Nat} {n : Nat} (h : n < g.length) : (nD g)[n]? = some (.int (g.getD n 0 : Nat)) := by
  simp [List.getElem?_map, List.getD_eq_getElem?_getD, List.getElem?_eq_getElem h]
theorem idx_at {U : List Nat} {n : Nat} (h : n ∈ U) : D.at? (.int (n : Nat)) (nD U) = some (U.idxOf n) := by
  unfold D.at?
  induction U with
  | nil => cases h
  | cons u U ih =>
    rw [nD_cons, List.findIdx?_cons]
    by_cases e : u = n
    · subst e
      have : eqV (D.int (u : Nat)).toV (D.int (u : Nat)).toV = true := by simp [D.toV, eqV]
      rw [if_pos this]
      simp
    · have h' : n ∈ U := by
        rcases List.mem_cons.1 h with h | h
        · exact absurd h.symm e
        · exact h
      have : ¬ eqV (D.int (u : Nat)).toV (D.int (n : Nat)).toV = true := by
        simp [D.toV, eqV]; omega
      rw [if_neg this, ih h', List.idxOf_cons]
      have b : (u == n) = false := by simpa using e
      simp [b]
end LS
namespace LS
open PySem L2 HD PM
theorem nat_of_set {l : List Nat} {ns : List Int} (hp : ns.Pairwise (· < ·)) (h : ∀ n : Int, n ∈ ns ↔ n ∈ l.map fun n : Nat => (n : Int)) : ∃ U : List Nat, ns = U.map (fun n : Nat => (n : Int)) ∧ Rising U ∧ ∀ n, n ∈ U ↔ n ∈ l := by
  have h1 : ∀ x ∈ ns, 0 ≤ x := by
    intro x hx
    obtain ⟨y, _, rfl⟩ := List.mem_map.1 ((h x).1 hx)
    omega
  have e : ns = (ns.map Int.toNat).map fun n : Nat => (n : Int) := by
    rw [List.map_map]
    conv => lhs; rw [← List.map_id ns]
    refine List.map_congr_left fun x hx => ?_
    have := h1 x hx
    simp; omega
  refine ⟨ns.map Int.toNat, e, ?_, fun n => ?_⟩
  · unfold Rising
    rw [e, List.pairwise_map] at hp
    exact hp.imp fun h => by omega
  · have : n ∈ ns.map Int.toNat ↔ (n : Int) ∈ ns := by
      rw [List.mem_map]
      constructor
      · rintro ⟨x, hx, rfl⟩
        have := h1 x hx
        rwa [Int.toNat_of_nonneg this]
      · intro hx
        exact ⟨_, hx, by simp⟩
    rw [this, h]
    constructor
    · intro hm
      obtain ⟨y, hy, e⟩ := List.mem_map.1 hm
      have : y = n := by omega
      exact this ▸ hy
    · exact fun hm => List.mem_map.2 ⟨n, hm, rfl⟩
end LS
namespace LS
open PySem L2 HD PM
theorem isIn_nat (n : Nat) (l : List Nat) : (D.int (n : Nat)).isIn (nD l) = decide (n ∈ l) := by
  unfold D.isIn
  induction l with
  | nil => rfl
  | cons x l ih =>
    have e : inV (D.int (n : Nat)).toV ((nD (x :: l)).map D.toV) = (eqV (V.int (x : Nat)) (V.int (n : Nat)) || inV (D.int (n : Nat)).toV ((nD l).map D.toV)) := rfl
    rw [e, ih]
    have e2 : eqV (V.int (x : Nat)) (V.int (n : Nat)) = decide (n = x) := by
      simp only [eqV]
      by_cases h : n = x
      · subst h; simp
      · simp [h]; omega
    rw [e2]
    simp
theorem flat_nD (l : List Nat) : (nD l).all D.flat = true := by simp [D.flat]
end LS
namespace LS
open PySem L2 HD PM
def D.pl : Nat → D → Bool
  | _, .non => true
  | _, .bl _ => true
  | _, .int _ => true
  | _, .str _ => true
  | k + 1, .lst ds => decide (ds.length ≤ 100000) && ds.all (D.pl k)
  | k + 1, .tup ds => decide (ds.length ≤ 100000) && ds.all (D.pl k)
  | _, _ => false
theorem noVals_of {ds : List D} (h : ∀ d ∈ ds, d.noVal = true) : D.noVals ds = true := by
  induction ds with
  | nil => rfl
  | cons d ds ih => rw [D.noVals, h d List.mem_cons_self, ih fun e he => h e (List.mem_cons_of_mem _ he)]; rfl
theorem pl_noVal : ∀ (k : Nat) (d : D), D.pl k d = true → d.noVal = true := by
  intro k
  induction k with
  | zero => intro d h; cases d <;> first | rfl | simp [D.pl] at h
  | succ k ih =>
    intro d h
    cases d with
    | lst ds => rw [D.pl, Bool.and_eq_true, List.all_eq_true] at h; exact noVals_of fun e he => ih e (h.2 e he)
    | tup ds => rw [D.pl, Bool.and_eq_true, List.all_eq_true] at h; exact noVals_of fun e he => ih e (h.2 e he)
    | non => rfl
    | bl _ => rfl
    | int _ => rfl
    | str _ => rfl
    | val _ => simp [D.pl] at h
    | fz _ => simp [D.pl] at h
    | tk _ => simp [D.pl] at h
    | exc _ => simp [D.pl] at h
    | glo _ => simp [D.pl] at h
    | dk _ _ => simp [D.pl] at h
    | dt _ _ => simp [D.pl] at h
end LS
namespace LS
open PySem L2 HD PM
def D.pi : Nat → D → Bool
  | _, .non => true
  | _, .bl _ => true
  | _, .int _ => true
  | _, .str x => PyData.canLay0 (.str x)
  | k + 1, .lst ds => ds.all (D.pi k)
  | k + 1, .tup ds => ds.all (D.pi k)
  | _, _ => false
theorem pys_of {k : Nat} {ds : List D} (h : ∀ d ∈ ds, d.noVal = true ∧ d.py.canLay0 = true ∧ d.py.depth ≤ k) : D.noVals ds = true ∧ PyData.canLayAll0 (D.pys ds) = true ∧ PyData.depthAll (D.pys ds) ≤ k := by
  induction ds with
  | nil => exact ⟨rfl, rfl, by simp [D.pys, PyData.depthAll]⟩
  | cons d ds ih =>
    obtain ⟨h1, h2, h3⟩ := h d List.mem_cons_self
    obtain ⟨i1, i2, i3⟩ := ih fun e he => h e (List.mem_cons_of_mem _ he)
    refine ⟨by simp [D.noVals, h1, i1], by simp [D.pys, PyData.canLayAll0, h2, i2], ?_⟩
    simp only [D.pys, PyData.depthAll]
    omega
theorem pi_cmp0 : ∀ (k : Nat) (d : D), D.pi k d = true → d.noVal = true ∧ d.py.canLay0 = true ∧ d.py.depth ≤ k := by
  intro k
  induction k with
  | zero => intro d h; cases d <;> first | exact ⟨rfl, rfl, by simp [D.py, PyData.depth]⟩ | exact ⟨rfl, h, by simp [D.py, PyData.depth]⟩ | simp [D.pi] at h
  | succ k ih =>
    intro d h
    cases d with
    | lst ds =>
      rw [D.pi, List.all_eq_true] at h
      obtain ⟨h1, h2, h3⟩ := pys_of fun e he => ih e (h e he)
      exact ⟨h1, by simpa [D.py, PyData.canLay0] using h2, by simp only [D.py, PyData.depth]; omega⟩
    | tup ds =>
      rw [D.pi, List.all_eq_true] at h
      obtain ⟨h1, h2, h3⟩ := pys_of fun e he => ih e (h e he)
      exact ⟨h1, by simpa [D.py, PyData.canLay0] using h2, by simp only [D.py, PyData.depth]; omega⟩
    | non => exact ⟨rfl, rfl, by simp [D.py, PyData.depth]⟩
    | bl _ => exact ⟨rfl, rfl, by simp [D.py, PyData.depth]⟩
    | int _ => exact ⟨rfl, rfl, by simp [D.py, PyData.depth]⟩
    | str _ => exact ⟨rfl, h, by simp [D.py, PyData.depth]⟩
    | val _ => simp [D.pi] at h
    | fz _ => simp [D.pi] at h
    | tk _ => simp [D.pi] at h
    | exc _ => simp [D.pi] at h
    | glo _ => simp [D.pi] at h
    | dk _ _ => simp [D.pi] at h
    | dt _ _ => simp [D.pi] at h
theorem pi_cmp {k : Nat} {d : D} (hk : k ≤ 64) (h : D.pi k d = true) : d.cmp := by
  obtain ⟨h1, h2, h3⟩ := pi_cmp0 k d h
  refine ⟨h1, ?_⟩
  unfold SeqAt.shaped
  rw [h2]
  simp; omega
theorem pi_nats (k : Nat) (l : List Nat) : (nD l).all (D.pi k) = true := by
  rw [List.all_eq_true]
  intro d hd
  obtain ⟨i, _, rfl⟩ := List.mem_map.1 hd
  cases k <;> rfl
theorem pl_nats (k : Nat) (l : List Nat) : (nD l).all (D.pl k) = true := by
  rw [List.all_eq_true]
  intro d hd
  obtain ⟨i, _, rfl⟩ := List.mem_map.1 hd
  cases k <;> rfl
def Bd (k : Nat) (p : Part) : Prop := ∀ x ∈ p.ws, x.natAbs < 2 ^ k
theorem NumsOk.bd {w : Wd} {p : Part} (h : NumsOk w p) : Bd 40 p := fun x hx => by
  obtain ⟨h1, h2, _⟩ := h x hx
  omega
end LS
namespace PM
open LS
def fold1 (op : Int → Int → Int) : List Int → Int
  | [] => 0
  | x :: xs => xs.foldl op x
def gop : Wd → Int → Int → Int
  | .sum, a, b => a + b
  | .least, a, b => if b < a then b else a
  | _, a, b => if a < b then b else a
abbrev gt (w : Wd) (l : List Int) : Int := fold1 (gop w) l
def put (g : Nat → Nat) (n v : Nat) : Nat → Nat := fun m => if m = n then v else g m
def wo (ns : List Nat) (n : Nat) : List Nat := ns.filter fun m => decide (m ≠ n)
def gathP (S : List Nat) (w : Wd) (p : Part) (n : Nat) : Part := mkP S (wo p.ns n) fun g => gt w ((List.range (sz S n)).map fun v => val S p (put g n v))
def widP (S : List Nat) (p : Part) (U : List Nat) : Part := mkP S U (val S p)
end PM
namespace LS
open PySem L2 HD PM
local macro_rules | `(tactic| trivial) => `(tactic| try simp -dsimp only [↓sSeq, ↓sIf, ↓sRet, ↓retD_ext, ↓retD_lst, ↓retD_al, ↓sSet, ↓sSetE, ↓sAsg, ↓sDrop, ↓sNext, ↓sFor, ↓sRetN, ↓sCont, ↓sBreak, ↓dTest, ↓dOp, ↓dVar_w, ↓dC, ↓dCons, ↓dNil, ↓dTup, ↓dLst, ↓frzDs, ↓frzD_ext, ↓frzD_lst, ↓frzD_al, ↓wd_ext, ↓wd_lst, ↓wd_al, ↓wds, ↓AtS_ext, ↓AtS_lst, ↓AtL, ↓fAdd, ↓fSub, ↓fMul, ↓fDiv, ↓fMod, ↓fPow, ↓fCmp, ↓fIn, ↓fEq_ii, ↓fEq_ss, ↓fEq_bb, ↓fEq_tt, ↓fEq_ll, ↓fNe_ii, ↓fNe_ss, ↓fNe_bb, ↓fNe_tt, ↓fNe_ll, ↓fIx_l, ↓fIx_t, ↓fIx_k, ↓fIx_f, ↓GetS_some, ↓NatS_some, ↓fSl, ↓fIsN, ↓fNotN, ↓D.knN, ↓dNot, ↓dAnd, ↓dOr, ↓dAndV_w, ↓dOrV_w, ↓dNotV, ↓dIf, ↓dNeg, ↓dChain_w, ↓BlS_bl, ↓dCall_w, ↓dCallJ_w, ↓anyAl, ↓frozs, ↓froz, ↓gSet, ↓gTupD, ↓gsCons, ↓gsNil, ↓dSeq, ↓seqD_tup, ↓seqD_elst, ↓seqD_lst, ↓seqD_al, ↓dRange1, ↓dRange2, ↓dZip, ↓dCB, ↓dLc, ↓dYes, ↓dNoPart, ↓dPart, ↓dSl, ↓fLen, ↓fMin, ↓fMax, ↓fSum, ↓fAll, ↓fAny, ↓fSorted, ↓fTuple, ↓fList, ↓dRg1, ↓dRg2, ↓dLstRg, ↓dTupRg, ↓dIndex, ↓fIdx, ↓dAppend_w, ↓dExtend_w, ↓extD_lst, ↓dPopAt_w, ↓popD_int, ↓dPop_w, ↓mutD_w, ↓sSetItem_w, ↓setD_int, ↓dSortSet, ↓dTable_w, ↓wipeE, finals1, finals2, finals3, finals4, finals5, finals6, fin1_ext, fin1_lst, List.getElem?_cons_zero, List.getElem?_cons_succ, List.getElem?_nil, List.set_cons_zero, List.set_cons_succ, List.cons_append, List.nil_append, List.append_nil, List.replicate_succ, List.replicate_zero, List.map_cons, List.map_nil, List.length_cons, List.length_nil, true_and, and_true, ite_true, ite_false, if_true, if_false, Bool.false_eq_true, decide_eq_true_eq, Sl.plain, D.isSq, eq_self_iff_true, forall_const, reduceIte, true_or, or_true, atI_0, atI_1, atI_2, atI_3, ixN_0, ixN_1, ixN_2, AtS_ext, AtS_lst, FzS_lst, FzS_ext, GetS_some, NatS_some, ↓fIsi1, ↓fIsi2, BoolS_some, HD.kb_non_tuple, HD.kb_non_list, HD.kb_non_bool, HD.kb_non_int, HD.kb_non_str, HD.kb_bl_tuple, HD.kb_bl_list, HD.kb_bl_bool, HD.kb_bl_int, HD.kb_bl_str, HD.kb_int_tuple, HD.kb_int_list, HD.kb_int_bool, HD.kb_int_int, HD.kb_int_str, HD.kb_str_tuple, HD.kb_str_list, HD.kb_str_bool, HD.kb_str_int, HD.kb_str_str, HD.kb_lst_tuple, HD.kb_lst_list, HD.kb_lst_bool, HD.kb_lst_int, HD.kb_lst_str, HD.kb_tup_tuple, HD.kb_tup_list, HD.kb_tup_bool, HD.kb_tup_int, HD.kb_tup_str, ↓sFz_w, ↓FzS_lst, ↓FzS_ext, ↓dSortSetL, ↓fAbs, ↓fInt, ↓fRepr, ↓fLtT, ↓sRaise, ↓sTryKeep, ↓dCallV_w, ↓dMeth, ↓fCount, ↓fSplit])
def D.isInt : D → Bool
  | .int _ => true
  | _ => false
def sp_is_whole : DSpec := fun args Q _ => ∃ (d : D) (k : Nat), args = [.ext d] ∧ D.pl k d = true ∧ ∀ fin, Q (.ext (.bl (D.isInt d))) fin
def t_is_whole : DTS :=
    (sRet (dAndV (dCB fIsi (dCons (dVar 0) (dCons (dC (.val (.ty "int"))) dNil))) (dNotV (dCB fIsi (dCons (dVar 0) (dCons (dC (.val (.ty "bool"))) dNil))))))
theorem m_is_whole : Meets t_is_whole 1 0 sp_is_whole := by
  rintro args Qd Xd ⟨d, k, rfl, hp, hQ⟩
  have nv := pl_noVal k d hp
  show t_is_whole _ _ [_]
  unfold t_is_whole
  cases d with
  | val _ => cases k <;> simp [D.pl] at hp
  | fz _ => cases k <;> simp [D.pl] at hp
  | tk _ => cases k <;> simp [D.pl] at hp
  | exc _ => cases k <;> simp [D.pl] at hp
  | glo _ => cases k <;> simp [D.pl] at hp
  | dk _ _ => cases k <;> simp [D.pl] at hp
  | dt _ _ => cases k <;> simp [D.pl] at hp
  | _ =>
    trivial
    simp only [nv, D.isFz, true_and, Bool.not_true, Bool.not_false]
    exact hQ _
def NamesD (many : Int) (d : D) : Prop := ∃ ns : List Nat, d = .tup (nD ns) ∧ Rising ns ∧ ∀ n ∈ ns, (n : Int) < many
def inR (many : Int) : D → Bool
  | .int i => decide (0 ≤ i) && decide (i < many)
  | _ => false
theorem all_inR {many : Int} {ds : List D} (h : ds.all (inR many) = true) : ∃ ns : List Nat, ds = nD ns ∧ ∀ n ∈ ns, (n : Int) < many := by
  induction ds with
  | nil => exact ⟨[], rfl, by simp⟩
  | cons d ds ih =>
    rw [List.all_cons, Bool.and_eq_true] at h
    obtain ⟨ns, rfl, h2⟩ := ih h.2
    cases d with
    | int i =>
      have h1 : decide (0 ≤ i) && decide (i < many) := h.1
      rw [Bool.and_eq_true, decide_eq_true_eq, decide_eq_true_eq] at h1
      refine ⟨i.toNat :: ns, ?_, fun n hn => ?_⟩
      · rw [nD_cons, Int.toNat_of_nonneg h1.1]
      · rcases List.mem_cons.1 hn with rfl | hn
        · omega
        · exact h2 n hn
    | _ => exact absurd h.1 (by simp [inR])
theorem inR_all {many : Int} {ns : List Nat} (h : ∀ n ∈ ns, (n : Int) < many) : (nD ns).all (inR many) = true := by
  rw [List.all_eq_true]
  intro d hd
  obtain ⟨n, hn, rfl⟩ := List.mem_map.1 hd
  have := h n hn
  simp [inR]; omega
theorem rising_adj {ns : List Nat} : Rising ns ↔ ∀ k, k + 1 < ns.length → ns.getD k 0 < ns.getD (k + 1) 0 := by
  induction ns with
  | nil => exact ⟨fun _ k hk => by simp at hk, fun _ => .nil⟩
  | cons x ns ih =>
    unfold Rising at *
    rw [List.pairwise_cons, ih]
    constructor
    · rintro ⟨h1, h2⟩ k hk
      cases k with
      | zero =>
        cases ns with
        | nil => simp at hk
        | cons y ns => simpa using h1 y List.mem_cons_self
      | succ k => simpa using h2 k (by simpa using hk)
    · intro h
      refine ⟨?_, fun k hk => by simpa using h (k + 1) (by simpa using hk)⟩
      have h2 : ∀ k, k < ns.length → x < ns.getD k 0 := by
        intro k
        induction k with
        | zero =>
          intro hk
          have := h 0 (by simp; omega)
          simpa using this
        | succ k ihk =>
          intro hk
          have a := ihk (by omega)
          have b := h (k + 1) (by simp; omega)
          have b' : ns.getD k 0 < ns.getD (k + 1) 0 := by simpa using b
          omega
      intro y hy
      obtain ⟨i, hi, rfl⟩ := List.getElem_of_mem hy
      have := h2 i hi
      simpa [List.getD_eq_getElem?_getD, List.getElem?_eq_getElem hi] using this
theorem nD_inj {a b : List Nat} (h : nD a = nD b) : a = b := by
  induction a generalizing b with
  | nil => cases b with
    | nil => rfl
    | cons y b => simp at h
  | cons x a ih => cases b with
    | nil => simp at h
    | cons y b =>
      rw [nD_cons, nD_cons] at h
      have h1 := (List.cons.inj h).1
      have h2 := ih (List.cons.inj h).2
      have h3 := D.int.inj h1
      rw [h2, show x = y by omega]
def sp_are_names : DSpec := fun args Q _ => ∃ (many : Int) (d : D) (k : Nat), args = [dI many, .ext d] ∧ D.pl k d = true ∧ ∀ (b : Bool) fin, (b = true ↔ NamesD many d) → Q (.ext (.bl b)) fin
def e1_are_names : DT :=
    (dAndV (dCall sp_is_whole (dCons (dVar 2) dNil)) (dChain (fCmp fun i j => decide (i ≤ j)) (fCmp fun i j => decide (i < j)) (dC (.int 0)) (dVar 2) (dVar 0)))
def e2_are_names : DT :=
    (dOp (fCmp fun i j => decide (i < j)) (dOp fIx (dVar 1) (dOp fSub (dVar 3) (dC (.int 1)))) (dOp fIx (dVar 1) (dVar 3)))
def t_are_names : DTS :=
    (sSeq (sIf (dOr (dNot (dTest (dCB fIsi (dCons (dVar 1) (dCons (dC (.val (.ty "tuple"))) dNil))))) (dNot (dTest (dCB fAll (dCons (dLc (dSeq (dVar 1)) (gSet 2) dYes e1_are_names [2]) dNil))))) (sRet (dC (.bl false))) sNext)
    (sRet (dCB fAll (dCons (dLc (dRange2 (dCons (dC (.int 1)) (dCons (dCB fLen (dCons (dVar 1) dNil)) dNil))) (gSet 3) dYes e2_are_names [3]) dNil))))
theorem q1_are_names {Q : Sl → Env' → Prop} {many : Int} {s1 s3 : Sl} {k : Nat} (ds : List D) : ∀ acc : List Bool, (∀ d ∈ ds, D.pl k d = true) → acc.length + ds.length ≤ 200000 → (∀ b, Q (.lst b ((acc ++ ds.map (inR many)).map D.bl)) [dI many, s1, .un, s3]) →
    lcD (gSet 2) dYes e1_are_names [2] (fun _ => True) Q ds (acc.map D.bl) [dI many, s1, .un, s3] := by
  induction ds with
  | nil => intro acc _ _ hQ; exact ⟨True.intro, fun b => by simpa using hQ b⟩
  | cons d ds ih =>
    intro acc hp hl hQ
    rw [List.length_cons] at hl
    rw [lcD]
    unfold e1_are_names
    trivial
    refine ⟨by rw [List.length_map]; exact Nat.lt_of_le_of_lt (by omega : acc.length ≤ 200000) (by decide), d, k, rfl, hp d List.mem_cons_self, fun fin => ?_⟩
    trivial
    have next : ∀ b : Bool, b = inR many d → lcD (gSet 2) dYes e1_are_names [2] (fun _ => True) Q ds (acc.map D.bl ++ [.bl b]) [dI many, s1, .un, s3] := by
      intro b hb
      have := ih (acc ++ [b]) (fun e he => hp e (List.mem_cons_of_mem _ he)) (by rw [List.length_append, List.length_singleton]; omega) (fun a => by rw [hb]; simpa using hQ a)
      rw [List.map_append] at this
      exact this
    cases d with
    | int i =>
      rw [if_pos (show D.isInt (.int i) = true from rfl)]
      trivial
      split
      · refine next _ ?_
        rename_i h0
        simp [inR, h0]
      · refine next _ ?_
        rename_i h0
        simp [inR, h0]
    | _ =>
      rw [if_neg (by simp [D.isInt])]
      exact next _ rfl
theorem q2_are_names {Q : Sl → Env' → Prop} {s0 s2 : Sl} {ns : List Nat} (m : Nat) : ∀ (j : Nat) (acc : List Bool), j + m = ns.length - 1 → acc.length = j → ns.length ≤ 200000 → (∀ b, Q (.lst b ((acc ++ (List.range m).map fun i => decide (ns.getD (j + i) 0 < ns.getD (j + i + 1) 0)).map D.bl)) [s0, .ext (.tup (nD ns)), s2, .un]) →
    lcD (gSet 3) dYes e2_are_names [3] (fun _ => True) Q ((List.range m).map fun i => D.int (1 + ((j + i : Nat) : Int))) (acc.map D.bl) [s0, .ext (.tup (nD ns)), s2, .un] := by
  induction m with
  | zero => intro j acc _ _ _ hQ; exact ⟨True.intro, fun b => by simpa using hQ b⟩
  | succ m ih =>
    intro j acc hj ha hl hQ
    rw [List.range_succ_eq_map, List.map_cons, List.map_map, lcD]
    unfold e2_are_names
    trivial
    refine ⟨by rw [List.length_map]; exact Nat.lt_of_le_of_lt (by omega : acc.length ≤ 200000) (by decide), ?_⟩
    rw [show (1 + ((j + 0 : Nat) : Int) - 1) = ((j : Nat) : Int) by omega, show (1 + ((j + 0 : Nat) : Int)) = ((j + 1 : Nat) : Int) by omega]
    refine ⟨_, atN (getD_at (g := ns) (n := j) (by omega)), ?_⟩
    trivial
    refine ⟨_, atN (getD_at (g := ns) (n := j + 1) (by omega)), ?_⟩
    trivial
    have := ih (j + 1) (acc ++ [decide (ns.getD j 0 < ns.getD (j + 1) 0)]) (by omega) (by simp; omega) hl (fun b => by
      have := hQ b
      rw [List.range_succ_eq_map, List.map_cons, List.map_map] at this
      rw [List.append_assoc]
      have e : ((List.range m).map fun i => decide (ns.getD (j + 1 + i) 0 < ns.getD (j + 1 + i + 1) 0)) = (List.range m).map ((fun i => decide (ns.getD (j + i) 0 < ns.getD (j + i + 1) 0)) ∘ Nat.succ) :=
        List.map_congr_left fun i _ => by show _ = decide (ns.getD (j + (i + 1)) 0 < ns.getD (j + (i + 1) + 1) 0); rw [show j + 1 + i = j + (i + 1) by omega]
      rw [e]
      exact this)
    rw [List.map_append] at this
    have e : ((List.range m).map ((fun i : Nat => D.int (1 + ((j + i : Nat) : Int))) ∘ Nat.succ)) = (List.range m).map fun i : Nat => D.int (1 + ((j + 1 + i : Nat) : Int)) :=
      List.map_congr_left fun i _ => by show D.int (1 + ((j + (i + 1) : Nat) : Int)) = _; rw [show j + 1 + i = j + (i + 1) by omega]
    rw [e]
    have e2 : decide (((ns.getD j 0 : Nat) : Int) < ((ns.getD (j + 1) 0 : Nat) : Int)) = decide (ns.getD j 0 < ns.getD (j + 1) 0) := by
      simp
    rw [e2]
    exact this
theorem m_are_names : Meets t_are_names 2 2 sp_are_names := by
  rintro args Qd Xd ⟨many, d, k, rfl, hp, hQ⟩
  have nv := pl_noVal k d hp
  show t_are_names _ _ [_, _, .un, .un]
  unfold t_are_names
  cases d with
  | val _ => cases k <;> simp [D.pl] at hp
  | fz _ => cases k <;> simp [D.pl] at hp
  | tk _ => cases k <;> simp [D.pl] at hp
  | exc _ => cases k <;> simp [D.pl] at hp
  | glo _ => cases k <;> simp [D.pl] at hp
  | dk _ _ => cases k <;> simp [D.pl] at hp
  | dt _ _ => cases k <;> simp [D.pl] at hp
  | tup ds =>
    cases k with
    | zero => simp [D.pl] at hp
    | succ k =>
      rw [D.pl, Bool.and_eq_true, List.all_eq_true, decide_eq_true_eq] at hp
      trivial
      simp only [nv, D.isFz, true_and, Bool.not_true, Bool.false_eq_true, if_false]
      refine q1_are_names (k := k) ds [] hp.2 (by simp; omega) fun b => ?_
      trivial
      refine ⟨ds.map (inR many), rfl, ?_⟩
      have ea : (ds.map (inR many)).all id = ds.all (inR many) := by rw [List.all_map]; rfl
      rw [ea]
      by_cases h : ds.all (inR many) = true
      · rw [h, if_neg (by simp)]
        obtain ⟨ns, rfl, hns⟩ := all_inR h
        rw [nD_len] at *
        trivial
        refine ⟨⟨by omega, by omega⟩, ⟨by omega, by omega⟩, ?_⟩
        have er : rgD 1 (ns.length : Int) = (List.range (ns.length - 1)).map fun i : Nat => D.int (1 + ((0 + i : Nat) : Int)) := by
          unfold rgD
          rw [show ((ns.length : Int) - 1).toNat = ns.length - 1 by omega]
          exact List.map_congr_left fun i _ => by rw [Nat.zero_add]
        rw [er]
        refine q2_are_names (ns.length - 1) 0 [] (by omega) rfl (by omega) fun b => ?_
        trivial
        refine ⟨_, rfl, ?_⟩
        refine hQ _ _ ?_
        rw [List.all_map, List.all_eq_true]
        constructor
        · intro hr
          refine ⟨ns, rfl, rising_adj.2 fun j hj => ?_, hns⟩
          have := hr j (List.mem_range.2 (by omega))
          simpa using this
        · rintro ⟨ns', e, hr, _⟩ j hj
          have e' : ns = ns' := by
            have := D.tup.inj e
            exact nD_inj this
          subst e'
          have := rising_adj.1 hr j (by have := List.mem_range.1 hj; omega)
          simpa using this
      · have hf : ds.all (inR many) = false := by simpa using h
        rw [hf, if_pos (by simp)]
        refine hQ _ _ ⟨fun z => by simp at z, ?_⟩
        rintro ⟨ns, e, _, hn⟩
        have e := D.tup.inj e
        subst e
        exact absurd (inR_all hn) h
  | _ =>
    trivial
    simp only [nv, D.isFz, true_and, Bool.not_false, if_true]
    exact hQ _ _ ⟨fun z => by simp at z, fun ⟨_, e, _⟩ => by simp at e⟩
theorem pl_tupN (ns : List Nat) (h : ns.length ≤ 100000) : D.pl 1 (.tup (nD ns)) = true := by
  simp only [D.pl, pl_nats, nD_len, h]
  rfl
end LS
namespace LS
open PySem L2 HD PM
theorem iD_snoc (l : List Int) (x : Int) : iD l ++ [D.int x] = iD (l ++ [x]) := (iD_app l [x]).symm
theorem nD_snoc (l : List Nat) (x : Nat) : nD l ++ [D.int (x : Nat)] = nD (l ++ [x]) := (nD_app l [x]).symm
theorem R_if {R : Option HD.D → HD.Env' → Prop} {b b' : Bool} {x : HD.D} {env : HD.Env'} (e : b = b') (h : R (if b' = true then some x else none) env) : if b = true then R (some x) env else R none env := by
  subst e
  cases b <;> exact h
def xWords : List Str := [Str.ofString "filling", Str.ofString "name", Str.ofString "many", Str.ofString "deeds", Str.ofString "offers", Str.ofString "tree", Str.ofString "bag", Str.ofString "part", Str.ofString "worths", Str.ofString "back", Str.ofString "weights", Str.ofString "number", Str.ofString "row", Str.ofString "text"]
def xWord (c : Str) : Str := xWords.getD (xAll.idxOf c) (Str.ofString "")
def sp_law_class (cs : List Str) : DSpec := fun args Q _ => ∃ c : Str, args = [.ext (.exc c)] ∧ c ∈ cs ∧ c ∈ xAll ∧ ∀ fin, Q (.ext (.str (xWord c))) fin
theorem isX_glo {cs : List Str} {c : Str} (hc : c ∈ cs) (x : Str) (hx : x ∈ xAll) (Q : Sl → Prop) : fIsX (xtab cs) [.exc c, .glo x] Q = Q (.ext (.bl (decide (x = c)))) := by
  refine propext ⟨fun ⟨b, h, q⟩ => ?_, fun q => ⟨_, ?_, q⟩⟩
  · unfold xtab at h
    simp only [if_pos hc, if_pos hx, Option.some.injEq] at h
    rw [h]; exact q
  · unfold xtab
    simp only [if_pos hc, if_pos hx]
theorem isX_ve {cs : List Str} {c : Str} (hc : c ∈ cs) (Q : Sl → Prop) : fIsX (xtab cs) [.exc c, .val (.ty "ValueError")] Q = Q (.ext (.bl true)) := by
  refine propext ⟨fun ⟨b, h, q⟩ => ?_, fun q => ⟨_, ?_, q⟩⟩
  · unfold xtab at h
    simp only [if_pos hc, if_true, Option.some.injEq] at h
    rw [h]; exact q
  · unfold xtab
    simp only [if_pos hc, if_true]
def xKinds (c : Str) : List D := xAll.map fun x => D.bl (decide (x = c))
theorem xk_count {c : Str} (h : c ∈ xAll) : (xKinds c).countP (fun z => eqV z.toV (D.bl true).toV) = 1 := by
  simp only [xAll, List.mem_cons, List.not_mem_nil, or_false] at h
  rcases h with rfl | rfl | rfl | rfl | rfl | rfl | rfl | rfl | rfl | rfl | rfl | rfl | rfl | rfl <;> decide +kernel
theorem xk_at {c : Str} (h : c ∈ xAll) : D.at? (.bl true) (xKinds c) = some (xAll.idxOf c) := by
  simp only [xAll, List.mem_cons, List.not_mem_nil, or_false] at h
  rcases h with rfl | rfl | rfl | rfl | rfl | rfl | rfl | rfl | rfl | rfl | rfl | rfl | rfl | rfl <;> decide +kernel
end LS
namespace LS
open PySem L2 HD PM
local macro_rules | `(tactic| trivial) => `(tactic| try simp -dsimp only [↓sSeq, ↓sIf, ↓sRet, ↓retD_ext, ↓retD_lst, ↓retD_al, ↓sSet, ↓sSetE, ↓sAsg, ↓sDrop, ↓sNext, ↓sFor, ↓sRetN, ↓sCont, ↓sBreak, ↓dTest, ↓dOp, ↓dVar_w, ↓dC, ↓dCons, ↓dNil, ↓dTup, ↓dLst, ↓frzDs, ↓frzD_ext, ↓frzD_lst, ↓frzD_al, ↓wd_ext, ↓wd_lst, ↓wd_al, ↓wds, ↓AtS_ext, ↓AtS_lst, ↓AtL, ↓fAdd, ↓fSub, ↓fMul, ↓fDiv, ↓fMod, ↓fPow, ↓fCmp, ↓fIn, ↓fEq_ii, ↓fEq_ss, ↓fEq_bb, ↓fEq_tt, ↓fEq_ll, ↓fNe_ii, ↓fNe_ss, ↓fNe_bb, ↓fNe_tt, ↓fNe_ll, ↓fIx_l, ↓fIx_t, ↓fIx_k, ↓fIx_f, ↓GetS_some, ↓NatS_some, ↓fSl, ↓fIsN, ↓fNotN, ↓D.knN, ↓dNot, ↓dAnd, ↓dOr, ↓dAndV_w, ↓dOrV_w, ↓dNotV, ↓dIf, ↓dNeg, ↓dChain_w, ↓BlS_bl, ↓dCall_w, ↓dCallJ_w, ↓anyAl, ↓frozs, ↓froz, ↓gSet, ↓gTupD, ↓gsCons, ↓gsNil, ↓dSeq, ↓seqD_tup, ↓seqD_elst, ↓seqD_lst, ↓seqD_al, ↓dRange1, ↓dRange2, ↓dZip, ↓dCB, ↓dLc, ↓dYes, ↓dNoPart, ↓dPart, ↓dSl, ↓fLen, ↓fMin, ↓fMax, ↓fSum, ↓fAll, ↓fAny, ↓fSorted, ↓fTuple, ↓fList, ↓dRg1, ↓dRg2, ↓dLstRg, ↓dTupRg, ↓dIndex, ↓fIdx, ↓dAppend_w, ↓dExtend_w, ↓extD_lst, ↓dPopAt_w, ↓popD_int, ↓dPop_w, ↓mutD_w, ↓sSetItem_w, ↓setD_int, ↓dSortSet, ↓dTable_w, ↓wipeE, finals1, finals2, finals3, finals4, finals5, finals6, fin1_ext, fin1_lst, List.getElem?_cons_zero, List.getElem?_cons_succ, List.getElem?_nil, List.set_cons_zero, List.set_cons_succ, List.cons_append, List.nil_append, List.append_nil, List.replicate_succ, List.replicate_zero, List.map_cons, List.map_nil, List.length_cons, List.length_nil, true_and, and_true, ite_true, ite_false, if_true, if_false, Bool.false_eq_true, decide_eq_true_eq, Sl.plain, D.isSq, eq_self_iff_true, forall_const, reduceIte, true_or, or_true, atI_0, atI_1, atI_2, atI_3, ixN_0, ixN_1, ixN_2, AtS_ext, AtS_lst, FzS_lst, FzS_ext, GetS_some, NatS_some, ↓fIsi1, ↓fIsi2, BoolS_some, HD.kb_non_tuple, HD.kb_non_list, HD.kb_non_bool, HD.kb_non_int, HD.kb_non_str, HD.kb_bl_tuple, HD.kb_bl_list, HD.kb_bl_bool, HD.kb_bl_int, HD.kb_bl_str, HD.kb_int_tuple, HD.kb_int_list, HD.kb_int_bool, HD.kb_int_int, HD.kb_int_str, HD.kb_str_tuple, HD.kb_str_list, HD.kb_str_bool, HD.kb_str_int, HD.kb_str_str, HD.kb_lst_tuple, HD.kb_lst_list, HD.kb_lst_bool, HD.kb_lst_int, HD.kb_lst_str, HD.kb_tup_tuple, HD.kb_tup_list, HD.kb_tup_bool, HD.kb_tup_int, HD.kb_tup_str, ↓sFz_w, ↓FzS_lst, ↓FzS_ext, ↓dSortSetL, ↓fAbs, ↓fInt, ↓fRepr, ↓fLtT, ↓sRaise, ↓sTryKeep, ↓dCallV_w, ↓dMeth, ↓fCount, ↓fSplit])
def sp_law_gprime : DSpec := sp_law_prime
def t_law_gprime : DTS :=
    (sSeq (sSetE 1 (dLst (dCons (dC (.int 2147483647)) (dCons (dC (.int 2147483629)) (dCons (dC (.int 2147483587)) (dCons (dC (.int 2147483579)) (dCons (dC (.int 2147483563)) (dCons (dC (.int 2147483549)) (dCons (dC (.int 2147483543)) dNil)))))))))
    (sRet (dOp fIx (dOp fAdd (dVar 1) (dLst (dCons (dC (.int 2147483497)) (dCons (dC (.int 2147483489)) dNil)))) (dOp fMod (dVar 0) (dC (.int 9))))))
theorem m_law_gprime : Meets t_law_gprime 1 1 sp_law_gprime := by
  rintro args Qd Xd ⟨i, rfl, hi, hQ⟩
  show t_law_gprime _ _ [_, _]
  unfold t_law_gprime
  trivial
  refine ⟨by decide, by decide, by decide, by decide, ?_⟩
  have h : i % 9 = 0 ∨ i % 9 = 1 ∨ i % 9 = 2 ∨ i % 9 = 3 ∨ i % 9 = 4 ∨ i % 9 = 5 ∨ i % 9 = 6 ∨ i % 9 = 7 ∨ i % 9 = 8 := by omega
  rcases h with h | h | h | h | h | h | h | h | h <;> rw [h] <;> exact ⟨_, rfl, hQ _ _ (by decide) (by decide)⟩
def sp_law_gfresh : DSpec := fun args Q _ => ∃ (n : Nat) (a : Addr) (ds : List D), args = [.lst a ds] ∧ JarOk n ds ∧ n < 4294967296 ∧ ∀ (r : Int) ds' fin, JarOk (n + 1) ds' → Q (dI r) (.lst a ds' :: fin)
def k1_law_gfresh : DTS :=
    (sSeq (sSetE 3 (dOp fMod (dOp fPow (dOp fAdd (dOp fAdd (dOp fMul (dOp fMod (dVar 2) (dC (.int 2147483477))) (dOp fAdd (dVar 1) (dC (.int 1)))) (dOp fMul (dC (.int 104729)) (dVar 1))) (dC (.int 17))) (dC (.int 5))) (dCall sp_law_gprime (dCons (dVar 1) dNil))))
    (sSeq (sSetE 4 (dOp fMod (dOp fPow (dOp fAdd (dOp fAdd (dOp fMul (dVar 3) (dOp fAdd (dVar 1) (dC (.int 3)))) (dOp fMod (dVar 2) (dC (.int 65537)))) (dC (.int 1))) (dC (.int 3))) (dCall sp_law_gprime (dCons (dOp fAdd (dVar 1) (dC (.int 4))) dNil))))
    (sSeq (sSetE 5 (dOp fMod (dOp fAdd (dOp fMul (dVar 4) (dVar 4)) (dVar 3)) (dCall sp_law_gprime (dCons (dOp fAdd (dVar 1) (dC (.int 7))) dNil))))
    (sRet (dOp fAdd (dOp fMul (dOp fAdd (dOp fMul (dVar 5) (dC (.int 2147483647))) (dVar 4)) (dC (.int 2147483629))) (dVar 3))))))
def k2_law_gfresh : DTS :=
    (sSeq (sIf (dAnd (dTest (dOp (fCmp fun i j => decide (i < j)) (dVar 1) (dCB fLen (dCons (dOp fIx (dVar 0) (dC (.int 0))) dNil)))) (dTest (dOp (fCmp fun i j => decide (j ≤ i)) (dVar 2) (dOp fPow (dC (.int 10)) (dC (.int 18)))))) (sRet (dVar 2)) sNext)
    k1_law_gfresh)
def t_law_gfresh : DTS :=
    (sSeq (sSetE 1 (dOp fIx (dVar 0) (dC (.int 1))))
    (sSeq (sSetItem 0 (dC (.int 1)) (dOp fAdd (dVar 1) (dC (.int 1))))
    (sSeq (sSetE 2 (dOp fAdd (dOp fMul (dC (.int 7)) (dVar 1)) (dC (.int 3))))
    (sSeq (sIf (dTest (dOp (fCmp fun i j => decide (i < j)) (dVar 1) (dCB fLen (dCons (dOp fIx (dVar 0) (dC (.int 0))) dNil)))) (sSetE 2 (dOp fIx (dOp fIx (dVar 0) (dC (.int 0))) (dVar 1))) (sIf (dTest (dOp (fCmp fun i j => decide (j < i)) (dCB fLen (dCons (dOp fIx (dVar 0) (dC (.int 0))) dNil)) (dC (.int 0)))) (sSetE 2 (dOp fAdd (dOp fMul (dOp fMod (dOp fIx (dOp fIx (dVar 0) (dC (.int 0))) (dOp fMod (dVar 1) (dCB fLen (dCons (dOp fIx (dVar 0) (dC (.int 0))) dNil)))) (dC (.int 1000003))) (dOp fAdd (dVar 1) (dC (.int 1)))) (dVar 1))) sNext))
    k2_law_gfresh))))
theorem q1_law_gfresh {Ex : DX} {E : DEnds} {n : Nat} {a : Addr} {cells : List Int} {at' left c : Int} {s3 s4 s5 : Sl} (h0 : 0 ≤ at') (h1 : at' ≤ n) (hn : n < 4294967296)
    (hE : ∀ r ds' env, JarOk (n + 1) ds' → E.rt (dI r) (.lst a ds' :: env)) : k1_law_gfresh Ex E [.lst a [.lst (iD cells), .int (at' + 1), .int left], dI at', dI c, s3, s4, s5] := by
  have hj : JarOk (n + 1) [.lst (iD cells), .int (at' + 1), .int left] := ⟨cells, at' + 1, left, rfl, by omega, by omega⟩
  unfold k1_law_gfresh
  trivial
  have b0 := Int.emod_nonneg c (b := 2147483477) (by omega)
  have b1 := Int.emod_lt_of_pos c (b := 2147483477) (by omega)
  have b2 := Int.emod_nonneg c (b := 65537) (by omega)
  have b3 := Int.emod_lt_of_pos c (b := 65537) (by omega)
  generalize c % 2147483477 = c1 at *
  have g0 : 0 ≤ c1 * (at' + 1) := Int.mul_nonneg b0 (by omega)
  have g1 : c1 * (at' + 1) ≤ 2147483477 * 4294967296 := Int.mul_le_mul (by omega) (by omega) (by omega) (by omega)
  refine ⟨by decide, cmul64 (by omega) (by omega) (by omega) (by omega), cmul64 (by omega) (by omega) (by omega) (by omega), ⟨by decide, by decide, by omega⟩, at', rfl, h0, fun p fin p0 p1 => ?_⟩
  trivial
  have o0 := Int.emod_nonneg ((c1 * (at' + 1) + 104729 * at' + 17) ^ Int.toNat 5) (b := p) (by omega)
  have o1 := Int.emod_lt_of_pos ((c1 * (at' + 1) + 104729 * at' + 17) ^ Int.toNat 5) (b := p) (by omega)
  generalize (c1 * (at' + 1) + 104729 * at' + 17) ^ Int.toNat 5 % p = one at *
  generalize c % 65537 = c2 at *
  have g2 : 0 ≤ one * (at' + 3) := Int.mul_nonneg o0 (by omega)
  have g3 : one * (at' + 3) ≤ 2147483647 * 4294967300 := Int.mul_le_mul (by omega) (by omega) (by omega) (by omega)
  refine ⟨by omega, cmul64 (by omega) (by omega) (by omega) (by omega), by decide, ⟨by decide, by decide, by omega⟩, at' + 4, rfl, by omega, fun p' fin' p0' p1' => ?_⟩
  trivial
  have t0 := Int.emod_nonneg ((one * (at' + 3) + c2 + 1) ^ Int.toNat 3) (b := p') (by omega)
  have t1 := Int.emod_lt_of_pos ((one * (at' + 3) + c2 + 1) ^ Int.toNat 3) (b := p') (by omega)
  generalize (one * (at' + 3) + c2 + 1) ^ Int.toNat 3 % p' = two at *
  refine ⟨by omega, cmul64 (by omega) (by omega) (by omega) (by omega), at' + 7, rfl, by omega, fun p2 fin2 p20 p21 => ?_⟩
  trivial
  have u0 := Int.emod_nonneg (two * two + one) (b := p2) (by omega)
  have u1 := Int.emod_lt_of_pos (two * two + one) (b := p2) (by omega)
  generalize (two * two + one) % p2 = three at *
  exact ⟨by omega, cmul64 (by omega) (by omega) (by omega) (by omega), cmul64 (by omega) (by omega) (by omega) (by omega), hE _ _ _ hj⟩
theorem q2_law_gfresh {Ex : DX} {E : DEnds} {n : Nat} {a : Addr} {cells : List Int} {at' left c : Int} {s3 s4 s5 : Sl} (h0 : 0 ≤ at') (h1 : at' ≤ n) (hn : n < 4294967296)
    (hE : ∀ r ds' env, JarOk (n + 1) ds' → E.rt (dI r) (.lst a ds' :: env)) : k2_law_gfresh Ex E [.lst a [.lst (iD cells), .int (at' + 1), .int left], dI at', dI c, s3, s4, s5] := by
  have hj : JarOk (n + 1) [.lst (iD cells), .int (at' + 1), .int left] := ⟨cells, at' + 1, left, rfl, by omega, by omega⟩
  unfold k2_law_gfresh
  trivial
  split
  · refine ⟨⟨by decide, by decide, by decide⟩, ?_⟩
    split
    · exact hE _ _ _ hj
    · exact q1_law_gfresh h0 h1 hn hE
  · exact q1_law_gfresh h0 h1 hn hE
theorem m_law_gfresh : Meets t_law_gfresh 1 5 sp_law_gfresh := by
  rintro args Qd Xd ⟨n, a, ds, rfl, ⟨cells, at', left, rfl, h0, h1⟩, hn, hQ⟩
  show t_law_gfresh _ _ [_, .un, .un, .un, .un, .un]
  unfold t_law_gfresh
  trivial
  have k2 : ∀ {c : Int} {s3 s4 s5 : Sl}, k2_law_gfresh (exOf [Sl.lst a [D.lst (iD cells), D.int at', D.int left]] Xd) (endsOf [Sl.lst a [D.lst (iD cells), D.int at', D.int left]] Qd) [.lst a [.lst (iD cells), .int (at' + 1), .int left], dI at', dI c, s3, s4, s5] :=
    fun {c s3 s4 s5} => q2_law_gfresh h0 h1 hn fun r ds' env hj => by
      trivial
      exact hQ _ _ _ hj
  refine ⟨cmul64 (by omega) (by omega) (by omega) (by omega), ?_⟩
  rw [iD_len]
  split
  · rename_i hl
    have hj : at'.toNat < cells.length := by omega
    refine ⟨.int (cells[at'.toNat]), atI_int h0 (by simp [List.getElem?_map, List.getElem?_eq_getElem hj]), ?_⟩
    exact k2
  · split
    · rename_i h1 hl
      have z0 := Int.emod_nonneg at' (b := (cells.length : Int)) (by omega)
      have z1 := Int.emod_lt_of_pos at' hl
      refine ⟨hl, ?_⟩
      have hj : (at' % (cells.length : Int)).toNat < cells.length := by omega
      refine ⟨.int (cells[(at' % (cells.length : Int)).toNat]), atI_int z0 (by simp [List.getElem?_map, List.getElem?_eq_getElem hj]), ?_⟩
      trivial
      have b0 := Int.emod_nonneg cells[(at' % (cells.length : Int)).toNat] (b := 1000003) (by omega)
      have b1 := Int.emod_lt_of_pos cells[(at' % (cells.length : Int)).toNat] (b := 1000003) (by omega)
      refine ⟨by decide, cmul64 (by omega) (by omega) (by omega) (by omega), ?_⟩
      exact k2
    · exact k2
def GdOk (m : Int) : Prop := 0 < m ∧ m.natAbs < 2 ^ 1000
theorem gdok {m : Int} (h0 : 0 < m) (h1 : m < 18446744073709551616) : GdOk m := ⟨h0, Nat.lt_of_lt_of_le (by omega : m.natAbs < 2 ^ 64) (Nat.pow_le_pow_right (by decide) (by decide))⟩
def sp_law_gdraw : DSpec := fun args Q _ => ∃ (n : Nat) (a : Addr) (ds : List D) (m : Int), args = [.lst a ds, dI m] ∧ JarOk n ds ∧ n < 4294967296 ∧ GdOk m ∧
  ∀ (r : Int) ds' fin, 0 ≤ r → r < m → JarOk (n + 1) ds' → Q (dI r) (.lst a ds' :: fin)
def k1_law_gdraw : DTS :=
    (sSeq (sSetE 2 (dOp fMod (dOp fIx (dVar 0) (dC (.int 2))) (dVar 1)))
    (sSeq (sSetItem 0 (dC (.int 2)) (dOp fDiv (dOp fIx (dVar 0) (dC (.int 2))) (dVar 1)))
    (sRet (dVar 2))))
def t_law_gdraw : DTS :=
    (sSeq (sIf (dTest (dOp (fCmp fun i j => decide (i < j)) (dOp fIx (dVar 0) (dC (.int 2))) (dVar 1))) (sSetItem 0 (dC (.int 2)) (dCallJ sp_law_gfresh 0 dNil)) sNext)
    k1_law_gdraw)
theorem q1_law_gdraw {Ex : DX} {E : DEnds} {n : Nat} {a : Addr} {m : Int} {ds : List D} {s2 : Sl} (hj : JarOk n ds) (hm0 : 0 < m) (hm1 : m.natAbs < 2 ^ 1000)
    (hE : ∀ r ds' env, 0 ≤ r → r < m → JarOk n ds' → E.rt (dI r) (.lst a ds' :: env)) : k1_law_gdraw Ex E [.lst a ds, dI m, s2] := by
  obtain ⟨cells, at', left, rfl, h0, h1⟩ := hj
  unfold k1_law_gdraw
  trivial
  refine ⟨hm0, ⟨hm0, ?_⟩, hE _ _ _ (Int.emod_nonneg _ (by omega)) (Int.emod_lt_of_pos _ hm0) ⟨cells, at', _, rfl, h0, by omega⟩⟩
  have : m.natAbs.log2 < 1000 := (Nat.log2_lt (by omega)).2 hm1
  omega
theorem m_law_gdraw : Meets t_law_gdraw 2 1 sp_law_gdraw := by
  rintro args Qd Xd ⟨n, a, ds, m, rfl, hj, hn, ⟨hm0, hm1⟩, hQ⟩
  show t_law_gdraw _ _ [_, _, .un]
  unfold t_law_gdraw
  have hj' := hj
  obtain ⟨cells, at', left, rfl, h0, h1⟩ := hj'
  trivial
  have k1 : ∀ {ds1 : List D}, JarOk (n + 1) ds1 → k1_law_gdraw (exOf [Sl.lst a [D.lst (iD cells), D.int at', D.int left], dI m] Xd) (endsOf [Sl.lst a [D.lst (iD cells), D.int at', D.int left], dI m] Qd) [.lst a ds1, dI m, .un] :=
    fun {ds1} hj1 => q1_law_gdraw hj1 hm0 hm1 fun r ds' env r0 r1 hj2 => by
      trivial
      exact hQ _ _ _ r0 r1 hj2
  split
  · refine ⟨n, a, _, rfl, hj, hn, fun r ds' fin hj1 => ?_⟩
    obtain ⟨cells1, at1, left1, rfl, h01, h11⟩ := hj1
    trivial
    exact k1 ⟨cells1, at1, _, rfl, h01, h11⟩
  · exact k1 (hj.up (by omega))
def sp_law_gfillings : DSpec := sp_fillings_of
def e1_law_gfillings : DT :=
    (dOp fAdd (dVar 5) (dTup (dCons (dVar 6) dNil)))
def b2_law_gfillings : DTS :=
    (sDrop (dExtend 4 (dLc (dRange1 (dCons (dOp fIx (dVar 0) (dVar 3)) dNil)) (gSet 6) dYes e1_law_gfillings [6])))
def k3_law_gfillings : DTS :=
    (sSetE 2 (dVar 4))
def b4_law_gfillings : DTS :=
    (sSeq (sSet 4 (dLst dNil))
    (sSeq (sFor (dSeq (dVar 2)) (gSet 5) b2_law_gfillings)
    k3_law_gfillings))
def k5_law_gfillings : DTS :=
    (sRet (dVar 2))
def t_law_gfillings : DTS :=
    (sSeq (sSetE 2 (dLst (dCons (dTup dNil) dNil)))
    (sSeq (sFor (dSeq (dVar 1)) (gSet 3) b4_law_gfillings)
    k5_law_gfillings))
theorem m_law_gfillings : Meets t_law_gfillings 2 5 sp_law_gfillings := m_fillings_of
end LS
namespace LS
open PySem L2 HD PM
abbrev dPs (ps : List Part) : D := .tup (ps.map dP)
abbrev dSh (S : List Nat) (ps : List Part) : D := .tup [.tup (nD S), dPs ps]
structure ShOk (S : List Nat) (ps : List Part) : Prop where
  sz : SzOk S
  one : 0 < S.length
  ok : ∀ p ∈ ps, p.Ok S
  bd : ∃ b, 0 < b ∧ b * ps.length ≤ 40 * max ps.length 20 ∧ ∀ p ∈ ps, Bd b p
  few : ps.length ≤ 60
structure ShO4 (S : List Nat) (ps : List Part) : Prop extends ShOk S ps where
  b4 : ∀ p ∈ ps, Bd 40 p
instance {S : List Nat} {ps : List Part} : Coe (ShO4 S ps) (ShOk S ps) := ⟨fun h => h.toShOk⟩
end LS
namespace LS
open PySem L2 HD PM
local macro_rules | `(tactic| trivial) => `(tactic| try simp -dsimp only [↓sSeq, ↓sIf, ↓sRet, ↓retD_ext, ↓retD_lst, ↓retD_al, ↓sSet, ↓sSetE, ↓sAsg, ↓sDrop, ↓sNext, ↓sFor, ↓sRetN, ↓sCont, ↓sBreak, ↓dTest, ↓dOp, ↓dVar_w, ↓dC, ↓dCons, ↓dNil, ↓dTup, ↓dLst, ↓frzDs, ↓frzD_ext, ↓frzD_lst, ↓frzD_al, ↓wd_ext, ↓wd_lst, ↓wd_al, ↓wds, ↓AtS_ext, ↓AtS_lst, ↓AtL, ↓fAdd, ↓fSub, ↓fMul, ↓fDiv, ↓fMod, ↓fPow, ↓fCmp, ↓fIn, ↓fEq_ii, ↓fEq_ss, ↓fEq_bb, ↓fEq_tt, ↓fEq_ll, ↓fNe_ii, ↓fNe_ss, ↓fNe_bb, ↓fNe_tt, ↓fNe_ll, ↓fIx_l, ↓fIx_t, ↓fIx_k, ↓fIx_f, ↓GetS_some, ↓NatS_some, ↓fSl, ↓fIsN, ↓fNotN, ↓D.knN, ↓dNot, ↓dAnd, ↓dOr, ↓dAndV_w, ↓dOrV_w, ↓dNotV, ↓dIf, ↓dNeg, ↓dChain_w, ↓BlS_bl, ↓dCall_w, ↓dCallJ_w, ↓anyAl, ↓frozs, ↓froz, ↓gSet, ↓gTupD, ↓gsCons, ↓gsNil, ↓dSeq, ↓seqD_tup, ↓seqD_elst, ↓seqD_lst, ↓seqD_al, ↓dRange1, ↓dRange2, ↓dZip, ↓dCB, ↓dLc, ↓dYes, ↓dNoPart, ↓dPart, ↓dSl, ↓fLen, ↓fMin, ↓fMax, ↓fSum, ↓fAll, ↓fAny, ↓fSorted, ↓fTuple, ↓fList, ↓dRg1, ↓dRg2, ↓dLstRg, ↓dTupRg, ↓dIndex, ↓fIdx, ↓dAppend_w, ↓dExtend_w, ↓extD_lst, ↓dPopAt_w, ↓popD_int, ↓dPop_w, ↓mutD_w, ↓sSetItem_w, ↓setD_int, ↓dSortSet, ↓dTable_w, ↓wipeE, finals1, finals2, finals3, finals4, finals5, finals6, fin1_ext, fin1_lst, List.getElem?_cons_zero, List.getElem?_cons_succ, List.getElem?_nil, List.set_cons_zero, List.set_cons_succ, List.cons_append, List.nil_append, List.append_nil, List.replicate_succ, List.replicate_zero, List.map_cons, List.map_nil, List.length_cons, List.length_nil, true_and, and_true, ite_true, ite_false, if_true, if_false, Bool.false_eq_true, decide_eq_true_eq, Sl.plain, D.isSq, eq_self_iff_true, forall_const, reduceIte, true_or, or_true, atI_0, atI_1, atI_2, atI_3, ixN_0, ixN_1, ixN_2, AtS_ext, AtS_lst, FzS_lst, FzS_ext, GetS_some, NatS_some, ↓fIsi1, ↓fIsi2, BoolS_some, HD.kb_non_tuple, HD.kb_non_list, HD.kb_non_bool, HD.kb_non_int, HD.kb_non_str, HD.kb_bl_tuple, HD.kb_bl_list, HD.kb_bl_bool, HD.kb_bl_int, HD.kb_bl_str, HD.kb_int_tuple, HD.kb_int_list, HD.kb_int_bool, HD.kb_int_int, HD.kb_int_str, HD.kb_str_tuple, HD.kb_str_list, HD.kb_str_bool, HD.kb_str_int, HD.kb_str_str, HD.kb_lst_tuple, HD.kb_lst_list, HD.kb_lst_bool, HD.kb_lst_int, HD.kb_lst_str, HD.kb_tup_tuple, HD.kb_tup_list, HD.kb_tup_bool, HD.kb_tup_int, HD.kb_tup_str, ↓sFz_w, ↓FzS_lst, ↓FzS_ext, ↓dSortSetL, ↓fAbs, ↓fInt, ↓fRepr, ↓fLtT, ↓sRaise, ↓sTryKeep, ↓dCallV_w, ↓dMeth, ↓fCount, ↓fSplit])
def sp_law_gworths : DSpec := fun args Q _ => ∃ (n : Nat) (a : Addr) (ds : List D) (w : Wd) (many : Nat), args = [.lst a ds, dW w, dI (many : Nat)] ∧ JarOk n ds ∧ n + many + 1 < 4294967296 ∧ many ≤ 4096 ∧
  ∀ (ws : List Int) ds' fin, ws.length = many → (∀ x ∈ ws, NumOk w x) → JarOk (n + many + 1) ds' → Q (.ext (.tup (iD ws))) (.lst a ds' :: fin)
def e1_law_gworths : DT :=
    (dOp fIx (dLst (dCons (dC (.int 0)) (dCons (dC (.int 1)) (dCons (dC (.int 1)) (dCons (dOp fMod (dVar 3) (dC (.int 2))) dNil))))) (dCallJ sp_law_gdraw 0 (dCons (dC (.int 4)) dNil)))
def e2_law_gworths : DT :=
    (dOp fSub (dCallJ sp_law_gdraw 0 (dCons (dOp fAdd (dOp fMul (dC (.int 2)) (dOp fPow (dC (.int 10)) (dC (.int 12)))) (dC (.int 1))) dNil)) (dOp fPow (dC (.int 10)) (dC (.int 12))))
def e3_law_gworths : DT :=
    (dOp fSub (dCallJ sp_law_gdraw 0 (dCons (dOp fIx (dLst (dCons (dC (.int 3)) (dCons (dC (.int 13)) (dCons (dC (.int 2)) dNil)))) (dVar 3)) dNil)) (dOp fIx (dLst (dCons (dC (.int 0)) (dCons (dC (.int 4)) (dCons (dC (.int 0)) dNil)))) (dVar 3)))
def t_law_gworths : DTS :=
    (sSeq (sSetE 3 (dCallJ sp_law_gdraw 0 (dCons (dC (.int 4)) dNil)))
    (sSeq (sIf (dTest (dOp fEq (dVar 1) (dC (.str (Str.ofString "any"))))) (sRet (dCB fTuple (dCons (dLc (dRange1 (dCons (dVar 2) dNil)) (gSet 4) dYes e1_law_gworths [4]) dNil))) sNext)
    (sSeq (sIf (dTest (dOp fEq (dVar 3) (dC (.int 3)))) (sRet (dCB fTuple (dCons (dLc (dRange1 (dCons (dVar 2) dNil)) (gSet 4) dYes e2_law_gworths [4]) dNil))) sNext)
    (sRet (dCB fTuple (dCons (dLc (dRange1 (dCons (dVar 2) dNil)) (gSet 4) dYes e3_law_gworths [4]) dNil))))))
theorem q_gworths {te : DT} {Q : Sl → Env' → Prop} {a : Addr} {w : Wd} {many : Nat} {way : Int} {n : Nat} (hn : n + many + 1 < 4294967296) (hm : many ≤ 4096)
    (step : ∀ (m : Nat) (ds : List D) (k : Nat) (N : Sl → Env' → Prop), JarOk m ds → m < 4294967296 → (∀ x ds', NumOk w x → JarOk (m + 1) ds' → N (dI x) [.lst a ds', dW w, dI (many : Nat), dI way, .ext (.int (k : Nat))]) → te noX [.lst a ds, dW w, dI (many : Nat), dI way, .ext (.int (k : Nat))] N)
    {ds : List D} (hj : JarOk (n + 1) ds) (hQ : ∀ b ws ds', ws.length = many → (∀ x ∈ ws, NumOk w x) → JarOk (n + many + 1) ds' → Q (.lst b (iD ws)) [.lst a ds', dW w, dI (many : Nat), dI way, .un]) :
    lcD (gSet 4) dYes te [4] (fun _ => True) Q (nD (List.range many)) [] [.lst a ds, dW w, dI (many : Nat), dI way, .un] := by
  refine lc_ind (fun k : Nat => D.int (k : Int)) (fun xs acc env => ∃ (m : Nat) (ds : List D) (ws : List Int), env = [.lst a ds, dW w, dI (many : Nat), dI way, .un] ∧ acc = iD ws ∧ JarOk m ds ∧ m + xs.length ≤ n + many + 1 ∧ ws.length + xs.length = many ∧ ∀ x ∈ ws, NumOk w x) ?_ ?_ (List.range many) [] _
    ⟨n + 1, ds, [], rfl, rfl, hj, by simp; omega, by simp, by simp⟩
  · rintro acc env ⟨m, ds, ws, rfl, rfl, hj, hm1, hl, hw⟩
    exact ⟨True.intro, fun b => hQ b ws ds (by simpa using hl) hw (hj.up (by simpa using hm1))⟩
  · rintro k xs acc env N ⟨m, ds, ws, rfl, rfl, hj, hm1, hl, hw⟩ hN
    rw [List.length_cons] at hm1 hl
    refine ⟨True.intro, by rw [iD_len]; exact Nat.lt_of_le_of_lt (by omega : ws.length ≤ 4096) (by decide), ?_⟩
    trivial
    refine step m ds k _ hj (by omega) fun x ds' hx hj' => ?_
    trivial
    refine hN _ _ ⟨m + 1, ds', ws ++ [x], rfl, by rw [iD_snoc], hj', by omega, by simp; omega, fun y hy => ?_⟩
    rcases List.mem_append.1 hy with h | h
    · exact hw y h
    · rw [List.mem_singleton.1 h]; exact hx
theorem m_law_gworths : Meets t_law_gworths 3 2 sp_law_gworths := by
  rintro args Qd Xd ⟨n, a, ds, w, many, rfl, hj, hn, hm, hQ⟩
  show t_law_gworths _ _ [_, _, _, .un, .un]
  unfold t_law_gworths
  trivial
  refine ⟨n, a, ds, 4, rfl, hj, by omega, gdok (by decide) (by decide), fun way ds1 fin r0 r1 hj1 => ?_⟩
  trivial
  have c10 : CPow 10 12 := ⟨by decide, by decide, by decide⟩
  rw [rgD_nat]
  simp only [w_any, decide_eq_true_eq, beq_iff_eq]
  have sm : small62 (many : Int) := ⟨by omega, by omega⟩
  split
  · rename_i hw
    refine ⟨sm, q_gworths hn hm (fun m ds k N hj hmm hN => ?_) hj1 fun b ws ds' h1 h2 h3 => ?_⟩
    · unfold e1_law_gworths
      trivial
      refine ⟨by decide, by decide, fun a' => ⟨m, a, ds, 4, rfl, hj, hmm, gdok (by decide) (by decide), fun r ds' fin r0' r1' hj' => ?_⟩⟩
      trivial
      have h : r = 0 ∨ r = 1 ∨ r = 2 ∨ r = 3 := by omega
      have z0 := Int.emod_nonneg way (b := 2) (by omega)
      have z1 := Int.emod_lt_of_pos way (b := 2) (by omega)
      rcases h with rfl | rfl | rfl | rfl
      all_goals
        refine ⟨_, rfl, ?_⟩
        trivial
        exact hN _ _ ⟨by omega, by omega, fun _ => by omega⟩ hj'
    · trivial
      exact hQ _ _ _ h1 h2 h3
  · rename_i hw
    split
    · rename_i h3
      refine ⟨sm, q_gworths hn hm (fun m ds k N hj hmm hN => ?_) hj1 fun b ws ds' h1 h2 h3 => ?_⟩
      · unfold e2_law_gworths
        trivial
        refine ⟨c10, cmul64 (by decide) (by decide) (by decide) (by decide), m, a, ds, _, rfl, hj, hmm, gdok (by decide) (by decide), fun r ds' fin r0' r1' hj' => ?_⟩
        trivial
        have r1'' : r < 2000000000001 := r1'
        refine ⟨c10, hN _ _ ⟨?_, ?_, fun e => absurd e hw⟩ hj'⟩
        · show -1000000000000 ≤ r - 1000000000000; omega
        · show r - 1000000000000 ≤ 1000000000000; omega
      · trivial
        exact hQ _ _ _ h1 h2 h3
    · rename_i h3
      refine ⟨sm, q_gworths hn hm (fun m ds k N hj hmm hN => ?_) hj1 fun b ws ds' h1 h2 h3 => ?_⟩
      · unfold e3_law_gworths
        trivial
        refine ⟨by decide, ?_⟩
        have h : way = 0 ∨ way = 1 ∨ way = 2 := by omega
        rcases h with rfl | rfl | rfl
        all_goals
          refine ⟨_, rfl, ?_⟩
          trivial
          refine ⟨m, a, ds, _, rfl, hj, hmm, gdok (by decide) (by decide), fun r ds' fin r0' r1' hj' => ?_⟩
          trivial
          first
            | exact ⟨by decide, hN _ _ ⟨by omega, by omega, fun e => absurd e hw⟩ hj'⟩
            | exact ⟨by decide, _, rfl, hN _ _ ⟨by omega, by omega, fun e => absurd e hw⟩ hj'⟩
      · trivial
        exact hQ _ _ _ h1 h2 h3
def PsOk (w : Wd) (S : List Nat) (ps : List Part) : Prop := ∀ p ∈ ps, p.Ok S ∧ NumsOk w p
def sp_law_gparts : DSpec := fun args Q _ => ∃ (n : Nat) (a : Addr) (ds : List D) (w : Wd) (S : List Nat) (Z : D) (most : Nat), args = [.lst a ds, dW w, .ext Z, dI (most : Nat)] ∧ SqN S Z ∧ JarOk n ds ∧ n + 300000 < 4294967296 ∧ SzOk S ∧ 0 < S.length ∧ most ≤ 60 ∧
  ∀ (ps : List Part) ds' fin, PsOk w S ps → ps.length ≤ most → JarOk (n + 300000) ds' → Q (.ext (dPs ps)) (.lst a ds' :: fin)
def e1_law_gparts : DT :=
    (dCallJ sp_law_gdraw 0 (dCons (dCB fLen (dCons (dVar 2) dNil)) dNil))
def b2_law_gparts : DTS :=
    (sSeq (sSetE 6 (dCB fTuple (dCons (dSortSetL (dLc (dRange1 (dCons (dCallJ sp_law_gdraw 0 (dCons (dC (.int 4)) dNil)) dNil)) (gSet 7) dYes e1_law_gparts [7])) dNil)))
    (sDrop (dAppend 4 (dTup (dCons (dVar 6) (dCons (dCallJ sp_law_gworths 0 (dCons (dVar 1) (dCons (dCB fLen (dCons (dCall sp_law_gfillings (dCons (dVar 2) (dCons (dVar 6) dNil))) dNil)) dNil))) dNil))))))
def k3_law_gparts : DTS :=
    (sRet (dCB fTuple (dCons (dVar 4) dNil)))
def t_law_gparts : DTS :=
    (sSeq (sSet 4 (dLst dNil))
    (sSeq (sFor (dRange1 (dCons (dCallJ sp_law_gdraw 0 (dCons (dOp fAdd (dVar 3) (dC (.int 1))) dNil)) dNil)) (gSet 5) b2_law_gparts)
    k3_law_gparts))
theorem sq_len {S : List Nat} {Z : D} {Q : Sl → Prop} (h : SqN S Z) (q : Q (dI (S.length : Nat))) : fLen [Z] Q := by
  rcases h with rfl | rfl
  · rw [← nD_len S] at q; exact q
  · rw [← nD_len S] at q; exact q
theorem m_law_gparts : Meets t_law_gparts 4 4 sp_law_gparts := by
  rintro args Qd Xd ⟨n, a, ds, w, S, Z, most, rfl, hZ, hj, hn, hS, hS1, hm, hQ⟩
  show t_law_gparts _ _ [_, _, _, _, .un, .un, .un, .un]
  unfold t_law_gparts
  trivial
  have h24 := hS.few
  refine ⟨by decide, fun a4 => ⟨n, a, ds, (most : Int) + 1, rfl, hj, by omega, gdok (by omega) (by omega), fun r ds1 fin r0 r1 hj1 => ?_⟩⟩
  trivial
  refine ⟨⟨by omega, by omega⟩, ?_⟩
  have er : rgD 0 r = nD (List.range r.toNat) := by rw [← rgD_nat, Int.toNat_of_nonneg r0]
  rw [er]
  refine for_ind (fun k : Nat => D.int (k : Int)) (fun xs env => ∃ (m : Nat) (ds : List D) (ps : List Part) (u5 u6 : Sl), env = [.lst a ds, dW w, .ext Z, dI (most : Nat), .lst a4 (ps.map dP), u5, u6, .un] ∧ JarOk m ds ∧ m + 4200 * xs.length ≤ n + 300000 ∧ ps.length + xs.length = r.toNat ∧ PsOk w S ps) ?_ ?_ (List.range r.toNat) _
    ⟨n + 1, ds1, [], _, _, rfl, hj1, by simp; omega, by simp, by intro p hp; simp at hp⟩
  · rintro env ⟨m, ds, ps, u5, u6, rfl, hj, hm1, hl, hp⟩
    refine ⟨True.intro, ?_⟩
    unfold k3_law_gparts
    trivial
    exact hQ _ _ _ hp (by simp at hl; omega) (hj.up (by simpa using hm1))
  · rintro k xs env N ⟨m, ds, ps, u5, u6, rfl, hj, hm1, hl, hp⟩ hN
    rw [List.length_cons] at hm1 hl
    refine ⟨True.intro, ?_⟩
    unfold b2_law_gparts
    trivial
    refine ⟨m, a, ds, 4, rfl, hj, by omega, gdok (by decide) (by decide), fun j ds2 fin j0 j1 hj2 => ?_⟩
    trivial
    refine ⟨⟨by omega, by omega⟩, ?_⟩
    have er : rgD 0 j = nD (List.range j.toNat) := by rw [← rgD_nat, Int.toNat_of_nonneg j0]
    rw [er]
    refine lc_ind (fun k : Nat => D.int (k : Int)) (fun xs acc env => ∃ (m2 : Nat) (ds : List D) (ns : List Nat), env = [.lst a ds, dW w, .ext Z, dI (most : Nat), .lst a4 (ps.map dP), .ext (.int (k : Nat)), u6, .un] ∧ acc = nD ns ∧ JarOk m2 ds ∧ m2 + xs.length ≤ m + 1 + j.toNat ∧ ns.length + xs.length = j.toNat ∧ ∀ x ∈ ns, x < S.length) ?_ ?_ (List.range j.toNat) [] _
      ⟨m + 1, ds2, [], rfl, rfl, hj2, by simp, by simp, by simp⟩
    · rintro acc env ⟨m2, ds3, ns, rfl, rfl, hj3, hm2, hl2, hns⟩
      simp only [List.length_nil, Nat.add_zero] at hm2 hl2
      refine ⟨True.intro, fun b => ?_⟩
      trivial
      refine ⟨ns.map fun n : Nat => (n : Int), (iD_nat ns).symm, by rw [List.length_map]; omega, fun ns' hs hmem => ?_⟩
      obtain ⟨U, rfl, hur, hu⟩ := nat_of_set hs hmem
      rw [show List.map D.int (List.map (fun n : Nat => (n : Int)) U) = nD U from iD_nat U]
      trivial
      have hUl : ∀ n ∈ U, n < S.length := fun n hn => hns n ((hu n).1 hn)
      have hps : psz S U ≤ 4096 := Nat.le_trans (psz_le hS.pos hur hUl) hS.prod
      refine ⟨S, U, ⟨_, _, rfl, hZ, .inl rfl⟩, fun n hn => ⟨hUl n hn, hS.pos _ (sz_mem (hUl n hn))⟩, hps, by have := rising_len hur hUl; omega, fun fin => ?_⟩
      trivial
      rw [fD_len, len_fills]
      refine ⟨m2, a, ds3, w, psz S U, rfl, hj3, by omega, hps, fun ws ds4 fin hw1 hw2 hj4 => ?_⟩
      trivial
      refine ⟨by decide, by rw [List.length_map]; exact Nat.lt_of_le_of_lt (by omega : ps.length ≤ 100) (by decide), ?_⟩
      rw [show ps.map dP ++ [D.tup [D.tup (nD U), D.tup (iD ws)]] = (ps ++ [(⟨U, ws⟩ : Part)]).map dP by rw [List.map_append]; rfl]
      refine hN _ ⟨m2 + psz S U + 1, ds4, ps ++ [⟨U, ws⟩], _, _, rfl, hj4, by omega, by simp; omega, fun p hq => ?_⟩
      rcases List.mem_append.1 hq with h | h
      · exact hp p h
      · rw [List.mem_singleton.1 h]
        exact ⟨⟨hur, hUl, hw1⟩, hw2⟩
    · rintro x ys acc env N' ⟨m2, ds3, ns, rfl, rfl, hj3, hm2, hl2, hns⟩ hN'
      rw [List.length_cons] at hm2 hl2
      refine ⟨True.intro, by rw [nD_len]; exact Nat.lt_of_le_of_lt (by omega : ns.length ≤ 10) (by decide), ?_⟩
      unfold e1_law_gparts
      trivial
      refine sq_len hZ ?_
      trivial
      refine ⟨m2, a, ds3, S.length, rfl, hj3, by omega, gdok (by omega) (by omega), fun r' ds4 fin q0 q1 hj4 => ?_⟩
      trivial
      refine hN' _ _ ⟨m2 + 1, ds4, ns ++ [r'.toNat], rfl, by rw [← nD_snoc, Int.toNat_of_nonneg q0], hj4, by omega, by simp; omega, fun y hy => ?_⟩
      rcases List.mem_append.1 hy with h | h
      · exact hns y h
      · rw [List.mem_singleton.1 h]; omega
def sp_law_gsheet : DSpec := fun args Q _ => ∃ (n : Nat) (a : Addr) (ds : List D) (w : Wd) (names most parts : Nat), args = [.lst a ds, dW w, dI (names : Nat), dI (most : Nat), dI (parts : Nat)] ∧ JarOk n ds ∧ n + 400000 < 4294967296 ∧ 0 < names ∧ names ≤ 24 ∧ 0 < most ∧ most ≤ 4096 ∧ parts ≤ 60 ∧
  ∀ (S : List Nat) (ps : List Part) ds' fin, SzOk S → 0 < S.length → S.length ≤ names → prodN S ≤ most → PsOk w S ps → ps.length ≤ parts → JarOk (n + 400000) ds' → Q (.ext (dSh S ps)) (.lst a ds' :: fin)
def b1_law_gsheet : DTS :=
    (sSeq (sSetE 8 (dOp fIx (dLst (dCons (dC (.int 1)) (dCons (dC (.int 2)) (dCons (dC (.int 2)) (dCons (dC (.int 3)) (dCons (dC (.int 4)) (dCons (dC (.int 2)) dNil))))))) (dCallJ sp_law_gdraw 0 (dCons (dC (.int 6)) dNil))))
    (sSeq (sDrop (dAppend 5 (dIf (dTest (dOp (fCmp fun i j => decide (i ≤ j)) (dOp fMul (dVar 6) (dVar 8)) (dVar 3))) (dVar 8) (dC (.int 1)))))
    (sSetE 6 (dOp fMul (dVar 6) (dOp fIx (dVar 5) (dNeg (dC (.int 1))))))))
def k2_law_gsheet : DTS :=
    (sFz 5 (sRet (dTup (dCons (dCB fTuple (dCons (dVar 5) dNil)) (dCons (dCallJ sp_law_gparts 0 (dCons (dVar 1) (dCons (dVar 5) (dCons (dVar 4) dNil)))) dNil)))))
def t_law_gsheet : DTS :=
    (sSeq (sSet 5 (dLst dNil))
    (sSeq (sSetE 6 (dC (.int 1)))
    (sSeq (sFor (dRange1 (dCons (dOp fAdd (dC (.int 1)) (dCallJ sp_law_gdraw 0 (dCons (dVar 2) dNil))) dNil)) (gSet 7) b1_law_gsheet)
    k2_law_gsheet)))
theorem at_last {α : Type} (xs : List α) (x : α) : atI (xs ++ [x]) (-1) = some x := by
  unfold atI ixN
  simp
  rw [if_pos (by omega), show (-1 + ((xs.length : Int) + 1)).toNat = xs.length by omega]
  simp
theorem m_law_gsheet : Meets t_law_gsheet 5 4 sp_law_gsheet := by
  rintro args Qd Xd ⟨n, a, ds, w, names, most, parts, rfl, hj, hn, hn0, hn1, hm0, hm1, hp, hQ⟩
  show t_law_gsheet _ _ [_, _, _, _, _, .un, .un, .un, .un]
  unfold t_law_gsheet
  trivial
  refine ⟨by decide, fun a5 => ⟨n, a, ds, names, rfl, hj, by omega, gdok (by omega) (by omega), fun r ds1 fin r0 r1 hj1 => ?_⟩⟩
  trivial
  refine ⟨⟨by omega, by omega⟩, ?_⟩
  have er : rgD 0 (1 + r) = nD (List.range (1 + r).toNat) := by rw [← rgD_nat, Int.toNat_of_nonneg (by omega)]
  rw [er]
  refine for_ind (fun k : Nat => D.int (k : Int)) (fun xs env => ∃ (m : Nat) (ds : List D) (S : List Nat) (u7 u8 : Sl), env = [.lst a ds, dW w, dI (names : Nat), dI (most : Nat), dI (parts : Nat), .lst a5 (nD S), dI (prodN S : Nat), u7, u8] ∧ JarOk m ds ∧ m + xs.length ≤ n + 30 ∧ S.length + xs.length = (1 + r).toNat ∧ (∀ s ∈ S, 0 < s ∧ s ≤ 4) ∧ prodN S ≤ most) ?_ ?_ (List.range (1 + r).toNat) _
    ⟨n + 1, ds1, [], _, _, rfl, hj1, by simp; omega, by simp, by simp, hm0⟩
  · rintro env ⟨m, ds, S, u7, u8, rfl, hj, hm2, hl, hs, hpm⟩
    simp only [List.length_nil, Nat.add_zero] at hm2 hl
    have hS : SzOk S := ⟨fun s h => (hs s h).1, by omega, by omega, fun s h => (hs s h).2⟩
    refine ⟨True.intro, ?_⟩
    unfold k2_law_gsheet
    trivial
    refine ⟨m, a, ds, w, S, .lst (nD S), parts, rfl, .inr rfl, hj, by omega, hS, by omega, hp, fun ps ds' fin h1 h2 h3 => ?_⟩
    trivial
    exact ⟨by decide, hQ S ps _ _ hS (by omega) (by omega) hpm h1 h2 (h3.up (by omega))⟩
  · rintro k xs env N ⟨m, ds, S, u7, u8, rfl, hj, hm2, hl, hs, hpm⟩ hN
    rw [List.length_cons] at hm2 hl
    refine ⟨True.intro, ?_⟩
    unfold b1_law_gsheet
    trivial
    refine ⟨by decide, fun b => ⟨m, a, ds, 6, rfl, hj, by omega, gdok (by decide) (by decide), fun q ds2 fin q0 q1 hj2 => ?_⟩⟩
    trivial
    have next : ∀ s : Nat, 0 < s → s ≤ 4 → prodN S * s ≤ most → ∀ u8, N [.lst a ds2, dW w, dI (names : Nat), dI (most : Nat), dI (parts : Nat), .lst a5 (nD (S ++ [s])), dI ((prodN (S ++ [s]) : Nat) : Int), .ext (.int (k : Nat)), u8] := by
      intro s s0 s4 sm u8
      refine hN _ ⟨m + 1, ds2, S ++ [s], _, _, rfl, hj2, by omega, by simp; omega, fun y hy => ?_, ?_⟩
      · rcases List.mem_append.1 hy with h | h
        · exact hs y h
        · rw [List.mem_singleton.1 h]; exact ⟨s0, s4⟩
      · rw [prodN_append]; simpa [prodN] using sm
    obtain ⟨z, h0, h4, hz⟩ : ∃ z : Nat, 0 < z ∧ z ≤ 4 ∧ atI [D.int 1, D.int 2, D.int 2, D.int 3, D.int 4, D.int 2] q = some (D.int (z : Nat)) := by
      have h : q = 0 ∨ q = 1 ∨ q = 2 ∨ q = 3 ∨ q = 4 ∨ q = 5 := by omega
      rcases h with rfl | rfl | rfl | rfl | rfl | rfl
      · exact ⟨1, by decide, by decide, rfl⟩
      · exact ⟨2, by decide, by decide, rfl⟩
      · exact ⟨2, by decide, by decide, rfl⟩
      · exact ⟨3, by decide, by decide, rfl⟩
      · exact ⟨4, by decide, by decide, rfl⟩
      · exact ⟨2, by decide, by decide, rfl⟩
    refine ⟨_, hz, ?_⟩
    trivial
    have hb : (nD S).length < sizeLine := by rw [nD_len]; exact Nat.lt_of_le_of_lt (by omega : S.length ≤ 100) (by decide)
    refine ⟨cmul64 (by omega) (by omega) (by omega) (by omega), ?_⟩
    split
    · rename_i hle
      refine ⟨hb, _, at_last _ _, ?_⟩
      trivial
      refine ⟨cmul64 (by omega) (by omega) (by omega) (by omega), ?_⟩
      have := next z h0 h4 (by exact_mod_cast hle) (dI (z : Nat))
      rw [prodN_append, ← nD_snoc] at this
      simpa [prodN] using this
    · refine ⟨hb, _, at_last _ _, ?_⟩
      trivial
      refine ⟨cmul64 (by omega) (by omega) (by omega) (by omega), ?_⟩
      have := next 1 (by decide) (by decide) (by omega) (dI (z : Nat))
      rw [prodN_append, ← nD_snoc] at this
      simpa [prodN] using this
end LS
namespace LS
open PySem L2 HD PM
local macro_rules | `(tactic| trivial) => `(tactic| try simp -dsimp only [↓sSeq, ↓sIf, ↓sRet, ↓retD_ext, ↓retD_lst, ↓retD_al, ↓sSet, ↓sSetE, ↓sAsg, ↓sDrop, ↓sNext, ↓sFor, ↓sRetN, ↓sCont, ↓sBreak, ↓dTest, ↓dOp, ↓dVar_w, ↓dC, ↓dCons, ↓dNil, ↓dTup, ↓dLst, ↓frzDs, ↓frzD_ext, ↓frzD_lst, ↓frzD_al, ↓wd_ext, ↓wd_lst, ↓wd_al, ↓wds, ↓AtS_ext, ↓AtS_lst, ↓AtL, ↓fAdd, ↓fSub, ↓fMul, ↓fDiv, ↓fMod, ↓fPow, ↓fCmp, ↓fIn, ↓fEq_ii, ↓fEq_ss, ↓fEq_bb, ↓fEq_tt, ↓fEq_ll, ↓fNe_ii, ↓fNe_ss, ↓fNe_bb, ↓fNe_tt, ↓fNe_ll, ↓fIx_l, ↓fIx_t, ↓fIx_k, ↓fIx_f, ↓GetS_some, ↓NatS_some, ↓fSl, ↓fIsN, ↓fNotN, ↓D.knN, ↓dNot, ↓dAnd, ↓dOr, ↓dAndV_w, ↓dOrV_w, ↓dNotV, ↓dIf, ↓dNeg, ↓dChain_w, ↓BlS_bl, ↓dCall_w, ↓dCallJ_w, ↓anyAl, ↓frozs, ↓froz, ↓gSet, ↓gTupD, ↓gsCons, ↓gsNil, ↓dSeq, ↓seqD_tup, ↓seqD_elst, ↓seqD_lst, ↓seqD_al, ↓dRange1, ↓dRange2, ↓dZip, ↓dCB, ↓dLc, ↓dYes, ↓dNoPart, ↓dPart, ↓dSl, ↓fLen, ↓fMin, ↓fMax, ↓fSum, ↓fAll, ↓fAny, ↓fSorted, ↓fTuple, ↓fList, ↓dRg1, ↓dRg2, ↓dLstRg, ↓dTupRg, ↓dIndex, ↓fIdx, ↓dAppend_w, ↓dExtend_w, ↓extD_lst, ↓dPopAt_w, ↓popD_int, ↓dPop_w, ↓mutD_w, ↓sSetItem_w, ↓setD_int, ↓dSortSet, ↓dTable_w, ↓wipeE, finals1, finals2, finals3, finals4, finals5, finals6, fin1_ext, fin1_lst, List.getElem?_cons_zero, List.getElem?_cons_succ, List.getElem?_nil, List.set_cons_zero, List.set_cons_succ, List.cons_append, List.nil_append, List.append_nil, List.replicate_succ, List.replicate_zero, List.map_cons, List.map_nil, List.length_cons, List.length_nil, true_and, and_true, ite_true, ite_false, if_true, if_false, Bool.false_eq_true, decide_eq_true_eq, Sl.plain, D.isSq, eq_self_iff_true, forall_const, reduceIte, true_or, or_true, atI_0, atI_1, atI_2, atI_3, ixN_0, ixN_1, ixN_2, AtS_ext, AtS_lst, FzS_lst, FzS_ext, GetS_some, NatS_some, ↓fIsi1, ↓fIsi2, BoolS_some, HD.kb_non_tuple, HD.kb_non_list, HD.kb_non_bool, HD.kb_non_int, HD.kb_non_str, HD.kb_bl_tuple, HD.kb_bl_list, HD.kb_bl_bool, HD.kb_bl_int, HD.kb_bl_str, HD.kb_int_tuple, HD.kb_int_list, HD.kb_int_bool, HD.kb_int_int, HD.kb_int_str, HD.kb_str_tuple, HD.kb_str_list, HD.kb_str_bool, HD.kb_str_int, HD.kb_str_str, HD.kb_lst_tuple, HD.kb_lst_list, HD.kb_lst_bool, HD.kb_lst_int, HD.kb_lst_str, HD.kb_tup_tuple, HD.kb_tup_list, HD.kb_tup_bool, HD.kb_tup_int, HD.kb_tup_str, ↓sFz_w, ↓FzS_lst, ↓FzS_ext, ↓dSortSetL, ↓fAbs, ↓fInt, ↓fRepr, ↓fLtT, ↓sRaise, ↓sTryKeep, ↓dCallV_w, ↓dMeth, ↓fCount, ↓fSplit])
def sp_law_gkind (cs : List Str) : DSpec := sp_law_class cs
def k1_law_gkind (cs : List Str) : DTS :=
    (sSeq (sSetE 2 (dLst (dCons (dC (.str (Str.ofString "filling"))) (dCons (dC (.str (Str.ofString "name"))) (dCons (dC (.str (Str.ofString "many"))) (dCons (dC (.str (Str.ofString "deeds"))) (dCons (dC (.str (Str.ofString "offers"))) (dCons (dC (.str (Str.ofString "tree"))) (dCons (dC (.str (Str.ofString "bag"))) (dCons (dC (.str (Str.ofString "part"))) (dCons (dC (.str (Str.ofString "worths"))) (dCons (dC (.str (Str.ofString "back"))) (dCons (dC (.str (Str.ofString "weights"))) dNil)))))))))))))
    (sRet (dOp fIx (dOp fAdd (dVar 2) (dLst (dCons (dC (.str (Str.ofString "number"))) (dCons (dC (.str (Str.ofString "row"))) (dCons (dC (.str (Str.ofString "text"))) dNil))))) (dIndex (dVar 1) (dC (.bl true))))))
def t_law_gkind (cs : List Str) : DTS :=
    (sSeq (sSetE 1 (dLst (dCons (dCB (fIsX (xtab cs)) (dCons (dVar 0) (dCons (dC (.glo "NoFilling")) dNil))) (dCons (dCB (fIsX (xtab cs)) (dCons (dVar 0) (dCons (dC (.glo "NoName")) dNil))) (dCons (dCB (fIsX (xtab cs)) (dCons (dVar 0) (dCons (dC (.glo "TooMany")) dNil))) dNil)))))
    (sSeq (sSetE 1 (dOp fAdd (dVar 1) (dLst (dCons (dCB (fIsX (xtab cs)) (dCons (dVar 0) (dCons (dC (.glo "NoDeeds")) dNil))) (dCons (dCB (fIsX (xtab cs)) (dCons (dVar 0) (dCons (dC (.glo "NoOffers")) dNil))) (dCons (dCB (fIsX (xtab cs)) (dCons (dVar 0) (dCons (dC (.glo "NoTree")) dNil))) dNil))))))
    (sSeq (sSetE 1 (dOp fAdd (dVar 1) (dLst (dCons (dCB (fIsX (xtab cs)) (dCons (dVar 0) (dCons (dC (.glo "NoBag")) dNil))) (dCons (dCB (fIsX (xtab cs)) (dCons (dVar 0) (dCons (dC (.glo "NoPart")) dNil))) (dCons (dCB (fIsX (xtab cs)) (dCons (dVar 0) (dCons (dC (.glo "NoWorths")) dNil))) dNil))))))
    (sSeq (sSetE 1 (dOp fAdd (dVar 1) (dLst (dCons (dCB (fIsX (xtab cs)) (dCons (dVar 0) (dCons (dC (.glo "NoBack")) dNil))) (dCons (dCB (fIsX (xtab cs)) (dCons (dVar 0) (dCons (dC (.glo "NoWeights")) dNil))) (dCons (dCB (fIsX (xtab cs)) (dCons (dVar 0) (dCons (dC (.glo "NoNumber")) dNil))) dNil))))))
    (sSeq (sSetE 1 (dOp fAdd (dVar 1) (dLst (dCons (dCB (fIsX (xtab cs)) (dCons (dVar 0) (dCons (dC (.glo "NoRow")) dNil))) (dCons (dCB (fIsX (xtab cs)) (dCons (dVar 0) (dCons (dC (.glo "NoText")) dNil))) dNil)))))
    (sSeq (sIf (dOr (dTest (dOp fNe (dMeth D.isLst fCount (dVar 1) (dC (.bl true))) (dC (.int 1)))) (dNot (dTest (dCB (fIsX (xtab cs)) (dCons (dVar 0) (dCons (dC (.val (.ty "ValueError"))) dNil)))))) (sRet (dC (.str (Str.ofString "odd")))) sNext)
    (k1_law_gkind cs)))))))
theorem m_law_gkind (cs : List Str) : Meets (t_law_gkind cs) 1 2 (sp_law_gkind cs) := by
  rintro args Qd Xd ⟨c, rfl, hc, hx, hQ⟩
  show t_law_gkind cs _ _ [_, .un, .un]
  unfold t_law_gkind
  have i1 := isX_glo hc "NoFilling" (by decide)
  have i2 := isX_glo hc "NoName" (by decide)
  have i3 := isX_glo hc "TooMany" (by decide)
  have i4 := isX_glo hc "NoDeeds" (by decide)
  have i5 := isX_glo hc "NoOffers" (by decide)
  have i6 := isX_glo hc "NoTree" (by decide)
  have i7 := isX_glo hc "NoBag" (by decide)
  have i8 := isX_glo hc "NoPart" (by decide)
  have i9 := isX_glo hc "NoWorths" (by decide)
  have i10 := isX_glo hc "NoBack" (by decide)
  have i11 := isX_glo hc "NoWeights" (by decide)
  have i12 := isX_glo hc "NoNumber" (by decide)
  have i13 := isX_glo hc "NoRow" (by decide)
  have i14 := isX_glo hc "NoText" (by decide)
  have iv := isX_ve hc
  simp -dsimp only [↓sSeq, ↓sIf, ↓sRet, ↓retD_ext, ↓retD_lst, ↓retD_al, ↓sSet, ↓sSetE, ↓sAsg, ↓sDrop, ↓sNext, ↓sFor, ↓sRetN, ↓sCont, ↓sBreak, ↓dTest, ↓dOp, ↓dVar_w, ↓dC, ↓dCons, ↓dNil, ↓dTup, ↓dLst, ↓frzDs, ↓frzD_ext, ↓frzD_lst, ↓frzD_al, ↓wd_ext, ↓wd_lst, ↓wd_al, ↓wds, ↓AtS_ext, ↓AtS_lst, ↓AtL, ↓fAdd, ↓fSub, ↓fMul, ↓fDiv, ↓fMod, ↓fPow, ↓fCmp, ↓fIn, ↓fEq_ii, ↓fEq_ss, ↓fEq_bb, ↓fEq_tt, ↓fEq_ll, ↓fNe_ii, ↓fNe_ss, ↓fNe_bb, ↓fNe_tt, ↓fNe_ll, ↓fIx_l, ↓fIx_t, ↓fIx_k, ↓fIx_f, ↓GetS_some, ↓NatS_some, ↓fSl, ↓fIsN, ↓fNotN, ↓D.knN, ↓dNot, ↓dAnd, ↓dOr, ↓dAndV_w, ↓dOrV_w, ↓dNotV, ↓dIf, ↓dNeg, ↓dChain_w, ↓BlS_bl, ↓dCall_w, ↓dCallJ_w, ↓anyAl, ↓frozs, ↓froz, ↓gSet, ↓gTupD, ↓gsCons, ↓gsNil, ↓dSeq, ↓seqD_tup, ↓seqD_elst, ↓seqD_lst, ↓seqD_al, ↓dRange1, ↓dRange2, ↓dZip, ↓dCB, ↓dLc, ↓dYes, ↓dNoPart, ↓dPart, ↓dSl, ↓fLen, ↓fMin, ↓fMax, ↓fSum, ↓fAll, ↓fAny, ↓fSorted, ↓fTuple, ↓fList, ↓dRg1, ↓dRg2, ↓dLstRg, ↓dTupRg, ↓dIndex, ↓fIdx, ↓dAppend_w, ↓dExtend_w, ↓extD_lst, ↓dPopAt_w, ↓popD_int, ↓dPop_w, ↓mutD_w, ↓sSetItem_w, ↓setD_int, ↓dSortSet, ↓dTable_w, ↓wipeE, finals1, finals2, finals3, finals4, finals5, finals6, fin1_ext, fin1_lst, List.getElem?_cons_zero, List.getElem?_cons_succ, List.getElem?_nil, List.set_cons_zero, List.set_cons_succ, List.cons_append, List.nil_append, List.append_nil, List.replicate_succ, List.replicate_zero, List.map_cons, List.map_nil, List.length_cons, List.length_nil, true_and, and_true, ite_true, ite_false, if_true, if_false, Bool.false_eq_true, decide_eq_true_eq, Sl.plain, D.isSq, eq_self_iff_true, forall_const, reduceIte, true_or, or_true, atI_0, atI_1, atI_2, atI_3, ixN_0, ixN_1, ixN_2, AtS_ext, AtS_lst, FzS_lst, FzS_ext, GetS_some, NatS_some, ↓fIsi1, ↓fIsi2, BoolS_some, HD.kb_non_tuple, HD.kb_non_list, HD.kb_non_bool, HD.kb_non_int, HD.kb_non_str, HD.kb_bl_tuple, HD.kb_bl_list, HD.kb_bl_bool, HD.kb_bl_int, HD.kb_bl_str, HD.kb_int_tuple, HD.kb_int_list, HD.kb_int_bool, HD.kb_int_int, HD.kb_int_str, HD.kb_str_tuple, HD.kb_str_list, HD.kb_str_bool, HD.kb_str_int, HD.kb_str_str, HD.kb_lst_tuple, HD.kb_lst_list, HD.kb_lst_bool, HD.kb_lst_int, HD.kb_lst_str, HD.kb_tup_tuple, HD.kb_tup_list, HD.kb_tup_bool, HD.kb_tup_int, HD.kb_tup_str, ↓sFz_w, ↓FzS_lst, ↓FzS_ext, ↓dSortSetL, ↓fAbs, ↓fInt, ↓fRepr, ↓fLtT, ↓sRaise, ↓sTryKeep, ↓dCallV_w, ↓dMeth, ↓fCount, ↓fSplit, i1, i2, i3, i4, i5, i6, i7, i8, i9, i10, i11, i12, i13, i14, iv]
  have h2 := xk_count hx
  have h3 := xk_at hx
  simp only [xKinds, xAll, List.map_cons, List.map_nil] at h2 h3
  rw [h2]
  refine ⟨by decide, by decide, by decide, by decide, by decide, by decide, by decide, by decide, by decide, rfl, rfl, rfl, ?_⟩
  rw [if_neg (by decide), if_neg (by decide)]
  refine ⟨by decide, fun a => ?_⟩
  trivial
  refine ⟨by decide, by decide, rfl, rfl, _, h3, ?_⟩
  refine ⟨.str (xWord c), atN ?_, ?_⟩
  · change (xWords.map D.str)[List.idxOf c xAll]? = _
    rw [List.getElem?_map]
    unfold xWord
    rw [List.getD_eq_getElem?_getD]
    have hl : List.idxOf c xAll < xWords.length := List.idxOf_lt_length_of_mem hx
    rw [List.getElem?_eq_getElem hl]
    rfl
  · trivial
    exact hQ _
end LS
namespace LS
open PySem L2 HD PM
abbrev cI (l : List Nat) : List Int := l.map fun n : Nat => (n : Int)
end LS
namespace LS
theorem cut_take (xs : List HD.D) (n : Nat) (h : n ≤ xs.length) : HD.cutD xs none (some (n : Int)) = xs.take n := by
  unfold HD.cutD
  rw [HT.sIx_none, HT.sIx_nat, List.drop_zero, Nat.sub_zero, Nat.min_eq_left h]
theorem cut_drop (xs : List HD.D) (n : Nat) (h : n ≤ xs.length) : HD.cutD xs (some (n : Int)) none = xs.drop n := by
  unfold HD.cutD
  rw [HT.sIx_none, HT.sIx_nat, Nat.min_eq_left h]
  exact List.take_of_length_le (by simp)
end LS
namespace LS
namespace K01
open PySem L2 HD PM
local macro_rules | `(tactic| trivial) => `(tactic| try simp -dsimp only [↓sSeq, ↓sIf, ↓sRet, ↓retD_ext, ↓retD_lst, ↓retD_al, ↓sSet, ↓sSetE, ↓sAsg, ↓sDrop, ↓sNext, ↓sFor, ↓sRetN, ↓sCont, ↓sBreak, ↓dTest, ↓dOp, ↓dVar_w, ↓dC, ↓dCons, ↓dNil, ↓dTup, ↓dLst, ↓frzDs, ↓frzD_ext, ↓frzD_lst, ↓frzD_al, ↓wd_ext, ↓wd_lst, ↓wd_al, ↓wds, ↓AtS_ext, ↓AtS_lst, ↓AtL, ↓fAdd, ↓fSub, ↓fMul, ↓fDiv, ↓fMod, ↓fPow, ↓fCmp, ↓fIn, ↓fEq_ii, ↓fEq_ss, ↓fEq_bb, ↓fEq_tt, ↓fEq_ll, ↓fNe_ii, ↓fNe_ss, ↓fNe_bb, ↓fNe_tt, ↓fNe_ll, ↓fIx_l, ↓fIx_t, ↓fIx_k, ↓fIx_f, ↓GetS_some, ↓NatS_some, ↓fSl, ↓fIsN, ↓fNotN, ↓D.knN, ↓dNot, ↓dAnd, ↓dOr, ↓dAndV_w, ↓dOrV_w, ↓dNotV, ↓dIf, ↓dNeg, ↓dChain_w, ↓BlS_bl, ↓dCall_w, ↓dCallJ_w, ↓anyAl, ↓frozs, ↓froz, ↓gSet, ↓gTupD, ↓gsCons, ↓gsNil, ↓dSeq, ↓seqD_tup, ↓seqD_elst, ↓seqD_lst, ↓seqD_al, ↓dRange1, ↓dRange2, ↓dZip, ↓dCB, ↓dLc, ↓dYes, ↓dNoPart, ↓dPart, ↓dSl, ↓fLen, ↓fMin, ↓fMax, ↓fSum, ↓fAll, ↓fAny, ↓fSorted, ↓fTuple, ↓fList, ↓dRg1, ↓dRg2, ↓dLstRg, ↓dTupRg, ↓dIndex, ↓fIdx, ↓dAppend_w, ↓dExtend_w, ↓extD_lst, ↓dPopAt_w, ↓popD_int, ↓dPop_w, ↓mutD_w, ↓sSetItem_w, ↓setD_int, ↓dSortSet, ↓dTable_w, ↓wipeE, finals1, finals2, finals3, finals4, finals5, finals6, fin1_ext, fin1_lst, List.getElem?_cons_zero, List.getElem?_cons_succ, List.getElem?_nil, List.set_cons_zero, List.set_cons_succ, List.cons_append, List.nil_append, List.append_nil, List.replicate_succ, List.replicate_zero, List.map_cons, List.map_nil, List.length_cons, List.length_nil, true_and, and_true, ite_true, ite_false, if_true, if_false, Bool.false_eq_true, decide_eq_true_eq, Sl.plain, D.isSq, eq_self_iff_true, forall_const, reduceIte, true_or, or_true, atI_0, atI_1, atI_2, atI_3, ixN_0, ixN_1, ixN_2, AtS_ext, AtS_lst, FzS_lst, FzS_ext, GetS_some, NatS_some, ↓fIsi1, ↓fIsi2, BoolS_some, HD.kb_non_tuple, HD.kb_non_list, HD.kb_non_bool, HD.kb_non_int, HD.kb_non_str, HD.kb_bl_tuple, HD.kb_bl_list, HD.kb_bl_bool, HD.kb_bl_int, HD.kb_bl_str, HD.kb_int_tuple, HD.kb_int_list, HD.kb_int_bool, HD.kb_int_int, HD.kb_int_str, HD.kb_str_tuple, HD.kb_str_list, HD.kb_str_bool, HD.kb_str_int, HD.kb_str_str, HD.kb_lst_tuple, HD.kb_lst_list, HD.kb_lst_bool, HD.kb_lst_int, HD.kb_lst_str, HD.kb_tup_tuple, HD.kb_tup_list, HD.kb_tup_bool, HD.kb_tup_int, HD.kb_tup_str, ↓sFz_w, ↓FzS_lst, ↓FzS_ext, ↓dSortSetL, ↓fAbs, ↓fInt, ↓fRepr, ↓fLtT, ↓sRaise, ↓sTryKeep, ↓dCallV_w, ↓dMeth, ↓fCount, ↓fSplit, dStep, fStep, fMulT, fIsB, fNotB])
theorem lc_mapD {g : DTG} {te : DT} {vs : List Nat} {keep : Env' → Prop} {Q : Sl → Env' → Prop} {env : Env'} (f : D → D) (hk : keep env) (xs : List D) (hl : xs.length ≤ sizeLine)
    (h : ∀ x ∈ xs, ∀ R : D → Env' → Prop, R (f x) env → g x env fun env1 => te noX env1 fun y env3 => frzD env3 y fun d' env4 => R d' (wipeE env4 vs))
    (hQ : ∀ a, Q (.lst a (xs.map f)) env) : lcD g dYes te vs keep Q xs [] env := by
  have := lc_map (g := g) (te := te) (vs := vs) (keep := keep) (Q := Q) (fun d : D => d) f hk xs hl h hQ
  rwa [List.map_id'] at this
structure Sz12 (S : List Nat) : Prop where
  one : 0 < S.length
  most : S.length ≤ 12
  r : ∀ s ∈ S, 1 ≤ s ∧ s ≤ 4
  pr : prodN S ≤ 4000
def NumD (i : Int) : Prop := -1000000000000 ≤ i ∧ i ≤ 1000000000000
theorem pl_tup {k : Nat} {ds : List D} (h : D.pl (k + 1) (.tup ds) = true) : ds.length ≤ 100000 ∧ ∀ d ∈ ds, D.pl k d = true := by
  rw [D.pl, Bool.and_eq_true, List.all_eq_true, decide_eq_true_eq] at h
  exact h
def btw (lo hi : Int) : D → Bool
  | .int i => decide (lo ≤ i) && decide (i ≤ hi)
  | _ => false
theorem all_btw {lo hi : Int} {ds : List D} : ds.all (btw lo hi) = true ↔ ∃ l : List Int, ds = iD l ∧ ∀ i ∈ l, lo ≤ i ∧ i ≤ hi := by
  constructor
  · intro h
    induction ds with
    | nil => exact ⟨[], rfl, by simp⟩
    | cons d ds ih =>
      rw [List.all_cons, Bool.and_eq_true] at h
      obtain ⟨l, rfl, hl⟩ := ih h.2
      have hd := h.1
      cases d with
      | int i =>
        simp only [btw, Bool.and_eq_true, decide_eq_true_eq] at hd
        exact ⟨i :: l, rfl, fun j hj => by
          rcases List.mem_cons.1 hj with rfl | hj
          · exact hd
          · exact hl j hj⟩
      | _ => simp [btw] at hd
  · rintro ⟨l, rfl, hl⟩
    rw [List.all_eq_true]
    intro d hd
    obtain ⟨i, hi', rfl⟩ := List.mem_map.1 hd
    have := hl i hi'
    simp [btw, this.1, this.2]
def sp_product : DSpec := sp_law_times
theorem names_sz {S ns : List Nat} (h : Sz12 S) (hr : Rising ns) (hl : ∀ n ∈ ns, n < S.length) : psz S ns ≤ 4000 := Nat.le_trans (psz_le (fun s hs => (h.r s hs).1) hr hl) h.pr
def WorthsD (m : Nat) (d : D) : Prop := ∃ ws : List Int, d = .tup (iD ws) ∧ ws.length = m ∧ ∀ x ∈ ws, NumD x
def sp_are_worths : DSpec := fun args Q _ => ∃ (S ns : List Nat) (d : D) (k : Nat), args = [dSz S, .ext (.tup (nD ns)), .ext d] ∧ Sz12 S ∧ Rising ns ∧ (∀ n ∈ ns, n < S.length) ∧ D.pl k d = true ∧ ∀ (b : Bool) fin, (b = true ↔ WorthsD (psz S ns) d) → Q (.ext (.bl b)) fin
def e1_are_worths : DT :=
    (dOp fIx (dVar 0) (dVar 3))
def e2_are_worths : DT :=
    (dAndV (dCall sp_is_whole (dCons (dVar 4) dNil)) (dChain (fCmp fun i j => decide (i ≤ j)) (fCmp fun i j => decide (i ≤ j)) (dOp fSub (dC (.int 0)) (dC (.int 1000000000000))) (dVar 4) (dC (.int 1000000000000))))
def k3_are_worths : DTS :=
    (sRet (dCB fAll (dCons (dLc (dSeq (dVar 2)) (gSet 4) dYes e2_are_worths [4]) dNil)))
def t_are_worths : DTS :=
    (sSeq (sIf (dOr (dNot (dTest (dCB fIsi (dCons (dVar 2) (dCons (dC (.val (.ty "tuple"))) dNil))))) (dTest (dOp fNe (dCB fLen (dCons (dVar 2) dNil)) (dCall sp_product (dCons (dLc (dSeq (dVar 1)) (gSet 3) dYes e1_are_worths [3]) dNil))))) (sRet (dC (.bl false))) sNext)
    k3_are_worths)
theorem m_are_worths : Meets t_are_worths 3 2 sp_are_worths := by
  rintro args Qd Xd ⟨S, ns, d, k, rfl, hS, hr, hlt, hp, hQ⟩
  have nv := pl_noVal k d hp
  show t_are_worths _ _ [_, _, _, .un, .un]
  unfold t_are_worths
  have hns : ns.length ≤ 12 := Nat.le_trans (rising_len hr hlt) hS.most
  cases d with
  | val _ => cases k <;> simp [D.pl] at hp
  | fz _ => cases k <;> simp [D.pl] at hp
  | tk _ => cases k <;> simp [D.pl] at hp
  | exc _ => cases k <;> simp [D.pl] at hp
  | glo _ => cases k <;> simp [D.pl] at hp
  | dk _ _ => cases k <;> simp [D.pl] at hp
  | dt _ _ => cases k <;> simp [D.pl] at hp
  | tup ds =>
    cases k with
    | zero => simp [D.pl] at hp
    | succ k =>
      have hp := pl_tup hp
      trivial
      simp only [nv, D.isFz, true_and, Bool.not_true, Bool.false_eq_true, if_false]
      rw [show nD ns = ns.map (fun n : Nat => D.int (n : Nat)) from rfl]
      refine lc_map (fun n : Nat => D.int (n : Nat)) (fun n => .int (sz S n : Nat)) True.intro ns (Nat.le_trans (by omega : _ ≤ 100) (by decide)) (fun n hn R hR => ?_) fun b => ?_
      · unfold e1_are_worths
        trivial
        refine ⟨_, atN (sz_at (hlt n hn)), ?_⟩
        trivial
        exact hR
      trivial
      have h4 := names_sz hS hr hlt
      refine ⟨ns.map (sz S), .inl (by rw [nD, List.map_map]; rfl), fun x hx => ?_, Nat.lt_of_le_of_lt h4 (by decide), fun fin => ?_⟩
      · obtain ⟨n, hn, rfl⟩ := List.mem_map.1 hx
        exact (hS.r _ (sz_mem (hlt n hn))).1
      trivial
      rw [show prodN (ns.map (sz S)) = psz S ns from rfl]
      by_cases hl : ds.length = psz S ns
      · rw [if_neg (by simp; omega)]
        unfold k3_are_worths
        trivial
        refine lc_mapD (fun d => .bl (btw (-1000000000000) 1000000000000 d)) True.intro ds (Nat.le_trans (by omega : _ ≤ 4000) (by decide)) (fun d hd R hR => ?_) fun b => ?_
        · unfold e2_are_worths
          trivial
          refine ⟨d, k, rfl, hp.2 d hd, fun fin => ?_⟩
          trivial
          cases d with
          | int i =>
            rw [if_pos (show D.isInt (.int i) = true from rfl)]
            trivial
            by_cases g1 : (0 - 1000000000000 : Int) ≤ i
            · rw [if_pos g1]
              trivial
              have g2 : (-1000000000000 : Int) ≤ i := by omega
              simpa [btw, g2] using hR
            · rw [if_neg g1]
              have g2 : ¬ (-1000000000000 : Int) ≤ i := by omega
              simpa [btw, g2] using hR
          | _ =>
            rw [if_neg (by simp [D.isInt])]
            exact hR
        trivial
        refine ⟨ds.map (btw (-1000000000000) 1000000000000), by rw [List.map_map]; rfl, ?_⟩
        refine hQ _ _ ?_
        rw [show (ds.map (btw (-1000000000000) 1000000000000)).all id = ds.all (btw (-1000000000000) 1000000000000) by rw [List.all_map]; rfl, all_btw]
        constructor
        · rintro ⟨l, rfl, h⟩
          exact ⟨l, rfl, by rw [← hl, iD_len], h⟩
        · rintro ⟨l, e, _, h⟩
          exact ⟨l, D.tup.inj e, h⟩
      · rw [if_pos (by simp; omega)]
        refine hQ _ _ ⟨fun z => by simp at z, ?_⟩
        rintro ⟨l, e, h1, _⟩
        have e := D.tup.inj e
        subst e
        rw [iD_len] at hl
        exact absurd h1 hl
  | _ =>
    trivial
    simp only [nv, D.isFz, true_and, Bool.not_false, if_true]
    exact hQ _ _ ⟨fun z => by simp at z, fun ⟨_, e, _⟩ => by simp at e⟩
end K01
end LS
namespace LS
open PySem L2 HD PM
def D.svS : Nat → D → Bool
  | _, .non => true
  | _, .bl _ => true
  | _, .int i => decide (i.natAbs < 10 ^ 60)
  | _, .str x => x.cps.toList.all fun c => decide (c < 16 ^ 8)
  | k + 1, .lst ds => ds.all (D.svS k)
  | k + 1, .tup ds => ds.all (D.svS k)
  | _, _ => false
def D.svQ (k : Nat) (d : D) : Prop := d.noVal = true ∧ d.py.showable = true ∧ d.py.hasDict = false ∧ d.py.depth ≤ k ∧ d.py.leavesShort 64 = true
theorem svqs_of {k : Nat} {ds : List D} (h : ∀ d ∈ ds, D.svQ k d) : D.noVals ds = true ∧ PyData.showableAll (D.pys ds) = true ∧ PyData.hasDictAll (D.pys ds) = false ∧ PyData.depthAll (D.pys ds) ≤ k ∧ PyData.leavesShortAll 64 (D.pys ds) = true := by
  induction ds with
  | nil => exact ⟨rfl, rfl, rfl, by simp [D.pys, PyData.depthAll], rfl⟩
  | cons d ds ih =>
    obtain ⟨h1, h2, h3, h4, h5⟩ := h d List.mem_cons_self
    obtain ⟨i1, i2, i3, i4, i5⟩ := ih fun e he => h e (List.mem_cons_of_mem _ he)
    refine ⟨by simp [D.noVals, h1, i1], by simp [D.pys, PyData.showableAll, h2, i2], by simp [D.pys, PyData.hasDictAll, h3, i3], ?_, by simp [D.pys, PyData.leavesShortAll, h5, i5]⟩
    simp only [D.pys, PyData.depthAll]
    omega
theorem svq_int {i : Int} {k : Nat} (h : i.natAbs < 10 ^ 60) : D.svQ k (.int i) := by
  have hl : i.natAbs.log2 < 1920 := by
    by_cases e : i.natAbs = 0
    · rw [e]; decide
    · exact (Nat.log2_lt e).2 (Nat.lt_of_lt_of_le h (Nat.le_trans (by decide : 10 ^ 60 ≤ 2 ^ 200) (Nat.pow_le_pow_right (by decide) (by decide))))
  refine ⟨rfl, by simpa [D.py, PyData.showable] using hl, rfl, by simp [D.py, PyData.depth], ?_⟩
  simp only [D.py, PyData.leavesShort, PyData.shown]
  refine decide_eq_true ?_
  rw [PySem.ofString_length]
  exact Nat.le_trans (PySem.int_text_length_le10 (k := 60) (by decide) h) (by decide)
theorem svS_Q : ∀ (k : Nat) (d : D), D.svS k d = true → D.svQ k d := by
  intro k
  induction k with
  | zero =>
    intro d h
    cases d with
    | int i => exact svq_int (by simpa [D.svS] using h)
    | non => exact ⟨rfl, rfl, rfl, by simp [D.py, PyData.depth], rfl⟩
    | bl _ => exact ⟨rfl, rfl, rfl, by simp [D.py, PyData.depth], rfl⟩
    | str x => exact ⟨rfl, rfl, rfl, by simp [D.py, PyData.depth], h⟩
    | _ => simp [D.svS] at h
  | succ k ih =>
    intro d h
    cases d with
    | lst ds =>
      rw [D.svS, List.all_eq_true] at h
      obtain ⟨h1, h2, h3, h4, h5⟩ := svqs_of fun e he => ih e (h e he)
      exact ⟨h1, by simpa [D.py, PyData.showable] using h2, by simpa [D.py, PyData.hasDict] using h3, by simp only [D.py, PyData.depth]; omega, by simpa [D.py, PyData.leavesShort] using h5⟩
    | tup ds =>
      rw [D.svS, List.all_eq_true] at h
      obtain ⟨h1, h2, h3, h4, h5⟩ := svqs_of fun e he => ih e (h e he)
      exact ⟨h1, by simpa [D.py, PyData.showable] using h2, by simpa [D.py, PyData.hasDict] using h3, by simp only [D.py, PyData.depth]; omega, by simpa [D.py, PyData.leavesShort] using h5⟩
    | int i => exact svq_int (by simpa [D.svS] using h)
    | non => exact ⟨rfl, rfl, rfl, by simp [D.py, PyData.depth], rfl⟩
    | bl _ => exact ⟨rfl, rfl, rfl, by simp [D.py, PyData.depth], rfl⟩
    | str x => exact ⟨rfl, rfl, rfl, by simp [D.py, PyData.depth], h⟩
    | _ => simp [D.svS] at h
structure Dc (k n : Nat) (d : D) : Prop where
  pl : D.pl k d = true
  sv : D.svS k d = true
  bk : d.py.bulk ≤ n
structure Dcs (k n : Nat) (ds : List D) : Prop where
  pl : ∀ d ∈ ds, D.pl k d = true
  sv : ∀ d ∈ ds, D.svS k d = true
  bk : PyData.bulkAll (D.pys ds) ≤ n
theorem Dc.sh {k n : Nat} {d : D} (h : Dc k n d) (hk : k ≤ 60) (hn : n ≤ 200000) : d.sh := by
  obtain ⟨h1, h2, h3, h4, h5⟩ := svS_Q k d h.sv
  refine ⟨h1, h2, h3, by omega, ?_⟩
  have := PyData.shown_le_bulk 64 (by decide) d.py h5
  have := h.bk
  exact Nat.le_trans (by omega : _ ≤ 16000000) (by decide)
theorem Dc.int {k n : Nat} {i : Int} (h : i.natAbs < 10 ^ 60 := by decide +kernel) : Dc k n (.int i) := ⟨by cases k <;> rfl, by cases k <;> simp [D.svS, h], Nat.zero_le _⟩
theorem Dc.nat {k n m : Nat} (h : m < 2 ^ 64) : Dc k n (.int (m : Nat)) := Dc.int (by rw [Int.natAbs_natCast]; exact Nat.lt_of_lt_of_le h (by decide))
theorem Dc.non {k n : Nat} : Dc k n .non := ⟨by cases k <;> rfl, by cases k <;> rfl, Nat.zero_le _⟩
theorem Dc.bl {k n : Nat} {b : Bool} : Dc k n (.bl b) := ⟨by cases k <;> rfl, by cases k <;> rfl, Nat.zero_le _⟩
theorem Dc.str {k n : Nat} {x : Str} (h1 : (x.cps.toList.all fun c => decide (c < 16 ^ 8)) = true := by decide +kernel) (h2 : (D.str x).py.bulk ≤ n := by decide +kernel) : Dc k n (.str x) := ⟨by cases k <;> rfl, by cases k <;> exact h1, h2⟩
theorem Dc.mono {k n m : Nat} {d : D} (h : Dc k n d) (hn : n ≤ m) : Dc k m d := ⟨h.pl, h.sv, Nat.le_trans h.bk hn⟩
theorem pl_up : ∀ (k : Nat) (d : D), D.pl k d = true → D.pl (k + 1) d = true := by
  intro k
  induction k with
  | zero => intro d h; cases d <;> first | rfl | simp [D.pl] at h
  | succ k ih =>
    intro d h
    cases d with
    | lst ds => rw [D.pl, Bool.and_eq_true, List.all_eq_true] at h ⊢; exact ⟨h.1, fun e he => ih e (h.2 e he)⟩
    | tup ds => rw [D.pl, Bool.and_eq_true, List.all_eq_true] at h ⊢; exact ⟨h.1, fun e he => ih e (h.2 e he)⟩
    | _ => first | rfl | simp [D.pl] at h
theorem svS_up : ∀ (k : Nat) (d : D), D.svS k d = true → D.svS (k + 1) d = true := by
  intro k
  induction k with
  | zero => intro d h; cases d <;> first | rfl | exact h | simp [D.svS] at h
  | succ k ih =>
    intro d h
    cases d with
    | lst ds => rw [D.svS, List.all_eq_true] at h ⊢; exact fun e he => ih e (h e he)
    | tup ds => rw [D.svS, List.all_eq_true] at h ⊢; exact fun e he => ih e (h e he)
    | _ => first | rfl | exact h | simp [D.svS] at h
theorem Dc.up {k n : Nat} {d : D} (h : Dc k n d) : Dc (k + 1) n d := ⟨pl_up k d h.pl, svS_up k d h.sv, h.bk⟩
theorem Dcs.len {k n : Nat} {ds : List D} (h : Dcs k n ds) : ds.length ≤ n := by
  refine Nat.le_trans ?_ h.bk
  clear h
  induction ds with
  | nil => exact Nat.zero_le _
  | cons d ds ih => simp only [D.pys, PyData.bulkAll, List.length_cons]; omega
theorem Dcs.nil {k n : Nat} : Dcs k n [] := ⟨by simp, by simp, Nat.zero_le _⟩
theorem Dcs.cons {k n m : Nat} {d : D} {ds : List D} (h : Dc k n d) (t : Dcs k m ds) : Dcs k (n + 1 + m) (d :: ds) :=
  ⟨fun e he => by
    rcases List.mem_cons.1 he with rfl | he
    · exact h.pl
    · exact t.pl e he, fun e he => by
    rcases List.mem_cons.1 he with rfl | he
    · exact h.sv
    · exact t.sv e he, by have := h.bk; have := t.bk; simp only [D.pys, PyData.bulkAll]; omega⟩
theorem Dcs.app {k n m : Nat} {ds es : List D} (h : Dcs k n ds) (t : Dcs k m es) : Dcs k (n + m) (ds ++ es) :=
  ⟨fun e he => by
    rcases List.mem_append.1 he with he | he
    · exact h.pl e he
    · exact t.pl e he, fun e he => by
    rcases List.mem_append.1 he with he | he
    · exact h.sv e he
    · exact t.sv e he, by have := h.bk; have := t.bk; rw [bulks_app]; omega⟩
theorem Dcs.mono {k n m : Nat} {ds : List D} (h : Dcs k n ds) (hn : n ≤ m) : Dcs k m ds := ⟨h.pl, h.sv, Nat.le_trans h.bk hn⟩
theorem bulks_sub {a b : List D} (h : a.Sublist b) : PyData.bulkAll (D.pys a) ≤ PyData.bulkAll (D.pys b) := by
  induction h with
  | slnil => exact Nat.le_refl _
  | cons _ _ ih => simp only [D.pys, PyData.bulkAll]; omega
  | cons_cons _ _ ih => simp only [D.pys, PyData.bulkAll]; omega
theorem Dcs.sub {k n : Nat} {ds es : List D} (h : Dcs k n ds) (s : es.Sublist ds) : Dcs k n es := ⟨fun e he => h.pl e (s.subset he), fun e he => h.sv e (s.subset he), Nat.le_trans (bulks_sub s) h.bk⟩
theorem Dcs.cut {k n : Nat} {ds : List D} (h : Dcs k n ds) (lo hi : Option Int) : Dcs k n (cutD ds lo hi) := h.sub ((List.take_sublist _ _).trans (List.drop_sublist _ _))
theorem Dc.tup {k n : Nat} {ds : List D} (h : Dcs k n ds) (hn : n ≤ 100000 := by omega) : Dc (k + 1) n (.tup ds) :=
  ⟨by rw [D.pl, Bool.and_eq_true, List.all_eq_true, decide_eq_true_eq]; exact ⟨Nat.le_trans h.len hn, h.pl⟩, by rw [D.svS, List.all_eq_true]; exact h.sv, h.bk⟩
theorem Dc.lst {k n : Nat} {ds : List D} (h : Dcs k n ds) (hn : n ≤ 100000 := by omega) : Dc (k + 1) n (.lst ds) :=
  ⟨by rw [D.pl, Bool.and_eq_true, List.all_eq_true, decide_eq_true_eq]; exact ⟨Nat.le_trans h.len hn, h.pl⟩, by rw [D.svS, List.all_eq_true]; exact h.sv, h.bk⟩
theorem Dcs.nats {k : Nat} {l : List Nat} (h : ∀ n ∈ l, n < 2 ^ 64) : Dcs k l.length (nD l) := ⟨fun e he => by
    obtain ⟨n, hn, rfl⟩ := List.mem_map.1 he
    exact (Dc.nat (k := k) (n := 0) (h n hn)).pl, fun e he => by
    obtain ⟨n, hn, rfl⟩ := List.mem_map.1 he
    exact (Dc.nat (k := k) (n := 0) (h n hn)).sv, by rw [bulks_nD]; exact Nat.le_refl _⟩
theorem Dcs.ints {k : Nat} {l : List Int} (h : ∀ n ∈ l, n.natAbs < 10 ^ 60) : Dcs k l.length (iD l) := ⟨fun e he => by
    obtain ⟨n, hn, rfl⟩ := List.mem_map.1 he
    exact (Dc.int (k := k) (n := 0) (h n hn)).pl, fun e he => by
    obtain ⟨n, hn, rfl⟩ := List.mem_map.1 he
    exact (Dc.int (k := k) (n := 0) (h n hn)).sv, by rw [bulks_iD]; exact Nat.le_refl _⟩
theorem allMem {P : D → Prop} {x : D} {xs : List D} (h : P x) (t : ∀ y ∈ xs, P y) : ∀ y ∈ x :: xs, P y := fun y hy => by
  rcases List.mem_cons.1 hy with rfl | hy
  · exact h
  · exact t y hy
theorem allNil {P : D → Prop} : ∀ y ∈ ([] : List D), P y := by simp
theorem Dc.t0 {k n : Nat} : Dc (k + 1) n (.tup []) := ⟨rfl, rfl, Nat.zero_le _⟩
theorem Dc.l0 {k n : Nat} : Dc (k + 1) n (.lst []) := ⟨rfl, rfl, Nat.zero_le _⟩
theorem Dc.t1 {k n m : Nat} {d : D} (h : Dc k n d) (hm : n + 1 ≤ m := by omega) (hm2 : m ≤ 100000 := by omega) : Dc (k + 1) m (.tup [d]) := Dc.tup ((Dcs.cons h (Dcs.nil (n := 0))).mono (by omega)) hm2
theorem Dc.l1 {k n m : Nat} {d : D} (h : Dc k n d) (hm : n + 1 ≤ m := by omega) (hm2 : m ≤ 100000 := by omega) : Dc (k + 1) m (.lst [d]) := Dc.lst ((Dcs.cons h (Dcs.nil (n := 0))).mono (by omega)) hm2
theorem Dc.t2 {k n n' m : Nat} {d e : D} (h : Dc k n d) (h' : Dc k n' e) (hm : n + n' + 2 ≤ m := by omega) (hm2 : m ≤ 100000 := by omega) : Dc (k + 1) m (.tup [d, e]) := Dc.tup ((Dcs.cons h (Dcs.cons h' (Dcs.nil (n := 0)))).mono (by omega)) hm2
theorem Dc.l2 {k n n' m : Nat} {d e : D} (h : Dc k n d) (h' : Dc k n' e) (hm : n + n' + 2 ≤ m := by omega) (hm2 : m ≤ 100000 := by omega) : Dc (k + 1) m (.lst [d, e]) := Dc.lst ((Dcs.cons h (Dcs.cons h' (Dcs.nil (n := 0)))).mono (by omega)) hm2
theorem Dc.t3 {k n n' n3 m : Nat} {d e f : D} (h : Dc k n d) (h' : Dc k n' e) (h3 : Dc k n3 f) (hm : n + n' + n3 + 3 ≤ m := by omega) (hm2 : m ≤ 100000 := by omega) : Dc (k + 1) m (.tup [d, e, f]) := Dc.tup ((Dcs.cons h (Dcs.cons h' (Dcs.cons h3 (Dcs.nil (n := 0))))).mono (by omega)) hm2
theorem Dcs.one {k n m : Nat} {d : D} (h : Dc k n d) (hm : n + 1 ≤ m := by omega) : Dcs k m [d] := (Dcs.cons h (Dcs.nil (n := 0))).mono (by omega)
end LS
namespace PM
def tieB (gs : List (List Nat)) (a b : Nat) : Bool := (a != b) && gs.any fun ns => decide (a ∈ ns) && decide (b ∈ ns)
theorem tieB_iff {gs : List (List Nat)} {a b : Nat} : tieB gs a b = true ↔ a ≠ b ∧ ∃ ns ∈ gs, a ∈ ns ∧ b ∈ ns := by
  unfold tieB
  simp
theorem tieB_comm (gs : List (List Nat)) (a b : Nat) : tieB gs a b = tieB gs b a := by
  rw [Bool.eq_iff_iff, tieB_iff, tieB_iff]
  constructor
  · rintro ⟨h, ns, h1, h2, h3⟩; exact ⟨fun z => h z.symm, ns, h1, h3, h2⟩
  · rintro ⟨h, ns, h1, h2, h3⟩; exact ⟨fun z => h z.symm, ns, h1, h3, h2⟩
def nb (n : Nat) (gs : List (List Nat)) (a : Nat) : List Nat := (List.range n).filter (tieB gs a)
theorem mem_nb {n : Nat} {gs : List (List Nat)} {a b : Nat} : b ∈ nb n gs a ↔ b < n ∧ tieB gs a b = true := by
  unfold nb
  rw [List.mem_filter, List.mem_range]
inductive Rch (n : Nat) (gs : List (List Nat)) (T : List Nat) (x : Nat) : Nat → Prop where
  | base : Rch n gs T x x
  | step {y z : Nat} : Rch n gs T x y → (y = x ∨ y ∈ T) → z ∈ nb n gs y → Rch n gs T x z
open Classical in
noncomputable def bagN (n : Nat) (gs : List (List Nat)) (T : List Nat) (x : Nat) : List Nat := (List.range n).filter fun z => decide (z ∉ T) && decide (Rch n gs T x z)
theorem mem_bag {n : Nat} {gs : List (List Nat)} {T : List Nat} {x z : Nat} : z ∈ bagN n gs T x ↔ z < n ∧ z ∉ T ∧ Rch n gs T x z := by
  unfold bagN
  rw [List.mem_filter, List.mem_range]
  simp
theorem Rch.lt {n : Nat} {gs : List (List Nat)} {T : List Nat} {x z : Nat} (hx : x < n) (h : Rch n gs T x z) : z < n := by
  cases h with
  | base => exact hx
  | step _ _ h => exact (mem_nb.1 h).1
theorem rising_filter {l : List Nat} (p : Nat → Bool) (h : Rising l) : Rising (l.filter p) := List.Pairwise.filter p h
theorem rising_range (n : Nat) : Rising (List.range n) := List.pairwise_lt_range
theorem bag_rising (n : Nat) (gs : List (List Nat)) (T : List Nat) (x : Nat) : Rising (bagN n gs T x) := by
  unfold bagN
  exact rising_filter _ (rising_range n)
theorem self_bag {n : Nat} {gs : List (List Nat)} {T : List Nat} {x : Nat} (hx : x < n) (ht : x ∉ T) : x ∈ bagN n gs T x := mem_bag.2 ⟨hx, ht, .base⟩
theorem Rch.symm {n : Nat} {gs : List (List Nat)} {T : List Nat} {x y : Nat} (hx : x < n) (hy : y ∉ T) (h : Rch n gs T x y) : Rch n gs T y x := by
  -- from any z that x comes to by a name that may be gone past, z comes to what x came from
  have key : ∀ z, Rch n gs T x z → ∀ w, Rch n gs T w z → (z = w ∨ z ∈ T) → Rch n gs T w x := by
    intro z hz
    induction hz with
    | base => intro w hw _; exact hw
    | @step u v hu hut huv ih =>
      intro w hw hwt
      have hvu : u ∈ nb n gs v := mem_nb.2 ⟨hu.lt hx, by rw [tieB_comm]; exact (mem_nb.1 huv).2⟩
      have h1 : Rch n gs T w u := .step hw hwt hvu
      rcases hut with e | e
      · rw [← e]; exact h1
      · exact ih w h1 (.inr e)
  exact key y h y .base (.inl rfl)
theorem bag_symm {n : Nat} {gs : List (List Nat)} {T : List Nat} {x y : Nat} (hx : x < n) (hy : y < n) (tx : x ∉ T) (ty : y ∉ T) : y ∈ bagN n gs T x ↔ x ∈ bagN n gs T y := by
  rw [mem_bag, mem_bag]
  exact ⟨fun h => ⟨hx, tx, h.2.2.symm hx ty⟩, fun h => ⟨hy, ty, h.2.2.symm hy tx⟩⟩
theorem bag_none {n : Nat} {gs : List (List Nat)} {x : Nat} (hx : x < n) (z : Nat) : z ∈ bagN n gs [] x ↔ z = x ∨ z ∈ nb n gs x := by
  rw [mem_bag]
  constructor
  · rintro ⟨_, _, h⟩
    cases h with
    | base => exact .inl rfl
    | step h1 h2 h3 =>
      rcases h2 with e | e
      · rw [e] at h3; exact .inr h3
      · cases e
  · rintro (e | h)
    · subst e; exact ⟨hx, by simp, .base⟩
    · exact ⟨(mem_nb.1 h).1, by simp, .step .base (.inl rfl) h⟩
theorem Rch.mono {n : Nat} {gs : List (List Nat)} {T T' : List Nat} (hT : ∀ t ∈ T, t ∈ T') {x z : Nat} (h : Rch n gs T x z) : Rch n gs T' x z := by
  induction h with
  | base => exact .base
  | step _ h1 h2 ih => exact .step ih (h1.imp id (hT _)) h2
theorem Rch.trans' {n : Nat} {gs : List (List Nat)} {T : List Nat} {x o z : Nat} (h : Rch n gs T x o) (ho : o ∈ T) (h2 : Rch n gs T o z) : Rch n gs T x z := by
  induction h2 with
  | base => exact h
  | step _ h1 h2 ih => exact .step ih (.inr (h1.elim (fun e => by rw [e]; exact ho) id)) h2
theorem bag_out {n : Nat} {gs : List (List Nat)} {T T' : List Nat} {x o : Nat} (hT : ∀ t, t ∈ T' ↔ t = o ∨ t ∈ T) (hx : x < n) (on : o < n) (ho : o ∉ T) (hox : o ≠ x) (h : o ∉ bagN n gs T x) : bagN n gs T' x = bagN n gs T x := by
  have no : ¬ Rch n gs T x o := fun z => h (mem_bag.2 ⟨on, ho, z⟩)
  have back : ∀ z, Rch n gs T' x z → Rch n gs T x z := by
    intro z hz
    induction hz with
    | base => exact .base
    | step h1 h2 h3 ih =>
      refine .step ih ?_ h3
      rcases h2 with e | e
      · exact .inl e
      · rcases (hT _).1 e with e' | e'
        · rw [e'] at ih; exact absurd ih no
        · exact .inr e'
  refine rising_ext (bag_rising ..) (bag_rising ..) fun z => ?_
  rw [mem_bag, mem_bag]
  constructor
  · rintro ⟨a, b, c⟩
    exact ⟨a, fun m => b ((hT z).2 (.inr m)), back z c⟩
  · rintro ⟨a, b, c⟩
    refine ⟨a, fun m => ?_, c.mono fun t ht => (hT t).2 (.inr ht)⟩
    rcases (hT z).1 m with e | e
    · rw [e] at c; exact no c
    · exact b e
theorem bag_in {n : Nat} {gs : List (List Nat)} {T T' : List Nat} {x o : Nat} (hT : ∀ t, t ∈ T' ↔ t = o ∨ t ∈ T) (hx : x < n) (on : o < n) (hxt : x ∉ T) (ho : o ∉ T) (hox : o ≠ x) (h : o ∈ bagN n gs T x) (z : Nat) : z ∈ bagN n gs T' x ↔ z ≠ o ∧ (z ∈ bagN n gs T x ∨ z ∈ bagN n gs T o) := by
  obtain ⟨_, _, ro⟩ := mem_bag.1 h
  have up : ∀ {a b : Nat}, Rch n gs T a b → Rch n gs T' a b := fun r => r.mono fun t ht => (hT t).2 (.inr ht)
  have oT : o ∈ T' := (hT o).2 (.inl rfl)
  have back : ∀ z, Rch n gs T' x z → Rch n gs T x z ∨ Rch n gs T o z := by
    intro z hz
    induction hz with
    | base => exact .inl .base
    | @step u v h1 h2 h3 ih =>
      rcases h2 with e | e
      · subst e
        exact .inl (.step .base (.inl rfl) h3)
      · rcases (hT u).1 e with e' | e'
        · subst e'
          exact .inr (.step .base (.inl rfl) h3)
        · rcases ih with r | r
          · exact .inl (.step r (.inr e') h3)
          · exact .inr (.step r (.inr e') h3)
  rw [mem_bag, mem_bag, mem_bag]
  constructor
  · rintro ⟨a, b, c⟩
    have zo : z ≠ o := fun e => b (by rw [e]; exact oT)
    have zT : z ∉ T := fun m => b ((hT z).2 (.inr m))
    exact ⟨zo, (back z c).imp (fun r => ⟨a, zT, r⟩) fun r => ⟨a, zT, r⟩⟩
  · rintro ⟨zo, hz⟩
    have zn : ∀ (zT : z ∉ T), z ∉ T' := fun zT m => ((hT z).1 m).elim zo zT
    rcases hz with ⟨a, b, c⟩ | ⟨a, b, c⟩
    · exact ⟨a, zn b, up c⟩
    · exact ⟨a, zn b, (up ro).trans' oT (up c)⟩
end PM
namespace LS
open PySem L2 HD PM
abbrev gsOf (ps : List Part) : List (List Nat) := ps.map fun p => p.ns
structure NsOk (S : List Nat) (ps : List Part) : Prop where
  few : S.length ≤ 24
  many : ps.length ≤ 1000
  ok : ∀ p ∈ ps, Rising p.ns ∧ ∀ n ∈ p.ns, n < S.length
def nearL (x : Nat) (ps : List Part) : List Nat := ((ps.filter fun p => decide (x ∈ p.ns)).map fun p => p.ns).flatten
theorem mem_nearL {x y : Nat} {ps : List Part} : y ∈ nearL x ps ↔ ∃ p ∈ ps, x ∈ p.ns ∧ y ∈ p.ns := by
  unfold nearL
  simp only [List.mem_flatten, List.mem_map, List.mem_filter]
  constructor
  · rintro ⟨l, ⟨p, ⟨h1, h2⟩, rfl⟩, h3⟩
    exact ⟨p, h1, by simpa using h2, h3⟩
  · rintro ⟨p, h1, h2, h3⟩
    exact ⟨p.ns, ⟨p, ⟨h1, by simpa using h2⟩, rfl⟩, h3⟩
theorem nearL_snoc (x : Nat) (ps : List Part) (p : Part) : nearL x (ps ++ [p]) = nearL x ps ++ if x ∈ p.ns then p.ns else [] := by
  unfold nearL
  rw [List.filter_append, List.map_append, List.flatten_append]
  by_cases h : x ∈ p.ns <;> simp [h]
theorem nearL_len {x n : Nat} {ps : List Part} (h : ∀ p ∈ ps, p.ns.length ≤ n) : (nearL x ps).length ≤ ps.length * n := by
  induction ps with
  | nil => simp [nearL]
  | cons p ps ih =>
    have i := ih fun q hq => h q (List.mem_cons_of_mem _ hq)
    have hp := h p List.mem_cons_self
    have e : nearL x (p :: ps) = (if x ∈ p.ns then p.ns else []) ++ nearL x ps := by
      unfold nearL
      by_cases hx : x ∈ p.ns <;> simp [hx]
    rw [e, List.length_append, List.length_cons, Nat.succ_mul]
    split
    · omega
    · simp; omega
theorem nb_near {n x : Nat} {ps : List Part} : nb n (gsOf ps) x = (List.range n).filter fun y => (y != x) && decide (y ∈ nearL x ps) := by
  unfold nb
  refine List.filter_congr fun y _ => ?_
  rw [Bool.eq_iff_iff, tieB_iff]
  simp only [Bool.and_eq_true, bne_iff_ne, decide_eq_true_eq, mem_nearL]
  constructor
  · rintro ⟨h, ns, hm, h2⟩
    obtain ⟨p, hp, rfl⟩ := List.mem_map.1 hm
    exact ⟨fun z => h z.symm, p, hp, h2⟩
  · rintro ⟨h, p, hp, h2⟩
    exact ⟨fun z => h z.symm, p.ns, List.mem_map.2 ⟨p, hp, rfl⟩, h2⟩
theorem cmp_natsL (l : List Nat) : (D.lst (nD l)).cmp := pi_cmp (k := 1) (by decide) (by rw [D.pi]; exact pi_nats 0 l)
theorem eqv_nilL (x : Nat) (l : List Nat) : D.eqv (.lst (nD (x :: l))) (.lst []) = false := by rfl
end LS
namespace LS
open PySem L2 HD PM
noncomputable def bagsN (n : Nat) (gs : List (List Nat)) (o : List Nat) : List (List Nat) := (List.range o.length).map fun k => bagN n gs (o.take k) (o.getD k 0)
end LS
namespace PM
open LS
def uniS (S : List Nat) (a b : List Nat) : List Nat := (List.range S.length).filter fun n => decide (n ∈ a) || decide (n ∈ b)
def joinL (w : Wd) (S : List Nat) (p : Part) (ps : List Part) : Part := ps.foldl (fun acc q => joinP S (jn w) (uniS S acc.ns q.ns) acc q) p
def unitP (w : Wd) : Part := ⟨[], [unitW w]⟩
def joinA (w : Wd) (S : List Nat) (ps : List Part) : Part := joinL w S (unitP w) ps
end PM
namespace PM
def nearN (ts : List (Nat × Nat)) (i : Nat) : List Nat := (ts.filter fun t => decide (i = t.1) || decide (i = t.2)).map fun t => t.1 + t.2 - i
theorem mem_near {ts : List (Nat × Nat)} {i j : Nat} : j ∈ nearN ts i ↔ (i, j) ∈ ts ∨ (j, i) ∈ ts := by
  unfold nearN
  rw [List.mem_map]
  constructor
  · rintro ⟨⟨a, b⟩, h, e⟩
    obtain ⟨h1, h2⟩ := List.mem_filter.1 h
    simp only [Bool.or_eq_true, decide_eq_true_eq] at h2
    simp only at e
    rcases h2 with rfl | rfl
    · rw [show i + b - i = b by omega] at e
      subst e; exact .inl h1
    · rw [show a + i - i = a by omega] at e
      subst e; exact .inr h1
  · rintro (h | h)
    · exact ⟨(i, j), List.mem_filter.2 ⟨h, by simp⟩, by simp only; omega⟩
    · exact ⟨(j, i), List.mem_filter.2 ⟨h, by simp⟩, by simp only; omega⟩
theorem near_nodup {ts : List (Nat × Nat)} {i : Nat} (nd : ts.Nodup) (hlt : ∀ t ∈ ts, t.1 < t.2) : (nearN ts i).Nodup := by
  unfold nearN List.Nodup
  rw [List.pairwise_map]
  refine List.Pairwise.imp_of_mem (R := fun a b => a ≠ b) ?_ (List.Pairwise.filter _ nd)
  rintro ⟨a, b⟩ ⟨c, d⟩ h1 h2 hne e
  obtain ⟨m1, p1⟩ := List.mem_filter.1 h1
  obtain ⟨m2, p2⟩ := List.mem_filter.1 h2
  simp only [Bool.or_eq_true, decide_eq_true_eq] at p1 p2
  have l1 : a < b := hlt _ m1
  have l2 : c < d := hlt _ m2
  simp only at e
  have : a = c ∧ b = d := by omega
  exact hne (by rw [this.1, this.2])
inductive Lnk (ts : List (Nat × Nat)) (sm : List Nat) (h : Nat) : Nat → Prop where
  | base : Lnk ts sm h h
  | step {y z : Nat} : Lnk ts sm h y → z ∈ nearN ts y → z ∈ sm → Lnk ts sm h z
def HangN (ts : List (Nat × Nat)) (sm : List Nat) : Prop := ∀ h ∈ sm.head?, ∀ y ∈ sm, Lnk ts sm h y
theorem nd_sub_len : ∀ {a b : List Nat}, a.Nodup → (∀ x ∈ a, x ∈ b) → a.length ≤ b.length := by
  intro a
  induction a with
  | nil => intro b _ _; exact Nat.zero_le _
  | cons x a ih =>
    intro b nd h
    obtain ⟨h1, h2⟩ := List.nodup_cons.1 nd
    have hx := h x List.mem_cons_self
    have := ih (b := b.erase x) h2 fun y hy => (List.mem_erase_of_ne (fun e => h1 (by rw [← e]; exact hy))).2 (h y (List.mem_cons_of_mem _ hy))
    rw [List.length_erase_of_mem hx] at this
    have h0 : 0 < b.length := List.length_pos_of_mem hx
    rw [List.length_cons]
    omega
theorem seen_iff {ts : List (Nat × Nat)} {sm seen : List Nat} {h : Nat} (hh : sm.head? = some h) (nd : sm.Nodup) (nds : seen.Nodup) (sub : ∀ x ∈ seen, x ∈ sm) (hin : h ∈ seen) (lk : ∀ x ∈ seen, Lnk ts sm h x) (cl : ∀ x ∈ seen, ∀ z ∈ nearN ts x, z ∈ sm → z ∈ seen) : seen.length = sm.length ↔ HangN ts sm := by
  constructor
  · intro e h' hm y hy
    rw [hh] at hm
    cases hm
    refine lk y (Classical.byContradiction fun hn => ?_)
    have := nd_sub_len (a := y :: seen) (b := sm) (List.nodup_cons.2 ⟨hn, nds⟩) fun x hx => by
      rcases List.mem_cons.1 hx with rfl | h
      · exact hy
      · exact sub x h
    rw [List.length_cons] at this
    omega
  · intro H
    have all : ∀ y ∈ sm, y ∈ seen := fun y hy => by
      have := H h (by rw [hh]; rfl) y hy
      induction this with
      | base => exact hin
      | step h1 h2 h3 ih =>
        rename_i u v
        cases h1 with
        | base => exact cl _ hin _ h2 h3
        | step a b c => exact cl _ (ih c) _ h2 h3
    exact Nat.le_antisymm (nd_sub_len nds sub) (nd_sub_len nd all)
theorem hang_root {ts : List (Nat × Nat)} {sm : List Nat} {r : Nat} (hr : r ∈ sm) (up : Nat → Nat) (hle : ∀ i ∈ sm, i ≤ r) (hup : ∀ i ∈ sm, i < r → i < up i ∧ up i ∈ sm ∧ (i, up i) ∈ ts) : HangN ts sm := by
  intro h hh y hy
  have hm : h ∈ sm := List.mem_of_mem_head? hh
  have toR : ∀ k i, i ∈ sm → r - i ≤ k → Lnk ts sm h i → Lnk ts sm h r := by
    intro k
    induction k with
    | zero => intro i hi hk hL; have := hle i hi; rw [show r = i by omega]; exact hL
    | succ k ih =>
      intro i hi hk hL
      by_cases e : i < r
      · obtain ⟨h1, h2, h3⟩ := hup i hi e
        have := hle _ h2
        exact ih (up i) h2 (by omega) (.step hL (mem_near.2 (.inl h3)) h2)
      · have := hle i hi; rw [show r = i by omega]; exact hL
  have hR : Lnk ts sm h r := toR _ h hm (Nat.le_refl _) .base
  have down : ∀ k i, i ∈ sm → r - i ≤ k → Lnk ts sm h i := by
    intro k
    induction k with
    | zero => intro i hi hk; have := hle i hi; rw [show i = r by omega]; exact hR
    | succ k ih =>
      intro i hi hk
      by_cases e : i < r
      · obtain ⟨h1, h2, h3⟩ := hup i hi e
        have := hle _ h2
        exact .step (ih (up i) h2 (by omega)) (mem_near.2 (.inr h3)) hi
      · have := hle i hi; rw [show i = r by omega]; exact hR
  exact down _ y hy (Nat.le_refl _)
def laterN (o B : List Nat) (k : Nat) : List Nat := ((List.range (o.length - (k + 1))).map fun i => k + 1 + i).filter fun j => decide (o.getD j 0 ∈ B)
def upN (o B : List Nat) (k : Nat) : Nat := (laterN o B k).headD (k + 1)
theorem mem_later {o B : List Nat} {k j : Nat} : j ∈ laterN o B k ↔ k < j ∧ j < o.length ∧ o.getD j 0 ∈ B := by
  unfold laterN
  rw [List.mem_filter, List.mem_map]
  simp only [List.mem_range, decide_eq_true_eq]
  constructor
  · rintro ⟨⟨a, h, rfl⟩, h2⟩; exact ⟨by omega, by omega, h2⟩
  · rintro ⟨h1, h2, h3⟩; exact ⟨⟨j - (k + 1), by omega, by omega⟩, h3⟩
theorem later_sorted (o B : List Nat) (k : Nat) : (laterN o B k).Pairwise (· < ·) := by
  unfold laterN
  refine List.Pairwise.filter _ ?_
  rw [List.pairwise_map]
  exact (List.pairwise_lt_range).imp fun h => by omega
theorem up_of {o B : List Nat} {k j : Nat} (h : j ∈ laterN o B k) : upN o B k ∈ laterN o B k ∧ upN o B k ≤ j := by
  unfold upN
  have hs := later_sorted o B k
  cases e : laterN o B k with
  | nil => rw [e] at h; cases h
  | cons a l =>
    rw [e] at h hs
    refine ⟨List.mem_cons_self, ?_⟩
    rcases List.mem_cons.1 h with rfl | h
    · exact Nat.le_refl _
    · exact Nat.le_of_lt (List.rel_of_pairwise_cons hs h)
theorem up_lt {o B : List Nat} {k : Nat} (h : k + 1 < o.length) : k < upN o B k ∧ upN o B k < o.length := by
  cases e : laterN o B k with
  | nil => unfold upN; rw [e]; exact ⟨Nat.lt_succ_self _, h⟩
  | cons a l =>
    have := mem_later.1 (up_of (show a ∈ laterN o B k by rw [e]; exact List.mem_cons_self)).1
    exact ⟨this.1, this.2.1⟩
noncomputable def treeN (n : Nat) (gs : List (List Nat)) (o : List Nat) : List (Nat × Nat) := (List.range (o.length - 1)).map fun k => (k, upN o (bagN n gs (o.take k) (o.getD k 0)) k)
theorem mem_tree {n : Nat} {gs : List (List Nat)} {o : List Nat} {t : Nat × Nat} : t ∈ treeN n gs o ↔ t.1 + 1 < o.length ∧ t.2 = upN o (bagN n gs (o.take t.1) (o.getD t.1 0)) t.1 := by
  unfold treeN
  rw [List.mem_map]
  simp only [List.mem_range]
  constructor
  · rintro ⟨k, h, rfl⟩; exact ⟨by simp only; omega, rfl⟩
  · rintro ⟨h1, h2⟩; exact ⟨t.1, by omega, by rw [← h2]⟩
theorem tree_lt {n : Nat} {gs : List (List Nat)} {o : List Nat} {t : Nat × Nat} (h : t ∈ treeN n gs o) : t.1 < t.2 ∧ t.2 < o.length := by
  obtain ⟨h1, h2⟩ := mem_tree.1 h
  rw [h2]
  exact up_lt h1
theorem tree_up {n : Nat} {gs : List (List Nat)} {o : List Nat} : (treeN n gs o).Pairwise fun a b => a.1 < b.1 := by
  unfold treeN
  rw [List.pairwise_map]
  exact List.pairwise_lt_range
theorem tree_nodup {n : Nat} {gs : List (List Nat)} {o : List Nat} : (treeN n gs o).Nodup := tree_up.imp fun h e => by rw [e] at h; exact Nat.lt_irrefl _ h
theorem getD_mem {l : List Nat} {k : Nat} (h : k < l.length) : l.getD k 0 ∈ l := by
  rw [List.getD_eq_getElem?_getD, List.getElem?_eq_getElem h]
  exact List.getElem_mem h
theorem getD_take {l : List Nat} {k : Nat} (nd : l.Nodup) {j : Nat} (h : j < l.length) : l.getD j 0 ∈ l.take k ↔ j < k := by
  rw [List.getD_eq_getElem?_getD, List.getElem?_eq_getElem h]
  show l[j] ∈ _ ↔ _
  constructor
  · intro hm
    obtain ⟨i, hi, e⟩ := List.getElem_of_mem hm
    rw [List.length_take] at hi
    rw [List.getElem_take] at e
    have := (List.getElem_inj nd).1 e
    omega
  · intro hk
    exact List.mem_take_iff_getElem.2 ⟨j, by omega, rfl⟩
theorem tree_run {n : Nat} {gs : List (List Nat)} {o : List Nat} (nd : o.Nodup) (hl : ∀ m ∈ o, m < n) {i p : Nat} (hp : p < o.length) (hip : i < p) (hb : o.getD p 0 ∈ bagN n gs (o.take i) (o.getD i 0)) :
    i < upN o (bagN n gs (o.take i) (o.getD i 0)) i ∧ upN o (bagN n gs (o.take i) (o.getD i 0)) i ≤ p ∧ o.getD p 0 ∈ bagN n gs (o.take (upN o (bagN n gs (o.take i) (o.getD i 0)) i)) (o.getD (upN o (bagN n gs (o.take i) (o.getD i 0)) i) 0) := by
  obtain ⟨h1, h2⟩ := up_of (mem_later.2 ⟨hip, hp, hb⟩)
  obtain ⟨h3, h4, h5⟩ := mem_later.1 h1
  generalize upN o (bagN n gs (o.take i) (o.getD i 0)) i = j at *
  refine ⟨h3, h2, ?_⟩
  rw [mem_bag] at hb h5 ⊢
  have hi : i < o.length := by omega
  refine ⟨hb.1, fun z => by have := (getD_take nd hp).1 z; omega, ?_⟩
  have s1 : Rch n gs (o.take j) (o.getD j 0) (o.getD i 0) := (h5.2.2.symm (hl _ (getD_mem hi)) h5.2.1).mono fun t ht => (List.take_subset_take_left o (by omega)) ht
  exact s1.trans' ((getD_take nd hi).2 h3) (hb.2.2.mono fun t ht => (List.take_subset_take_left o (by omega)) ht)
theorem tree_part {n : Nat} {gs : List (List Nat)} {o : List Nat} (nd : o.Nodup) (hl : ∀ m ∈ o, m < n) (hall : ∀ m, m < n → m ∈ o) {ns : List Nat} (hns : ns ∈ gs) (hnl : ∀ m ∈ ns, m < n) (h0 : 0 < o.length) : ∃ k, k < o.length ∧ ∀ m ∈ ns, m ∈ bagN n gs (o.take k) (o.getD k 0) := by
  -- the first of the order that stands in the group
  by_cases he : ∃ k, k < o.length ∧ o.getD k 0 ∈ ns
  · have hex : ∃ k, (k < o.length ∧ o.getD k 0 ∈ ns) ∧ ∀ j, j < k → ¬ (j < o.length ∧ o.getD j 0 ∈ ns) := by
      obtain ⟨k, hk⟩ := he
      induction k using Nat.strongRecOn with
      | ind k ih =>
        by_cases h : ∃ j, j < k ∧ j < o.length ∧ o.getD j 0 ∈ ns
        · obtain ⟨j, hj, h1⟩ := h; exact ih j hj h1
        · exact ⟨k, hk, fun j hj z => h ⟨j, hj, z⟩⟩
    obtain ⟨k, ⟨hk, hkn⟩, hmin⟩ := hex
    refine ⟨k, hk, fun m hm => ?_⟩
    obtain ⟨j, hj, e⟩ := List.getElem_of_mem (hall m (hnl m hm))
    have ej : o.getD j 0 = m := by rw [List.getD_eq_getElem?_getD, List.getElem?_eq_getElem hj]; exact e
    have hjk : ¬ j < k := fun z => hmin j z ⟨hj, by rw [ej]; exact hm⟩
    refine mem_bag.2 ⟨hnl m hm, fun z => by rw [← ej] at z; exact hjk ((getD_take nd hj).1 z), ?_⟩
    by_cases e2 : m = o.getD k 0
    · rw [← e2]; exact .base
    · exact .step .base (.inl rfl) (mem_nb.2 ⟨hnl m hm, tieB_iff.2 ⟨fun z => e2 z.symm, ns, hns, hkn, hm⟩⟩)
  · refine ⟨0, h0, fun m hm => ?_⟩
    obtain ⟨j, hj, e⟩ := List.getElem_of_mem (hall m (hnl m hm))
    exact absurd ⟨j, hj, by rw [List.getD_eq_getElem?_getD, List.getElem?_eq_getElem hj]; show o[j] ∈ ns; rw [e]; exact hm⟩ he
theorem tree_name {n : Nat} {gs : List (List Nat)} {o : List Nat} (nd : o.Nodup) (hl : ∀ m ∈ o, m < n) {x : Nat} (hx : x ∈ o) :
    (∃ i ∈ List.range o.length, x ∈ bagN n gs (o.take i) (o.getD i 0)) ∧ HangN (treeN n gs o) ((List.range o.length).filter fun i => decide (x ∈ bagN n gs (o.take i) (o.getD i 0))) := by
  obtain ⟨p, hp, e⟩ := List.getElem_of_mem hx
  have ep : o.getD p 0 = x := by rw [List.getD_eq_getElem?_getD, List.getElem?_eq_getElem hp]; exact e
  have self : x ∈ bagN n gs (o.take p) (o.getD p 0) := by
    have := self_bag (n := n) (gs := gs) (T := o.take p) (x := o.getD p 0) (hl _ (getD_mem hp)) fun z => by have := (getD_take nd hp).1 z; omega
    rwa [ep] at this ⊢
  have mm : ∀ i, i ∈ (List.range o.length).filter (fun i => decide (x ∈ bagN n gs (o.take i) (o.getD i 0))) ↔ i < o.length ∧ x ∈ bagN n gs (o.take i) (o.getD i 0) := fun i => by
    rw [List.mem_filter, List.mem_range, decide_eq_true_eq]
  refine ⟨⟨p, List.mem_range.2 hp, self⟩, ?_⟩
  have hle : ∀ i, x ∈ bagN n gs (o.take i) (o.getD i 0) → i ≤ p := fun i h => by
    have h2 := (mem_bag.1 h).2.1
    rw [← ep] at h2
    have := mt (getD_take (k := i) nd hp).2 h2
    omega
  refine hang_root (r := p) ((mm p).2 ⟨hp, self⟩) (fun k => upN o (bagN n gs (o.take k) (o.getD k 0)) k) (fun i hi => hle i ((mm i).1 hi).2) fun i hi h => ?_
  obtain ⟨h1, h2⟩ := (mm i).1 hi
  rw [← ep] at h2
  obtain ⟨a, b, c⟩ := tree_run nd hl hp h h2
  rw [ep] at c
  exact ⟨a, (mm _).2 ⟨by omega, c⟩, mem_tree.2 ⟨by simp only; omega, rfl⟩⟩
end PM
namespace LS
open PySem L2 HD PM
local macro_rules | `(tactic| trivial) => `(tactic| try simp -dsimp only [↓sIf, ↓sRet, ↓retD_ext, ↓retD_lst, ↓retD_al, ↓sSet, ↓sSetE, ↓sAsg, ↓sDrop, ↓sNext, ↓sFor, ↓sRetN, ↓sCont, ↓sBreak, ↓dTest, ↓dOp, ↓dVar_w, ↓dC, ↓dCons, ↓dNil, ↓dTup, ↓dLst, ↓frzDs, ↓frzD_ext, ↓frzD_lst, ↓frzD_al, ↓wd_ext, ↓wd_lst, ↓wd_al, ↓wds, ↓AtS_ext, ↓AtS_lst, ↓AtL, ↓fAdd, ↓fSub, ↓fMul, ↓fDiv, ↓fMod, ↓fPow, ↓fCmp, ↓fIn, ↓fEq_ii, ↓fEq_ss, ↓fEq_bb, ↓fEq_tt, ↓fEq_ll, ↓fNe_ii, ↓fNe_ss, ↓fNe_bb, ↓fNe_tt, ↓fNe_ll, ↓fIx_l, ↓fIx_t, ↓fIx_k, ↓fIx_f, ↓GetS_some, ↓NatS_some, ↓fSl, ↓fIsN, ↓fNotN, ↓D.knN, ↓dNot, ↓dAnd, ↓dOr, ↓dAndV_w, ↓dOrV_w, ↓dNotV, ↓dIf, ↓dNeg, ↓dChain_w, ↓BlS_bl, ↓dCall_w, ↓dCallJ_w, ↓anyAl, ↓frozs, ↓froz, ↓gSet, ↓gTupD, ↓gsCons, ↓gsNil, ↓dSeq, ↓seqD_tup, ↓seqD_elst, ↓seqD_lst, ↓seqD_al, ↓dRange1, ↓dRange2, ↓dZip, ↓dCB, ↓dLc, ↓dYes, ↓dNoPart, ↓dPart, ↓dSl, ↓fLen, ↓fMin, ↓fMax, ↓fSum, ↓fAll, ↓fAny, ↓fSorted, ↓fTuple, ↓fList, ↓dRg1, ↓dRg2, ↓dLstRg, ↓dTupRg, ↓dIndex, ↓fIdx, ↓dAppend_w, ↓dExtend_w, ↓extD_lst, ↓dPopAt_w, ↓popD_int, ↓dPop_w, ↓mutD_w, ↓sSetItem_w, ↓setD_int, ↓dSortSet, ↓dTable_w, ↓wipeE, finals1, finals2, finals3, finals4, finals5, finals6, fin1_ext, fin1_lst, List.getElem?_cons_zero, List.getElem?_cons_succ, List.getElem?_nil, List.set_cons_zero, List.set_cons_succ, List.cons_append, List.nil_append, List.append_nil, List.replicate_succ, List.replicate_zero, List.map_cons, List.map_nil, List.length_cons, List.length_nil, true_and, and_true, ite_true, ite_false, if_true, if_false, Bool.false_eq_true, decide_eq_true_eq, Sl.plain, D.isSq, eq_self_iff_true, forall_const, reduceIte, true_or, or_true, atI_0, atI_1, atI_2, atI_3, ixN_0, ixN_1, ixN_2, AtS_ext, AtS_lst, FzS_lst, FzS_ext, GetS_some, NatS_some, ↓fIsi1, ↓fIsi2, BoolS_some, HD.kb_non_tuple, HD.kb_non_list, HD.kb_non_bool, HD.kb_non_int, HD.kb_non_str, HD.kb_bl_tuple, HD.kb_bl_list, HD.kb_bl_bool, HD.kb_bl_int, HD.kb_bl_str, HD.kb_int_tuple, HD.kb_int_list, HD.kb_int_bool, HD.kb_int_int, HD.kb_int_str, HD.kb_str_tuple, HD.kb_str_list, HD.kb_str_bool, HD.kb_str_int, HD.kb_str_str, HD.kb_lst_tuple, HD.kb_lst_list, HD.kb_lst_bool, HD.kb_lst_int, HD.kb_lst_str, HD.kb_tup_tuple, HD.kb_tup_list, HD.kb_tup_bool, HD.kb_tup_int, HD.kb_tup_str, ↓sFz_w, ↓FzS_lst, ↓FzS_ext, ↓dSortSetL, ↓fAbs, ↓fInt, ↓fRepr, ↓fLtT, ↓sRaise, ↓sTryKeep, ↓dCallV_w, ↓dMeth, ↓fCount, ↓fSplit, ↓seq_setE, ↓seq_set, ↓seq_drop, ↓seq_asg, ↓seq_if, ↓seq_for, ↓dStep, ↓fStep, ↓fMulT, ↓fIsB, ↓fNotB, ↓sPar, ↓dEnum, ↓dListZip, ↓dNest, ↓sSeal, ↓dNApp, ↓retD_reg, ↓dLenSet, ↓fSum2, ↓seq_putD, ↓seq_sealD, ↓dDIn, ↓dDGet, ↓sPutD, ↓dDNew, ↓dDOne, ↓sSealD, ↓dKeys, ↓keyS_dk, ↓dExtT, ↓fSortT, ↓fMinP, ↓dRemove])
def tieD (t : Nat × Nat) : D := .tup [.int (t.1 : Nat), .int (t.2 : Nat)]
def sp_near_of : DSpec := fun args Q _ => ∃ (ts : List (Nat × Nat)) (i : Nat), args = [.ext (.tup (ts.map tieD)), dI (i : Nat)] ∧ ts.length ≤ 100 ∧ ∀ (l : List Nat) a fin, l.Perm (nearN ts i) → l.Pairwise (· ≤ ·) → Q (.lst a (nD l)) fin
def e1_near_of : DT :=
    (dOp fSub (dOp fAdd (dVar 2) (dVar 3)) (dVar 1))
def t_near_of : DTS :=
    (sRet (dCB fSorted (dCons (dLc (dSeq (dVar 0)) (gTupD 2 (gsCons (gSet 2) (gsCons (gSet 3) gsNil))) (dTest (dOp (fIn false) (dVar 1) (dTup (dCons (dVar 2) (dCons (dVar 3) dNil))))) e1_near_of [2, 3]) dNil)))
theorem m_near_of : Meets t_near_of 2 2 sp_near_of := by
  rintro args Qd Xd ⟨ts, i, rfl, hl, hQ⟩
  show t_near_of _ _ [_, _, .un, .un]
  unfold t_near_of
  trivial
  refine lc_filter tieD (fun t => .int ((t.1 + t.2 - i : Nat) : Int)) (fun t => decide (i = t.1) || decide (i = t.2)) True.intro ts (Nat.le_trans hl (by decide)) (fun t ht R hR => ?_) fun b => ?_
  · unfold e1_near_of tieD
    trivial
    refine ⟨by decide, rfl, rfl, ?_⟩
    rw [show ([D.int (t.1 : Nat), D.int (t.2 : Nat)] : List D) = nD [t.1, t.2] from rfl, isIn_nat]
    have e0 : decide (i ∈ [t.1, t.2]) = (decide (i = t.1) || decide (i = t.2)) := by
      rw [Bool.eq_iff_iff]; simp
    rw [e0]
    split
    · rename_i h
      rw [if_pos h] at hR
      have e1 : ((t.1 : Nat) : Int) + (t.2 : Nat) - (i : Nat) = ((t.1 + t.2 - i : Nat) : Int) := by
        simp only [Bool.or_eq_true, decide_eq_true_eq] at h
        omega
      rw [e1]
      exact hR
    · rename_i h
      rw [if_neg h] at hR
      exact hR
  trivial
  refine ⟨cI (nearN ts i), ?_, fun ns' a hp hs => ?_⟩
  · unfold nearN cI
    rw [List.map_map, List.map_map]
    rfl
  obtain ⟨l, rfl⟩ : ∃ l, ns' = cI l := ⟨ns'.map Int.toNat, by
    unfold cI
    rw [List.map_map]
    refine (List.map_id _).symm.trans (List.map_congr_left fun x hx => ?_)
    obtain ⟨m, _, rfl⟩ := List.mem_map.1 (hp.mem_iff.1 hx)
    simp⟩
  trivial
  have e : (cI l).map D.int = nD l := by unfold cI nD; rw [List.map_map]; rfl
  rw [e]
  refine hQ l a _ ?_ ?_
  · have := hp.map Int.toNat
    unfold cI at this
    rw [List.map_map, List.map_map] at this
    simpa [Function.comp_def] using this
  · unfold cI at hs
    rw [List.pairwise_map] at hs
    exact hs.imp fun h => by omega
def sp_hanging : DSpec := fun args Q _ => ∃ (ts : List (Nat × Nat)) (sm : List Nat), args = [.ext (.tup (ts.map tieD)), .ext (.lst (nD sm))] ∧ ts.length ≤ 100 ∧ sm.length ≤ 100 ∧ ts.Nodup ∧ (∀ t ∈ ts, t.1 < t.2) ∧ sm.Nodup ∧ ∀ (b : Bool) fin, (b = true ↔ HangN ts sm) → Q (.ext (.bl b)) fin
def e1_hanging : DT :=
    (dVar 4)
def b2_hanging : DTS :=
    (sSeq (sSetE 2 (dOp fAdd (dVar 2) (dLc (dSeq (dCall sp_near_of (dCons (dVar 0) (dCons (dOp fIx (dVar 2) (dVar 3)) dNil)))) (gSet 4) (dAnd (dTest (dOp (fIn false) (dVar 4) (dVar 1))) (dTest (dOp (fIn true) (dVar 4) (dVar 2)))) e1_hanging [4])))
    (sSetE 3 (dOp fAdd (dVar 3) (dC (.int 1)))))
def k3_hanging : DTS :=
    (sRet (dOp fEq (dCB fLen (dCons (dVar 2) dNil)) (dCB fLen (dCons (dVar 1) dNil))))
def t_hanging : DTS :=
    (sSeq (sIf (dTest (dOp fEq (dVar 1) (dLst dNil))) (sRet (dC (.bl true))) sNext)
    (sSeq (sSetE 2 (dLst (dCons (dOp fIx (dVar 1) (dC (.int 0))) dNil)))
    (sSeq (sSetE 3 (dC (.int 0)))
    (sSeq (sWhile (dTest (dOp (fCmp fun i j => decide (i < j)) (dVar 3) (dCB fLen (dCons (dVar 2) dNil)))) b2_hanging)
    k3_hanging))))
theorem m_hanging : Meets t_hanging 2 3 sp_hanging := by
  rintro args Qd Xd ⟨ts, sm, rfl, hl, hsl, nd, hlt, nds, hQ⟩
  show t_hanging _ _ [_, _, .un, .un, .un]
  unfold t_hanging
  trivial
  refine ⟨by decide, cmp_natsL _, cmp_natsL [], ?_⟩
  cases sm with
  | nil =>
    rw [if_pos (show D.eqv (.lst (nD [])) (.lst []) = true from eqv_refl (cmp_natsL []))]
    exact hQ _ _ ⟨fun _ h hh => by simp at hh, fun _ => rfl⟩
  | cons h sm' =>
  rw [if_neg (by rw [eqv_nilL]; decide)]
  rw [show nD (h :: sm') = D.int (h : Nat) :: nD sm' from rfl, atI_0]
  trivial
  refine ⟨by decide, ?_⟩
  rw [show D.int (h : Nat) :: nD sm' = nD (h :: sm') from rfl]
  generalize hsm : h :: sm' = sm at *
  have hhd : sm.head? = some h := by rw [← hsm]; rfl
  have hhm : h ∈ sm := by rw [← hsm]; exact List.mem_cons_self
  rw [seq_while]
  refine ⟨fun m env => ∃ (seen : List Nat) (at' : Nat) (u4 : Sl), env = [.ext (.tup (ts.map tieD)), .ext (.lst (nD sm)), .ext (.lst (nD seen)), dI (at' : Nat), u4] ∧ m = sm.length - at' ∧ seen.Nodup ∧ (∀ x ∈ seen, x ∈ sm) ∧ h ∈ seen ∧ (∀ x ∈ seen, Lnk ts sm h x) ∧ at' ≤ seen.length ∧ ∀ k, k < at' → ∀ z ∈ nearN ts (seen.getD k 0), z ∈ sm → z ∈ seen, ⟨_, [h], 0, _, rfl, rfl, by simp, fun x hx => by rw [List.mem_singleton.1 hx]; exact hhm, by simp, fun x hx => by rw [List.mem_singleton.1 hx]; exact .base, by simp, fun k hk => absurd hk (Nat.not_lt_zero _)⟩, ?_⟩
  rintro m env ⟨seen, at', u4, rfl, rfl, hnd, hsub, hin, hlk, hat, hcl⟩
  have hle := nd_sub_len hnd hsub
  trivial
  rw [nD_len]
  by_cases hlt2 : at' < seen.length
  · rw [if_pos (by simpa using hlt2)]
    unfold b2_hanging
    trivial
    refine ⟨_, atN (getD_at hlt2), ?_⟩
    trivial
    refine ⟨ts, seen.getD at' 0, rfl, hl, fun l a1 fin hp _ => ?_⟩
    trivial
    have ndl : l.Nodup := hp.symm.nodup (near_nodup nd hlt)
    have hll : l.length ≤ 100 := by
      rw [hp.length_eq]
      unfold nearN
      rw [List.length_map]
      exact Nat.le_trans (List.length_filter_le _ _) hl
    refine lc_filter (fun i : Nat => D.int (i : Nat)) (fun i : Nat => D.int (i : Nat)) (fun i => decide (i ∈ sm) && decide (i ∉ seen)) True.intro l (Nat.le_trans hll (by decide)) (fun i hi R hR => ?_) fun b => ?_
    · unfold e1_hanging
      trivial
      rw [isIn_nat, isIn_nat]
      refine ⟨rfl, flat_nD _, ?_⟩
      by_cases h1 : i ∈ sm
      · rw [if_pos (decide_eq_true h1)]
        refine ⟨rfl, flat_nD _, ?_⟩
        by_cases h2 : i ∈ seen
        · rw [if_neg (by simp [h2])]
          rw [if_neg (by simp [h2])] at hR
          exact hR
        · rw [if_pos (by simp [h2])]
          rw [if_pos (by simp [h1, h2])] at hR
          exact hR
      · rw [if_neg (by simp [h1])]
        rw [if_neg (by simp [h1])] at hR
        exact hR
    trivial
    have hfl : (l.filter fun i => decide (i ∈ sm) && decide (i ∉ seen)).length ≤ 100 := Nat.le_trans (List.length_filter_le _ _) hll
    have hmem : ∀ z, z ∈ (l.filter fun i => decide (i ∈ sm) && decide (i ∉ seen)) ↔ z ∈ nearN ts (seen.getD at' 0) ∧ z ∈ sm ∧ z ∉ seen := fun z => by
      rw [List.mem_filter, hp.mem_iff]
      simp
    have hga : seen.getD at' 0 ∈ seen := getD_mem hlt2
    refine ⟨by rw [nD_len, List.length_map]; exact Nat.le_trans (by omega : _ ≤ 200) (by decide), sm.length - (at' + 1), by omega, seen ++ (l.filter fun i => decide (i ∈ sm) && decide (i ∉ seen)), at' + 1, _, by rw [show nD (seen ++ (l.filter fun i => decide (i ∈ sm) && decide (i ∉ seen))) = nD seen ++ (l.filter fun i => decide (i ∈ sm) && decide (i ∉ seen)).map (fun i : Nat => D.int (i : Nat)) from List.map_append]; rfl, rfl, ?_, ?_, List.mem_append_left _ hin, ?_, by rw [List.length_append]; omega, ?_⟩
    · rw [List.nodup_append]
      exact ⟨hnd, ndl.filter _, fun x hx y hy e => ((hmem y).1 hy).2.2 (by rw [← e]; exact hx)⟩
    · intro x hx
      rcases List.mem_append.1 hx with h1 | h1
      · exact hsub x h1
      · exact ((hmem x).1 h1).2.1
    · intro x hx
      rcases List.mem_append.1 hx with h1 | h1
      · exact hlk x h1
      · obtain ⟨h2, h3, _⟩ := (hmem x).1 h1
        exact .step (hlk _ hga) h2 h3
    · intro k hk z hz hzm
      rw [List.getD_eq_getElem?_getD, List.getElem?_append_left (by omega), ← List.getD_eq_getElem?_getD] at hz
      rcases Nat.lt_or_ge k at' with h1 | h1
      · exact List.mem_append_left _ (hcl k h1 z hz hzm)
      · have : k = at' := by omega
        subst this
        by_cases h2 : z ∈ seen
        · exact List.mem_append_left _ h2
        · exact List.mem_append_right _ ((hmem z).2 ⟨hz, hzm, h2⟩)
  · rw [if_neg (by simpa using hlt2)]
    have ea : at' = seen.length := by omega
    unfold k3_hanging
    trivial
    rw [nD_len, nD_len]
    refine hQ _ _ ?_
    have := seen_iff hhd nds hnd hsub hin hlk fun x hx z hz hzm => by
      obtain ⟨k, hk, e⟩ := List.getElem_of_mem hx
      refine hcl k (by omega) z ?_ hzm
      rw [List.getD_eq_getElem?_getD, List.getElem?_eq_getElem hk]
      show z ∈ nearN ts seen[k]
      rw [e]
      exact hz
    rw [← this]
    simp
    omega
def sp_is_tie : DSpec := fun args Q _ => ∃ (n : Nat) (t : Nat × Nat), args = [dI (n : Nat), .ext (tieD t)] ∧ ∀ fin, Q (.ext (.bl (decide (t.1 < t.2 ∧ t.2 < n)))) fin
def k1_is_tie : DTS :=
    (sRet (dChain3 (fCmp fun i j => decide (i ≤ j)) (fCmp fun i j => decide (i < j)) (fCmp fun i j => decide (i < j)) (dC (.int 0)) (dOp fIx (dVar 1) (dC (.int 0))) (dOp fIx (dVar 1) (dC (.int 1))) (dVar 0)))
def t_is_tie : DTS :=
    (sSeq (sIf (dOr (dNot (dTest (dCB fIsi (dCons (dVar 1) (dCons (dC (.val (.ty "tuple"))) dNil))))) (dOr (dTest (dOp fNe (dCB fLen (dCons (dVar 1) dNil)) (dC (.int 2)))) (dOr (dNot (dTest (dCall sp_is_whole (dCons (dOp fIx (dVar 1) (dC (.int 0))) dNil)))) (dNot (dTest (dCall sp_is_whole (dCons (dOp fIx (dVar 1) (dC (.int 1))) dNil))))))) (sRet (dC (.bl false))) sNext)
    k1_is_tie)
theorem pl_tupF (Bs : List (List Nat)) (h : Bs.length ≤ 1000) (h2 : ∀ B ∈ Bs, B.length ≤ 1000) : D.pl 2 (.tup (fD Bs)) = true := by
  rw [D.pl, Bool.and_eq_true, List.all_eq_true, decide_eq_true_eq]
  refine ⟨by unfold fD; rw [List.length_map]; omega, fun d hd => ?_⟩
  obtain ⟨B, hB, rfl⟩ := List.mem_map.1 hd
  exact pl_tupN _ (by have := h2 B hB; omega)
theorem pl_tupT (ts : List (Nat × Nat)) (h : ts.length ≤ 1000) : D.pl 2 (.tup (ts.map tieD)) = true := by
  rw [D.pl, Bool.and_eq_true, List.all_eq_true, decide_eq_true_eq]
  refine ⟨by rw [List.length_map]; omega, fun d hd => ?_⟩
  obtain ⟨t, ht, rfl⟩ := List.mem_map.1 hd
  exact pl_tupN [t.1, t.2] (by simp)
def sp_are_bags : DSpec := fun args Q _ => ∃ (n : Nat) (Bs : List (List Nat)), args = [dI (n : Nat), .ext (.tup (fD Bs))] ∧ 0 < Bs.length ∧ Bs.length ≤ 12 ∧ (∀ B ∈ Bs, Rising B ∧ B.length ≤ 100 ∧ ∀ m ∈ B, m < n) ∧ ∀ fin, Q (.ext (.bl true)) fin
def e1_are_bags : DT :=
    (dCall sp_are_names (dCons (dVar 0) (dCons (dVar 2) dNil)))
def k2_are_bags : DTS :=
    (sRet (dCB fAll (dCons (dLc (dSeq (dVar 1)) (gSet 2) dYes e1_are_bags [2]) dNil)))
def t_are_bags : DTS :=
    (sSeq (sIf (dOr (dNot (dTest (dCB fIsi (dCons (dVar 1) (dCons (dC (.val (.ty "tuple"))) dNil))))) (dNot (dTest (dChain (fCmp fun i j => decide (i ≤ j)) (fCmp fun i j => decide (i ≤ j)) (dC (.int 1)) (dCB fLen (dCons (dVar 1) dNil)) (dC (.int 12)))))) (sRet (dC (.bl false))) sNext)
    k2_are_bags)
structure TreeOk (m : Nat) (ts : List (Nat × Nat)) : Prop where
  len : ts.length + 1 = m
  few : m ≤ 100
  lt : ∀ t ∈ ts, t.1 < t.2 ∧ t.2 < m
  up : ts.Pairwise fun a b => a.1 < b.1 ∨ (a.1 = b.1 ∧ a.2 < b.2)
  hang : HangN ts (List.range m)
theorem TreeOk.nd {m : Nat} {ts : List (Nat × Nat)} (h : TreeOk m ts) : ts.Nodup := h.up.imp fun h e => by rw [e] at h; omega
def sp_is_tree : DSpec := fun args Q _ => ∃ (n : Int) (Bs : List (List Nat)) (ts : List (Nat × Nat)), args = [dI n, .ext (.tup (fD Bs)), .ext (.tup (ts.map tieD))] ∧ TreeOk Bs.length ts ∧ ∀ fin, Q (.ext (.bl true)) fin
def e1_is_tree : DT :=
    (dCall sp_is_tie (dCons (dCB fLen (dCons (dVar 1) dNil)) (dCons (dVar 3) dNil)))
def e2_is_tree : DT :=
    (dOp fGeT (dOp fIx (dVar 2) (dOp fSub (dVar 4) (dC (.int 1)))) (dOp fIx (dVar 2) (dVar 4)))
def k3_is_tree : DTS :=
    (sRet (dCall sp_hanging (dCons (dVar 2) (dCons (dLstRg (dRg1 (dCB fLen (dCons (dVar 1) dNil)))) dNil))))
def k4_is_tree : DTS :=
    (sSeq (sIf (dOr (dTest (dOp fNe (dCB fLen (dCons (dVar 2) dNil)) (dOp fSub (dCB fLen (dCons (dVar 1) dNil)) (dC (.int 1))))) (dTest (dCB fAny (dCons (dLc (dRange2 (dCons (dC (.int 1)) (dCons (dCB fLen (dCons (dVar 2) dNil)) dNil))) (gSet 4) dYes e2_is_tree [4]) dNil)))) (sRet (dC (.bl false))) sNext)
    k3_is_tree)
def t_is_tree : DTS :=
    (sSeq (sIf (dOr (dNot (dTest (dCB fIsi (dCons (dVar 2) (dCons (dC (.val (.ty "tuple"))) dNil))))) (dNot (dTest (dCB fAll (dCons (dLc (dSeq (dVar 2)) (gSet 3) dYes e1_is_tree [3]) dNil))))) (sRet (dC (.bl false))) sNext)
    k4_is_tree)
structure BTree (n : Nat) (gs : List (List Nat)) (Bs : List (List Nat)) (ts : List (Nat × Nat)) : Prop where
  few : Bs.length ≤ 12
  bag : ∀ B ∈ Bs, Rising B ∧ B.length ≤ 100 ∧ ∀ m ∈ B, m < n
  tree : TreeOk Bs.length ts
  part : ∀ ns ∈ gs, ∃ B ∈ Bs, ∀ m ∈ ns, m ∈ B
  name : ∀ x, x < n → (∃ i ∈ List.range Bs.length, x ∈ Bs.getD i []) ∧ HangN ts ((List.range Bs.length).filter fun i => decide (x ∈ Bs.getD i []))
def dTree (Bs : List (List Nat)) (ts : List (Nat × Nat)) : D := .tup [.tup (fD Bs), .tup (ts.map tieD)]
theorem pl_tree (Bs : List (List Nat)) (ts : List (Nat × Nat)) (h : Bs.length ≤ 1000) (h2 : ∀ B ∈ Bs, B.length ≤ 1000) (h3 : ts.length ≤ 1000) : D.pl 3 (dTree Bs ts) = true := by
  unfold dTree
  rw [D.pl]
  simp only [List.all_cons, List.all_nil, pl_tupF Bs h h2, pl_tupT ts h3]
  rfl
def sp_is_bag_tree : DSpec := fun args Q _ => ∃ (S : List Nat) (ps : List Part) (Bs : List (List Nat)) (ts : List (Nat × Nat)), args = [.ext (dSh S ps), .ext (dTree Bs ts)] ∧ NsOk S ps ∧ BTree S.length (gsOf ps) Bs ts ∧ ∀ fin, Q (.ext (.bl true)) fin
def e1_is_bag_tree : DT :=
    (dOp (fIn false) (dVar 7) (dVar 6))
def e2_is_bag_tree : DT :=
    (dCB fAll (dCons (dLc (dSeq (dOp fIx (dVar 5) (dC (.int 0)))) (gSet 7) dYes e1_is_bag_tree [7]) dNil))
def b3_is_bag_tree : DTS :=
    (sIf (dNot (dTest (dCB fAny (dCons (dLc (dSeq (dVar 3)) (gSet 6) dYes e2_is_bag_tree [6]) dNil)))) (sRet (dC (.bl false))) sNext)
def e4_is_bag_tree : DT :=
    (dVar 9)
def b5_is_bag_tree : DTS :=
    (sSeq (sSetE 8 (dLc (dRange1 (dCons (dCB fLen (dCons (dVar 3) dNil)) dNil)) (gSet 9) (dTest (dOp (fIn false) (dVar 7) (dOp fIx (dVar 3) (dVar 9)))) e4_is_bag_tree [9]))
    (sIf (dOr (dTest (dOp fEq (dVar 8) (dLst dNil))) (dNot (dTest (dCall sp_hanging (dCons (dVar 4) (dCons (dVar 8) dNil)))))) (sRet (dC (.bl false))) sNext))
def k6_is_bag_tree : DTS :=
    (sRet (dC (.bl true)))
def k7_is_bag_tree : DTS :=
    (sSeq (sFor (dRange1 (dCons (dVar 2) dNil)) (gSet 7) b5_is_bag_tree)
    k6_is_bag_tree)
def k8_is_bag_tree : DTS :=
    (sSeq (sAsg (dVar 1) (gTupD 2 (gsCons (gSet 3) (gsCons (gSet 4) gsNil))))
    (sSeq (sIf (dNot (dTest (dCall sp_is_tree (dCons (dVar 2) (dCons (dVar 3) (dCons (dVar 4) dNil)))))) (sRet (dC (.bl false))) sNext)
    (sSeq (sFor (dSeq (dOp fIx (dVar 0) (dC (.int 1)))) (gSet 5) b3_is_bag_tree)
    k7_is_bag_tree)))
def t_is_bag_tree : DTS :=
    (sSeq (sSetE 2 (dCB fLen (dCons (dOp fIx (dVar 0) (dC (.int 0))) dNil)))
    (sSeq (sIf (dOr (dNot (dTest (dCB fIsi (dCons (dVar 1) (dCons (dC (.val (.ty "tuple"))) dNil))))) (dOr (dTest (dOp fNe (dCB fLen (dCons (dVar 1) dNil)) (dC (.int 2)))) (dNot (dTest (dCall sp_are_bags (dCons (dVar 2) (dCons (dOp fIx (dVar 1) (dC (.int 0))) dNil))))))) (sRet (dC (.bl false))) sNext)
    k8_is_bag_tree))
end LS
namespace LS
namespace BT
open PySem L2 HD PM
local macro_rules | `(tactic| trivial) => `(tactic| try simp -dsimp only [↓sIf, ↓sRet, ↓retD_ext, ↓retD_lst, ↓retD_al, ↓sSet, ↓sSetE, ↓sAsg, ↓sDrop, ↓sNext, ↓sFor, ↓sRetN, ↓sCont, ↓sBreak, ↓dTest, ↓dOp, ↓dVar_w, ↓dC, ↓dCons, ↓dNil, ↓dTup, ↓dLst, ↓frzDs, ↓frzD_ext, ↓frzD_lst, ↓frzD_al, ↓wd_ext, ↓wd_lst, ↓wd_al, ↓wds, ↓AtS_ext, ↓AtS_lst, ↓AtL, ↓fAdd, ↓fSub, ↓fMul, ↓fDiv, ↓fMod, ↓fPow, ↓fCmp, ↓fIn, ↓fEq_ii, ↓fEq_ss, ↓fEq_bb, ↓fEq_tt, ↓fEq_ll, ↓fNe_ii, ↓fNe_ss, ↓fNe_bb, ↓fNe_tt, ↓fNe_ll, ↓fIx_l, ↓fIx_t, ↓fIx_k, ↓fIx_f, ↓GetS_some, ↓NatS_some, ↓fSl, ↓fIsN, ↓fNotN, ↓D.knN, ↓dNot, ↓dAnd, ↓dOr, ↓dAndV_w, ↓dOrV_w, ↓dNotV, ↓dIf, ↓dNeg, ↓dChain_w, ↓BlS_bl, ↓dCall_w, ↓dCallJ_w, ↓anyAl, ↓frozs, ↓froz, ↓gSet, ↓gTupD, ↓gsCons, ↓gsNil, ↓dSeq, ↓seqD_tup, ↓seqD_elst, ↓seqD_lst, ↓seqD_al, ↓dRange1, ↓dRange2, ↓dZip, ↓dCB, ↓dLc, ↓dYes, ↓dNoPart, ↓dPart, ↓dSl, ↓fLen, ↓fMin, ↓fMax, ↓fSum, ↓fAll, ↓fAny, ↓fSorted, ↓fTuple, ↓fList, ↓dRg1, ↓dRg2, ↓dLstRg, ↓dTupRg, ↓dIndex, ↓fIdx, ↓dAppend_w, ↓dExtend_w, ↓extD_lst, ↓dPopAt_w, ↓popD_int, ↓dPop_w, ↓mutD_w, ↓sSetItem_w, ↓setD_int, ↓dSortSet, ↓dTable_w, ↓wipeE, finals1, finals2, finals3, finals4, finals5, finals6, fin1_ext, fin1_lst, List.getElem?_cons_zero, List.getElem?_cons_succ, List.getElem?_nil, List.set_cons_zero, List.set_cons_succ, List.cons_append, List.nil_append, List.append_nil, List.replicate_succ, List.replicate_zero, List.map_cons, List.map_nil, List.length_cons, List.length_nil, true_and, and_true, ite_true, ite_false, if_true, if_false, Bool.false_eq_true, decide_eq_true_eq, Sl.plain, D.isSq, eq_self_iff_true, forall_const, reduceIte, true_or, or_true, atI_0, atI_1, atI_2, atI_3, ixN_0, ixN_1, ixN_2, AtS_ext, AtS_lst, FzS_lst, FzS_ext, GetS_some, NatS_some, ↓fIsi1, ↓fIsi2, BoolS_some, HD.kb_non_tuple, HD.kb_non_list, HD.kb_non_bool, HD.kb_non_int, HD.kb_non_str, HD.kb_bl_tuple, HD.kb_bl_list, HD.kb_bl_bool, HD.kb_bl_int, HD.kb_bl_str, HD.kb_int_tuple, HD.kb_int_list, HD.kb_int_bool, HD.kb_int_int, HD.kb_int_str, HD.kb_str_tuple, HD.kb_str_list, HD.kb_str_bool, HD.kb_str_int, HD.kb_str_str, HD.kb_lst_tuple, HD.kb_lst_list, HD.kb_lst_bool, HD.kb_lst_int, HD.kb_lst_str, HD.kb_tup_tuple, HD.kb_tup_list, HD.kb_tup_bool, HD.kb_tup_int, HD.kb_tup_str, ↓sFz_w, ↓FzS_lst, ↓FzS_ext, ↓dSortSetL, ↓fAbs, ↓fInt, ↓fRepr, ↓fLtT, ↓sRaise, ↓sTryKeep, ↓dCallV_w, ↓dMeth, ↓fCount, ↓fSplit, ↓seq_setE, ↓seq_set, ↓seq_drop, ↓seq_asg, ↓seq_if, ↓seq_for, ↓dStep, ↓fStep, ↓fMulT, ↓fIsB, ↓fNotB, ↓sPar, ↓dEnum, ↓dListZip, ↓dNest, ↓sSeal, ↓dNApp, ↓retD_reg, ↓dLenSet, ↓fSum2, ↓seq_putD, ↓seq_sealD, ↓dDIn, ↓dDGet, ↓sPutD, ↓dDNew, ↓dDOne, ↓sSealD, ↓dKeys, ↓keyS_dk, ↓dExtT, ↓fSortT, ↓fMinP, ↓dRemove])
theorem pl_tup {k : Nat} {ds : List D} (h : D.pl k (.tup ds) = true) : ∃ j, k = j + 1 ∧ ds.length ≤ 100000 ∧ ∀ d ∈ ds, D.pl j d = true := by
  cases k with
  | zero => simp [D.pl] at h
  | succ k =>
    rw [D.pl, Bool.and_eq_true, List.all_eq_true, decide_eq_true_eq] at h
    exact ⟨k, rfl, h.1, h.2⟩
def TieD (n : Int) (d : D) : Prop := ∃ t : Nat × Nat, d = tieD t ∧ t.1 < t.2 ∧ (t.2 : Int) < n
def sp_is_tie : DSpec := fun args Q _ => ∃ (n : Int) (d : D) (k : Nat), args = [dI n, .ext d] ∧ D.pl k d = true ∧ ∀ (b : Bool) fin, (b = true ↔ TieD n d) → Q (.ext (.bl b)) fin
def k1_is_tie : DTS :=
    (sRet (dChain3 (fCmp fun i j => decide (i ≤ j)) (fCmp fun i j => decide (i < j)) (fCmp fun i j => decide (i < j)) (dC (.int 0)) (dOp fIx (dVar 1) (dC (.int 0))) (dOp fIx (dVar 1) (dC (.int 1))) (dVar 0)))
def t_is_tie : DTS :=
    (sSeq (sIf (dOr (dNot (dTest (dCB fIsi (dCons (dVar 1) (dCons (dC (.val (.ty "tuple"))) dNil))))) (dOr (dTest (dOp fNe (dCB fLen (dCons (dVar 1) dNil)) (dC (.int 2)))) (dOr (dNot (dTest (dCall sp_is_whole (dCons (dOp fIx (dVar 1) (dC (.int 0))) dNil)))) (dNot (dTest (dCall sp_is_whole (dCons (dOp fIx (dVar 1) (dC (.int 1))) dNil))))))) (sRet (dC (.bl false))) sNext)
    k1_is_tie)
theorem m_is_tie : Meets t_is_tie 2 0 sp_is_tie := by
  rintro args Qd Xd ⟨n, d, k, rfl, hp, hQ⟩
  have nv := pl_noVal k d hp
  show t_is_tie _ _ [_, _]
  unfold t_is_tie
  have no : ∀ {d : D}, (∀ t : Nat × Nat, d ≠ tieD t) → (false = true ↔ TieD n d) := fun h => ⟨fun z => (nomatch z), fun ⟨t, e, _⟩ => absurd e (h t)⟩
  cases d with
  | val _ => cases k <;> simp [D.pl] at hp
  | fz _ => cases k <;> simp [D.pl] at hp
  | tk _ => cases k <;> simp [D.pl] at hp
  | exc _ => cases k <;> simp [D.pl] at hp
  | glo _ => cases k <;> simp [D.pl] at hp
  | dk _ _ => cases k <;> simp [D.pl] at hp
  | dt _ _ => cases k <;> simp [D.pl] at hp
  | tup ds =>
    obtain ⟨j, rfl, hl, hds⟩ := pl_tup hp
    trivial
    refine ⟨nv, rfl, ?_⟩
    rw [if_neg (by decide)]
    by_cases h2 : ds.length = 2
    · obtain ⟨x, y, rfl⟩ : ∃ x y, ds = [x, y] := by
        match ds, h2 with
        | [x, y], _ => exact ⟨x, y, rfl⟩
      rw [if_neg (by simp)]
      trivial
      refine ⟨x, j, rfl, hds x (by simp), fun fin => ?_⟩
      trivial
      cases x with
      | int i =>
        rw [if_neg (by simp [D.isInt])]
        trivial
        refine ⟨y, j, rfl, hds y (by simp), fun fin => ?_⟩
        trivial
        cases y with
        | int i2 =>
          rw [if_neg (by simp [D.isInt])]
          unfold k1_is_tie dChain3
          trivial
          have hQ' := fun b => hQ b [Sl.ext (D.int n), Sl.ext (D.tup [D.int i, D.int i2])]
          have key : TieD n (.tup [.int i, .int i2]) ↔ (0 ≤ i ∧ i < i2 ∧ i2 < n) := by
            constructor
            · rintro ⟨t, e, h1, h2⟩
              unfold tieD at e
              have e := D.tup.inj e
              have e1 : i = (t.1 : Int) := D.int.inj (List.cons.inj e).1
              have e2 : i2 = (t.2 : Int) := D.int.inj (List.cons.inj (List.cons.inj e).2).1
              omega
            · rintro ⟨h1, h2, h3⟩
              refine ⟨(i.toNat, i2.toNat), ?_, by show i.toNat < i2.toNat; omega, by show ((i2.toNat : Nat) : Int) < n; omega⟩
              show _ = D.tup [.int ((i.toNat : Nat) : Int), .int ((i2.toNat : Nat) : Int)]
              rw [show ((i.toNat : Nat) : Int) = i by omega, show ((i2.toNat : Nat) : Int) = i2 by omega]
          by_cases c1 : 0 ≤ i
          · rw [if_pos (by simpa using c1)]
            by_cases c2 : i < i2
            · rw [if_pos (by simpa using c2)]
              exact hQ' _ (by rw [decide_eq_true_eq, key]; exact ⟨fun z => ⟨c1, c2, z⟩, fun z => z.2.2⟩)
            · rw [if_neg (by simpa using c2)]
              exact hQ' _ ⟨fun z => (nomatch z), fun z => absurd (key.1 z).2.1 c2⟩
          · rw [if_neg (by simpa using c1)]
            exact hQ' _ ⟨fun z => (nomatch z), fun z => absurd (key.1 z).1 c1⟩
        | _ =>
          rw [if_pos (by simp [D.isInt])]
          exact hQ _ _ (no fun t z => by unfold tieD at z; exact nomatch (List.cons.inj (List.cons.inj (D.tup.inj z)).2).1)
      | _ =>
        rw [if_pos (by simp [D.isInt])]
        exact hQ _ _ (no fun t z => by unfold tieD at z; exact nomatch (List.cons.inj (D.tup.inj z)).1)
    · rw [if_pos (by simp; omega)]
      exact hQ _ _ (no fun t z => by unfold tieD at z; exact h2 (by rw [D.tup.inj z]; rfl))
  | _ =>
    trivial
    simp only [nv, D.isFz, true_and, Bool.not_true, Bool.not_false, if_true]
    exact hQ _ _ (no fun t z => by unfold tieD at z; cases z)
open Classical in
theorem all_of {α : Type} (f : α → D) {P : D → Prop} {R : α → Prop} (h : ∀ d, P d → ∃ a, d = f a ∧ R a) : ∀ ds : List D, (∀ d ∈ ds, P d) → ∃ l : List α, ds = l.map f ∧ ∀ a ∈ l, R a
  | [], _ => ⟨[], rfl, fun a z => nomatch z⟩
  | d :: ds, hd => by
    obtain ⟨a, e, ra⟩ := h d (hd d List.mem_cons_self)
    obtain ⟨l, e2, rl⟩ := all_of f h ds fun x hx => hd x (List.mem_cons_of_mem _ hx)
    exact ⟨a :: l, by rw [e, e2]; rfl, fun x hx => (List.mem_cons.1 hx).elim (fun z => z ▸ ra) (rl x)⟩
def BagsD (n : Nat) (d : D) : Prop := ∃ Bs : List (List Nat), d = .tup (fD Bs) ∧ 1 ≤ Bs.length ∧ Bs.length ≤ 12 ∧ ∀ B ∈ Bs, Rising B ∧ ∀ m ∈ B, m < n
def sp_are_bags : DSpec := fun args Q _ => ∃ (n : Nat) (d : D) (k : Nat), args = [dI (n : Nat), .ext d] ∧ D.pl k d = true ∧ ∀ (b : Bool) fin, (b = true ↔ BagsD n d) → Q (.ext (.bl b)) fin
def e1_are_bags : DT :=
    (dCall sp_are_names (dCons (dVar 0) (dCons (dVar 2) dNil)))
def k2_are_bags : DTS :=
    (sRet (dCB fAll (dCons (dLc (dSeq (dVar 1)) (gSet 2) dYes e1_are_bags [2]) dNil)))
def t_are_bags : DTS :=
    (sSeq (sIf (dOr (dNot (dTest (dCB fIsi (dCons (dVar 1) (dCons (dC (.val (.ty "tuple"))) dNil))))) (dNot (dTest (dChain (fCmp fun i j => decide (i ≤ j)) (fCmp fun i j => decide (i ≤ j)) (dC (.int 1)) (dCB fLen (dCons (dVar 1) dNil)) (dC (.int 12)))))) (sRet (dC (.bl false))) sNext)
    k2_are_bags)
open Classical in
theorem m_are_bags : Meets t_are_bags 2 1 sp_are_bags := by
  rintro args Qd Xd ⟨n, d, k, rfl, hp, hQ⟩
  have nv := pl_noVal k d hp
  show t_are_bags _ _ [_, _, .un]
  unfold t_are_bags
  have no : ∀ {d : D}, (∀ Bs : List (List Nat), 1 ≤ Bs.length → Bs.length ≤ 12 → d ≠ .tup (fD Bs)) → (false = true ↔ BagsD n d) := fun h => ⟨fun z => (nomatch z), fun ⟨Bs, e, h1, h2, _⟩ => absurd e (h Bs h1 h2)⟩
  cases d with
  | val _ => cases k <;> simp [D.pl] at hp
  | fz _ => cases k <;> simp [D.pl] at hp
  | tk _ => cases k <;> simp [D.pl] at hp
  | exc _ => cases k <;> simp [D.pl] at hp
  | glo _ => cases k <;> simp [D.pl] at hp
  | dk _ _ => cases k <;> simp [D.pl] at hp
  | dt _ _ => cases k <;> simp [D.pl] at hp
  | tup ds =>
    obtain ⟨j, rfl, hl, hds⟩ := pl_tup hp
    trivial
    refine ⟨nv, rfl, ?_⟩
    rw [if_neg (by decide)]
    by_cases c1 : 1 ≤ ds.length
    · rw [if_pos (by omega)]
      by_cases c2 : ds.length ≤ 12
      · rw [if_neg (by simp; omega)]
        unfold k2_are_bags
        trivial
        rw [show ds = ds.map (fun e : D => e) from (List.map_id' ds).symm]
        refine lc_map (fun e : D => e) (fun e : D => .bl (decide (NamesD (n : Int) e))) True.intro ds (Nat.le_trans c2 (by decide)) (fun e he R hR => ?_) fun b => ?_
        · unfold e1_are_bags
          trivial
          refine ⟨_, e, j, rfl, hds e he, fun b fin hb => ?_⟩
          trivial
          rw [show b = decide (NamesD (n : Int) e) by rw [Bool.eq_iff_iff, decide_eq_true_eq]; exact hb]
          exact hR
        trivial
        refine ⟨ds.map fun e => decide (NamesD (n : Int) e), by rw [List.map_map]; rfl, ?_⟩
        refine hQ _ _ ?_
        rw [List.all_map, List.all_eq_true]
        constructor
        · intro h
          obtain ⟨Bs, e, hb⟩ := all_of (fun B : List Nat => D.tup (nD B)) (P := NamesD (n : Int)) (R := fun B => Rising B ∧ ∀ m ∈ B, m < n) (fun d ⟨ns, e, h1, h2⟩ => ⟨ns, e, h1, fun m hm => by have := h2 m hm; omega⟩) ds fun e he => of_decide_eq_true (h e he)
          refine ⟨Bs, congrArg D.tup e, ?_, ?_, hb⟩
          · have := congrArg List.length e
            rw [List.length_map] at this
            omega
          · have := congrArg List.length e
            rw [List.length_map] at this
            omega
        · rintro ⟨Bs, e, h1, h2, hb⟩ x hx
          rw [D.tup.inj e] at hx
          obtain ⟨B, hB, rfl⟩ := List.mem_map.1 hx
          exact decide_eq_true ⟨B, rfl, (hb B hB).1, fun m hm => by have := (hb B hB).2 m hm; omega⟩
      · rw [if_pos (by simp; omega)]
        refine hQ _ _ (no fun Bs h1 h2 z => ?_)
        have z := congrArg List.length (D.tup.inj z)
        unfold fD at z
        rw [List.length_map] at z
        omega
    · rw [if_neg (by omega)]
      trivial
      refine hQ _ _ (no fun Bs h1 h2 z => ?_)
      have z := congrArg List.length (D.tup.inj z)
      unfold fD at z
      rw [List.length_map] at z
      omega
  | _ =>
    trivial
    simp only [nv, D.isFz, true_and, Bool.not_true, Bool.not_false, if_true]
    exact hQ _ _ (no fun Bs _ _ z => by cases z)
theorem lex_code {a b : Nat × Nat} (ha : a.2 < 100) (hb : b.2 < 100) : HT.lexLt [(a.1 : Int), (a.2 : Int)] [(b.1 : Int), (b.2 : Int)] = decide (a.1 * 100 + a.2 < b.1 * 100 + b.2) := by
  rw [Bool.eq_iff_iff, decide_eq_true_eq]
  simp only [HT.lexLt]
  by_cases h1 : (a.1 : Int) = b.1
  · have h1' : a.1 = b.1 := by omega
    simp [h1, h1']
    omega
  · simp [h1]
    omega
theorem up_iff {ts : List (Nat × Nat)} (h : ∀ t ∈ ts, t.2 < 100) : ts.Pairwise (fun a b => a.1 < b.1 ∨ (a.1 = b.1 ∧ a.2 < b.2)) ↔ ∀ k (hk : k + 1 < ts.length), HT.lexLt [((ts[k]'(by omega)).1 : Int), ((ts[k]'(by omega)).2 : Int)] [(ts[k + 1].1 : Int), (ts[k + 1].2 : Int)] = true := by
  have e1 : ts.Pairwise (fun a b => a.1 < b.1 ∨ (a.1 = b.1 ∧ a.2 < b.2)) ↔ Rising (ts.map fun t => t.1 * 100 + t.2) := by
    unfold Rising
    rw [List.pairwise_map]
    constructor
    · intro hp
      refine List.Pairwise.imp_of_mem (fun {a b} ha hb hab => ?_) hp
      have := h a ha
      have := h b hb
      omega
    · intro hp
      refine List.Pairwise.imp_of_mem (fun {a b} ha hb hab => ?_) hp
      have := h a ha
      have := h b hb
      omega
  rw [e1, rising_adj]
  have hg : ∀ k (hk : k < ts.length), (ts.map fun t => t.1 * 100 + t.2).getD k 0 = ts[k].1 * 100 + ts[k].2 := fun k hk => by
    rw [List.getD_eq_getElem?_getD, List.getElem?_map, List.getElem?_eq_getElem hk]
    rfl
  constructor
  · intro hr k hk
    have := hr k (by rw [List.length_map]; exact hk)
    rw [hg k (by omega), hg (k + 1) hk] at this
    rw [lex_code (h _ (List.getElem_mem _)) (h _ (List.getElem_mem _))]
    exact decide_eq_true this
  · intro hr k hk
    rw [List.length_map] at hk
    have := hr k hk
    rw [lex_code (h _ (List.getElem_mem _)) (h _ (List.getElem_mem _))] at this
    rw [hg k (by omega), hg (k + 1) hk]
    exact of_decide_eq_true this
def Lt2 (ts : List (Nat × Nat)) (k : Nat) : Prop := ∃ hk : k + 1 < ts.length, HT.lexLt [((ts[k]'(by omega)).1 : Int), ((ts[k]'(by omega)).2 : Int)] [(ts[k + 1].1 : Int), (ts[k + 1].2 : Int)] = true
theorem tie_inj {a b : List (Nat × Nat)} (h : a.map tieD = b.map tieD) : a = b := by
  refine (List.map_inj_right fun x y e => ?_).1 h
  unfold tieD at e
  have e := D.tup.inj e
  have e1 : (x.1 : Int) = y.1 := D.int.inj (List.cons.inj e).1
  have e2 : (x.2 : Int) = y.2 := D.int.inj (List.cons.inj (List.cons.inj e).2).1
  exact Prod.ext (by omega) (by omega)
def TreeD (m : Nat) (d : D) : Prop := ∃ ts : List (Nat × Nat), d = .tup (ts.map tieD) ∧ TreeOk m ts
def sp_is_tree : DSpec := fun args Q _ => ∃ (n : Int) (Bs : List (List Nat)) (d : D) (k : Nat), args = [dI n, .ext (.tup (fD Bs)), .ext d] ∧ 1 ≤ Bs.length ∧ Bs.length ≤ 12 ∧ D.pl k d = true ∧ ∀ (b : Bool) fin, (b = true ↔ TreeD Bs.length d) → Q (.ext (.bl b)) fin
def e1_is_tree : DT :=
    (dCall sp_is_tie (dCons (dCB fLen (dCons (dVar 1) dNil)) (dCons (dVar 3) dNil)))
def e2_is_tree : DT :=
    (dOp fGeT (dOp fIx (dVar 2) (dOp fSub (dVar 4) (dC (.int 1)))) (dOp fIx (dVar 2) (dVar 4)))
def k3_is_tree : DTS :=
    (sRet (dCall sp_hanging (dCons (dVar 2) (dCons (dLstRg (dRg1 (dCB fLen (dCons (dVar 1) dNil)))) dNil))))
def k4_is_tree : DTS :=
    (sSeq (sIf (dOr (dTest (dOp fNe (dCB fLen (dCons (dVar 2) dNil)) (dOp fSub (dCB fLen (dCons (dVar 1) dNil)) (dC (.int 1))))) (dTest (dCB fAny (dCons (dLc (dRange2 (dCons (dC (.int 1)) (dCons (dCB fLen (dCons (dVar 2) dNil)) dNil))) (gSet 4) dYes e2_is_tree [4]) dNil)))) (sRet (dC (.bl false))) sNext)
    k3_is_tree)
def t_is_tree : DTS :=
    (sSeq (sIf (dOr (dNot (dTest (dCB fIsi (dCons (dVar 2) (dCons (dC (.val (.ty "tuple"))) dNil))))) (dNot (dTest (dCB fAll (dCons (dLc (dSeq (dVar 2)) (gSet 3) dYes e1_is_tree [3]) dNil))))) (sRet (dC (.bl false))) sNext)
    k4_is_tree)
open Classical in
theorem m_is_tree : Meets t_is_tree 3 2 sp_is_tree := by
  rintro args Qd Xd ⟨n, Bs, d, k, rfl, h1, h12, hp, hQ⟩
  have nv := pl_noVal k d hp
  have hfl : (fD Bs).length = Bs.length := by unfold fD; rw [List.length_map]
  show t_is_tree _ _ [_, _, _, .un, .un]
  unfold t_is_tree
  have no : ∀ {d : D}, (∀ ts : List (Nat × Nat), TreeOk Bs.length ts → d ≠ .tup (ts.map tieD)) → (false = true ↔ TreeD Bs.length d) := fun h => ⟨fun z => (nomatch z), fun ⟨ts, e, h1⟩ => absurd e (h ts h1)⟩
  cases d with
  | val _ => cases k <;> simp [D.pl] at hp
  | fz _ => cases k <;> simp [D.pl] at hp
  | tk _ => cases k <;> simp [D.pl] at hp
  | exc _ => cases k <;> simp [D.pl] at hp
  | glo _ => cases k <;> simp [D.pl] at hp
  | dk _ _ => cases k <;> simp [D.pl] at hp
  | dt _ _ => cases k <;> simp [D.pl] at hp
  | tup ds =>
    obtain ⟨j, rfl, hl, hds⟩ := pl_tup hp
    trivial
    refine ⟨nv, rfl, ?_⟩
    rw [if_neg (by decide)]
    rw [show ds = ds.map (fun e : D => e) from (List.map_id' ds).symm]
    refine lc_map (fun e : D => e) (fun e : D => .bl (decide (TieD (Bs.length : Nat) e))) True.intro ds (Nat.le_trans hl (by decide)) (fun e he R hR => ?_) fun b => ?_
    · unfold e1_is_tree
      trivial
      rw [hfl]
      refine ⟨_, e, j, rfl, hds e he, fun b fin hb => ?_⟩
      trivial
      rw [show b = decide (TieD (Bs.length : Nat) e) by rw [Bool.eq_iff_iff, decide_eq_true_eq]; exact hb]
      exact hR
    trivial
    refine ⟨ds.map fun e => decide (TieD (Bs.length : Nat) e), by rw [List.map_map]; rfl, ?_⟩
    rw [List.map_id']
    by_cases hall : ∀ e ∈ ds, TieD (Bs.length : Nat) e
    · rw [if_neg (by
        rw [show (ds.map fun e => decide (TieD (Bs.length : Nat) e)).all id = true by rw [List.all_map, List.all_eq_true]; exact fun e he => decide_eq_true (hall e he)]
        decide)]
      obtain ⟨ts, rfl, hts⟩ := all_of tieD (P := TieD (Bs.length : Nat)) (R := fun t : Nat × Nat => t.1 < t.2 ∧ t.2 < Bs.length) (fun d ⟨t, e, h1, h2⟩ => ⟨t, e, h1, by omega⟩) ds hall
      unfold k4_is_tree
      trivial
      rw [hfl, List.length_map]
      have inj : ∀ {ts' : List (Nat × Nat)}, D.tup (ts.map tieD) = .tup (ts'.map tieD) → ts = ts' := fun z => tie_inj (D.tup.inj z)
      by_cases c : ts.length + 1 = Bs.length
      · rw [if_neg (by simp; omega)]
        have hnl : (((ts.length : Nat) : Int) - 1).toNat = ts.length - 1 := by omega
        unfold rgD
        rw [hnl]
        refine ⟨⟨by decide, by decide⟩, ⟨by omega, by omega⟩, ?_⟩
        have h100 : ∀ t ∈ ts, t.2 < 100 := fun t ht => by have := hts t ht; omega
        have hup := up_iff h100
        refine lc_map (fun i : Nat => D.int (1 + (i : Nat))) (fun i => .bl (!decide (Lt2 ts i))) True.intro (List.range (ts.length - 1)) (by rw [List.length_range]; exact Nat.le_trans (by omega : _ ≤ 100) (by decide)) (fun i hi R hR => ?_) fun b => ?_
        · have hi := List.mem_range.1 hi
          unfold e2_is_tree
          trivial
          have e1 : (ts.map tieD)[(1 + (i : Int) - 1).toNat]? = some (tieD (ts[i]'(by omega))) := by
            rw [show (1 + (i : Int) - 1).toNat = i by omega, List.getElem?_map, List.getElem?_eq_getElem (by omega)]; rfl
          have e2 : (ts.map tieD)[(1 + (i : Int)).toNat]? = some (tieD (ts[i + 1]'(by omega))) := by
            rw [show (1 + (i : Int)).toNat = i + 1 by omega, List.getElem?_map, List.getElem?_eq_getElem (by omega)]; rfl
          refine ⟨_, atI_int (by omega) e1, ?_⟩
          trivial
          refine ⟨_, atI_int (by omega) e2, ?_⟩
          trivial
          refine ⟨cI [ts[i].1, ts[i].2], cI [ts[i + 1].1, ts[i + 1].2], rfl, rfl, ?_⟩
          trivial
          have el : HT.lexLt [(ts[i].1 : Int), (ts[i].2 : Int)] [(ts[i + 1].1 : Int), (ts[i + 1].2 : Int)] = decide (Lt2 ts i) := by
            rw [Bool.eq_iff_iff, decide_eq_true_eq]
            exact ⟨fun z => ⟨by omega, z⟩, fun z => z.2⟩
          rw [el]
          exact hR
        trivial
        refine ⟨(List.range (ts.length - 1)).map fun i => !decide (Lt2 ts i), by rw [List.map_map]; rfl, ?_⟩
        by_cases hpw : ts.Pairwise fun a b => a.1 < b.1 ∨ (a.1 = b.1 ∧ a.2 < b.2)
        · rw [if_neg (by
            rw [Bool.not_eq_true, List.any_map, List.any_eq_false]
            intro i hi
            have hi := List.mem_range.1 hi
            have : Lt2 ts i := ⟨by omega, hup.1 hpw i (by omega)⟩
            simp [this])]
          unfold k3_is_tree
          trivial
          rw [hfl]
          refine ⟨RgOk.of_le (by omega) (by omega) (by omega) (by omega), fun a3 => ?_⟩
          trivial
          rw [rgD_nat]
          have hnd : ts.Nodup := hpw.imp fun h e => by rw [e] at h; omega
          refine ⟨ts, List.range Bs.length, rfl, by omega, by rw [List.length_range]; omega, hnd, fun t ht => (hts t ht).1, List.nodup_range, fun b fin hb => ?_⟩
          trivial
          refine hQ _ _ (hb.trans ⟨fun hh => ⟨ts, rfl, c, by omega, hts, hpw, hh⟩, fun ⟨ts', e, h⟩ => by rw [inj e]; exact h.hang⟩)
        · rw [if_pos (by
            rw [List.any_map, List.any_eq_true]
            refine Classical.not_not.1 fun z => hpw (hup.2 fun k hk => ?_)
            refine Classical.not_not.1 fun z2 => z ⟨k, List.mem_range.2 (by omega), ?_⟩
            have : ¬ Lt2 ts k := fun ⟨_, y⟩ => z2 y
            simp [this])]
          exact hQ _ _ (no fun ts' ht z => by rw [← inj z] at ht; exact hpw ht.up)
      · rw [if_pos (by simp; omega)]
        refine hQ _ _ (no fun ts' ht z => c ?_)
        rw [← inj z] at ht
        exact ht.len
    · rw [if_pos (by
        rw [show (ds.map fun e => decide (TieD (Bs.length : Nat) e)).all id = false by
          rw [Bool.eq_false_iff]
          intro z
          rw [List.all_map, List.all_eq_true] at z
          exact hall fun e he => of_decide_eq_true (z e he)]
        decide)]
      refine hQ _ _ (no fun ts ht z => hall fun e he => ?_)
      rw [D.tup.inj z] at he
      obtain ⟨t, htm, rfl⟩ := List.mem_map.1 he
      have := ht.lt t htm
      exact ⟨t, rfl, this.1, by omega⟩
  | _ =>
    trivial
    simp only [nv, D.isFz, true_and, Bool.not_true, Bool.not_false, if_true]
    exact hQ _ _ (no fun ts _ z => by cases z)
def BtD (S : List Nat) (ps : List Part) (d : D) : Prop := ∃ Bs ts, d = dTree Bs ts ∧ BTree S.length (gsOf ps) Bs ts
def sp_is_bag_tree : DSpec := fun args Q _ => ∃ (S : List Nat) (ps : List Part) (d : D) (k : Nat), args = [.ext (dSh S ps), .ext d] ∧ NsOk S ps ∧ D.pl k d = true ∧ ∀ (b : Bool) fin, (b = true ↔ BtD S ps d) → Q (.ext (.bl b)) fin
def e1_is_bag_tree : DT :=
    (dOp (fIn false) (dVar 7) (dVar 6))
def e2_is_bag_tree : DT :=
    (dCB fAll (dCons (dLc (dSeq (dOp fIx (dVar 5) (dC (.int 0)))) (gSet 7) dYes e1_is_bag_tree [7]) dNil))
def b3_is_bag_tree : DTS :=
    (sIf (dNot (dTest (dCB fAny (dCons (dLc (dSeq (dVar 3)) (gSet 6) dYes e2_is_bag_tree [6]) dNil)))) (sRet (dC (.bl false))) sNext)
def e4_is_bag_tree : DT :=
    (dVar 9)
def b5_is_bag_tree : DTS :=
    (sSeq (sSetE 8 (dLc (dRange1 (dCons (dCB fLen (dCons (dVar 3) dNil)) dNil)) (gSet 9) (dTest (dOp (fIn false) (dVar 7) (dOp fIx (dVar 3) (dVar 9)))) e4_is_bag_tree [9]))
    (sIf (dOr (dTest (dOp fEq (dVar 8) (dLst dNil))) (dNot (dTest (dCall sp_hanging (dCons (dVar 4) (dCons (dVar 8) dNil)))))) (sRet (dC (.bl false))) sNext))
def k6_is_bag_tree : DTS :=
    (sRet (dC (.bl true)))
def k7_is_bag_tree : DTS :=
    (sSeq (sFor (dRange1 (dCons (dVar 2) dNil)) (gSet 7) b5_is_bag_tree)
    k6_is_bag_tree)
def k8_is_bag_tree : DTS :=
    (sSeq (sAsg (dVar 1) (gTupD 2 (gsCons (gSet 3) (gsCons (gSet 4) gsNil))))
    (sSeq (sIf (dNot (dTest (dCall sp_is_tree (dCons (dVar 2) (dCons (dVar 3) (dCons (dVar 4) dNil)))))) (sRet (dC (.bl false))) sNext)
    (sSeq (sFor (dSeq (dOp fIx (dVar 0) (dC (.int 1)))) (gSet 5) b3_is_bag_tree)
    k7_is_bag_tree)))
def t_is_bag_tree : DTS :=
    (sSeq (sSetE 2 (dCB fLen (dCons (dOp fIx (dVar 0) (dC (.int 0))) dNil)))
    (sSeq (sIf (dOr (dNot (dTest (dCB fIsi (dCons (dVar 1) (dCons (dC (.val (.ty "tuple"))) dNil))))) (dOr (dTest (dOp fNe (dCB fLen (dCons (dVar 1) dNil)) (dC (.int 2)))) (dNot (dTest (dCall sp_are_bags (dCons (dVar 2) (dCons (dOp fIx (dVar 1) (dC (.int 0))) dNil))))))) (sRet (dC (.bl false))) sNext)
    k8_is_bag_tree))
theorem fD_inj {a b : List (List Nat)} (h : fD a = fD b) : a = b := by
  unfold fD at h
  exact (List.map_inj_right fun x y e => nD_inj (D.tup.inj e)).1 h
theorem tree_inj {Bs Bs' : List (List Nat)} {ts ts' : List (Nat × Nat)} (h : dTree Bs ts = dTree Bs' ts') : Bs = Bs' ∧ ts = ts' := by
  unfold dTree at h
  have h := D.tup.inj h
  have h1 := D.tup.inj (List.cons.inj h).1
  have h2 := D.tup.inj (List.cons.inj (List.cons.inj h).2).1
  exact ⟨fD_inj h1, tie_inj h2⟩
theorem m_is_bag_tree : Meets t_is_bag_tree 2 8 sp_is_bag_tree := by
  rintro args Qd Xd ⟨S, ps, d, k, rfl, ok, hp, hQ⟩
  have h24 := ok.few
  have nv := pl_noVal k d hp
  show t_is_bag_tree _ _ [_, _, .un, .un, .un, .un, .un, .un, .un, .un]
  unfold t_is_bag_tree
  have no : ∀ {d : D}, (∀ Bs ts, BTree S.length (gsOf ps) Bs ts → d ≠ dTree Bs ts) → (false = true ↔ BtD S ps d) := fun h => ⟨fun z => (nomatch z), fun ⟨Bs, ts, e, h1⟩ => absurd e (h Bs ts h1)⟩
  cases d with
  | val _ => cases k <;> simp [D.pl] at hp
  | fz _ => cases k <;> simp [D.pl] at hp
  | tk _ => cases k <;> simp [D.pl] at hp
  | exc _ => cases k <;> simp [D.pl] at hp
  | glo _ => cases k <;> simp [D.pl] at hp
  | dk _ _ => cases k <;> simp [D.pl] at hp
  | dt _ _ => cases k <;> simp [D.pl] at hp
  | tup ds =>
    obtain ⟨j, rfl, hl, hds⟩ := pl_tup hp
    trivial
    refine ⟨nv, rfl, ?_⟩
    rw [if_neg (by decide)]
    by_cases h2 : ds.length = 2
    · obtain ⟨x, y, rfl⟩ : ∃ x y, ds = [x, y] := by
        match ds, h2 with
        | [x, y], _ => exact ⟨x, y, rfl⟩
      rw [if_neg (by simp)]
      trivial
      rw [nD_len]
      refine ⟨S.length, x, j, rfl, hds x (by simp), fun b fin hb => ?_⟩
      trivial
      cases b with
      | false =>
        rw [if_pos (by decide)]
        refine hQ _ _ (no fun Bs ts bt z => ?_)
        have e : x = .tup (fD Bs) := (List.cons.inj (D.tup.inj z)).1
        exact absurd (hb.2 ⟨Bs, e, by have := bt.tree.len; omega, bt.few, fun B hB => ⟨(bt.bag B hB).1, (bt.bag B hB).2.2⟩⟩) (by decide)
      | true =>
        rw [if_neg (by decide)]
        obtain ⟨Bs, rfl, hb1, hb12, hbs⟩ := hb.1 rfl
        have hfl : (fD Bs).length = Bs.length := by unfold fD; rw [List.length_map]
        unfold k8_is_bag_tree
        trivial
        refine ⟨_, Bs, y, j, rfl, hb1, hb12, hds y (by simp), fun b fin hb2 => ?_⟩
        trivial
        cases b with
        | false =>
          rw [if_pos (by decide)]
          refine hQ _ _ (no fun Bs' ts bt z => ?_)
          have z := D.tup.inj z
          have e : Bs = Bs' := fD_inj (D.tup.inj (List.cons.inj z).1)
          have e2 : y = .tup (ts.map tieD) := (List.cons.inj (List.cons.inj z).2).1
          exact absurd (hb2.2 ⟨ts, e2, by rw [e]; exact bt.tree⟩) (by decide)
        | true =>
          rw [if_neg (by decide)]
          obtain ⟨ts, rfl, tk⟩ := hb2.1 rfl
          have htl := tk.len
          have nob : (¬ BTree S.length (gsOf ps) Bs ts) → (false = true ↔ BtD S ps (.tup [.tup (fD Bs), .tup (ts.map tieD)])) := fun h => no fun Bs' ts' bt z => by
            obtain ⟨e1, e2⟩ := tree_inj (Bs := Bs) (ts := ts) z
            rw [← e1, ← e2] at bt
            exact h bt
          refine for_ind dP (fun qs env => ∃ (u5 : Sl) (pre : List Part), env = [.ext (dSh S ps), .ext (D.tup [D.tup (fD Bs), D.tup (ts.map tieD)]), .ext (.int (S.length : Nat)), .ext (.tup (fD Bs)), .ext (.tup (ts.map tieD)), u5, .un, .un, .un, .un] ∧ ps = pre ++ qs ∧ ∀ q ∈ pre, ∃ B ∈ Bs, ∀ m ∈ q.ns, m ∈ B) ?_ ?_ ps _ ⟨_, [], rfl, rfl, fun q hq => nomatch hq⟩
          · rintro env ⟨u5, pre, rfl, he, hpre⟩
            rw [List.append_nil] at he
            subst he
            refine ⟨True.intro, ?_⟩
            unfold k7_is_bag_tree
            trivial
            refine ⟨⟨by omega, by omega⟩, ?_⟩
            rw [rgD_nat]
            refine for_ind (fun i : Nat => D.int (i : Nat)) (fun xs env => ∃ (u7 u8 : Sl) (pr : List Nat), env = [.ext (dSh S ps), .ext (D.tup [D.tup (fD Bs), D.tup (ts.map tieD)]), .ext (.int (S.length : Nat)), .ext (.tup (fD Bs)), .ext (.tup (ts.map tieD)), u5, .un, u7, u8, .un] ∧ List.range S.length = pr ++ xs ∧ ∀ x ∈ pr, (∃ i ∈ List.range Bs.length, x ∈ Bs.getD i []) ∧ HangN ts ((List.range Bs.length).filter fun i => decide (x ∈ Bs.getD i []))) ?_ ?_ (List.range S.length) _ ⟨_, _, [], rfl, rfl, fun q hq => nomatch hq⟩
            · rintro env ⟨u7, u8, pr, rfl, he, hpr⟩
              rw [List.append_nil] at he
              refine ⟨True.intro, ?_⟩
              unfold k6_is_bag_tree
              trivial
              refine hQ _ _ ⟨fun _ => ⟨Bs, ts, rfl, ⟨hb12, fun B hB => ⟨(hbs B hB).1, ?_, (hbs B hB).2⟩, tk, fun ns hns => ?_, fun x hx => hpr x (by rw [← he]; exact List.mem_range.2 hx)⟩⟩, fun _ => rfl⟩
              · have := rising_len (hbs B hB).1 (hbs B hB).2
                omega
              · obtain ⟨q, hq, rfl⟩ := List.mem_map.1 hns
                exact hpre q hq
            · rintro x xs env N ⟨u7, u8, pr, rfl, he, hpr⟩ hN
              have hx : x < S.length := List.mem_range.1 (by rw [he]; simp)
              refine ⟨True.intro, ?_⟩
              unfold b5_is_bag_tree
              trivial
              rw [hfl, rgD_nat]
              refine ⟨⟨by omega, by omega⟩, ?_⟩
              refine lc_filter (fun i : Nat => D.int (i : Nat)) (fun i : Nat => D.int (i : Nat)) (fun i => decide (x ∈ Bs.getD i [])) True.intro (List.range Bs.length) (by rw [List.length_range]; exact Nat.le_trans (by omega : _ ≤ 100) (by decide)) (fun i hi R hR => ?_) fun b => ?_
              · have hi := List.mem_range.1 hi
                unfold e4_is_bag_tree
                trivial
                have e1 : (fD Bs)[i]? = some (D.tup (nD (Bs.getD i []))) := by
                  unfold fD
                  rw [List.getElem?_map, List.getD_eq_getElem?_getD, List.getElem?_eq_getElem hi]
                  rfl
                refine ⟨_, atN e1, ?_⟩
                trivial
                rw [isIn_nat]
                refine ⟨rfl, flat_nD _, ?_⟩
                split
                · rename_i h0
                  rw [if_pos h0] at hR
                  exact hR
                · rename_i h0
                  rw [if_neg h0] at hR
                  exact hR
              trivial
              generalize hs : (List.range Bs.length).filter (fun i => decide (x ∈ Bs.getD i [])) = sm
              have hsl : sm.length ≤ 100 := by
                rw [← hs]
                refine Nat.le_trans (List.length_filter_le _ _) ?_
                rw [List.length_range]
                omega
              refine ⟨by decide, cmp_natsL sm, cmp_natsL [], ?_⟩
              cases sm with
              | nil =>
                rw [if_pos (show D.eqv (.lst (([] : List Nat).map fun i : Nat => D.int (i : Nat))) (.lst []) = true from eqv_refl (cmp_natsL []))]
                refine hQ _ _ (nob fun bt => ?_)
                obtain ⟨⟨i, hi, hxi⟩, _⟩ := bt.name x hx
                have : i ∈ ([] : List Nat) := by rw [← hs]; exact List.mem_filter.2 ⟨hi, decide_eq_true hxi⟩
                cases this
              | cons y sm' =>
                rw [if_neg (by rw [show D.eqv (.lst ((y :: sm').map fun i : Nat => D.int (i : Nat))) (.lst []) = false from eqv_nilL y sm']; decide)]
                refine ⟨ts, y :: sm', rfl, by omega, hsl, tk.nd, fun t ht => (tk.lt t ht).1, by rw [← hs]; exact List.nodup_range.filter _, fun b fin hb => ?_⟩
                trivial
                cases b with
                | false =>
                  rw [if_pos (by decide)]
                  refine hQ _ _ (nob fun bt => ?_)
                  have := (bt.name x hx).2
                  rw [hs] at this
                  exact absurd (hb.2 this) (by decide)
                | true =>
                  rw [if_neg (by decide)]
                  refine hN _ ⟨_, _, pr ++ [x], rfl, by rw [List.append_assoc]; exact he, fun z hz => ?_⟩
                  rcases List.mem_append.1 hz with hz | hz
                  · exact hpr z hz
                  · rw [List.mem_singleton.1 hz]
                    refine ⟨?_, by rw [hs]; exact hb.1 rfl⟩
                    have hy : y ∈ (List.range Bs.length).filter fun i => decide (x ∈ Bs.getD i []) := by rw [hs]; exact List.mem_cons_self
                    obtain ⟨a1, a2⟩ := List.mem_filter.1 hy
                    exact ⟨y, a1, of_decide_eq_true a2⟩
          · rintro p qs env N ⟨u5, pre, rfl, he, hpre⟩ hN
            have hp : p ∈ ps := by rw [he]; simp
            have hnl := rising_len (ok.ok p hp).1 (ok.ok p hp).2
            refine ⟨True.intro, ?_⟩
            unfold b3_is_bag_tree
            trivial
            rw [show fD Bs = Bs.map (fun B => D.tup (nD B)) from rfl]
            refine lc_map (fun B : List Nat => D.tup (nD B)) (fun B => .bl (p.ns.all fun m => decide (m ∈ B))) True.intro Bs (Nat.le_trans hb12 (by decide)) (fun C hC R hR => ?_) fun b => ?_
            · unfold e2_is_bag_tree
              trivial
              unfold dP
              trivial
              refine lc_map (fun m : Nat => D.int (m : Nat)) (fun m => .bl (decide (m ∈ C))) True.intro p.ns (Nat.le_trans (by omega : _ ≤ 100) (by decide)) (fun m hm R hR => ?_) fun b => ?_
              · unfold e1_is_bag_tree
                trivial
                rw [isIn_nat]
                refine ⟨rfl, flat_nD _, ?_⟩
                exact hR
              trivial
              refine ⟨p.ns.map fun m => decide (m ∈ C), by rw [List.map_map]; rfl, ?_⟩
              rw [List.all_map]
              exact hR
            trivial
            refine ⟨Bs.map fun C => p.ns.all fun m => decide (m ∈ C), by rw [List.map_map]; rfl, ?_⟩
            cases ea : (Bs.map fun C => p.ns.all fun m => decide (m ∈ C)).any id with
            | false =>
              rw [if_pos (by decide)]
              refine hQ _ _ (nob fun bt => ?_)
              obtain ⟨B, hB, hBm⟩ := bt.part p.ns (List.mem_map.2 ⟨p, hp, rfl⟩)
              rw [List.any_map, List.any_eq_false] at ea
              exact ea B hB (by simpa using hBm)
            | true =>
              rw [if_neg (by decide)]
              rw [List.any_map, List.any_eq_true] at ea
              obtain ⟨B, hB, hBm⟩ := ea
              refine hN _ ⟨_, pre ++ [p], rfl, by rw [List.append_assoc]; exact he, fun z hz => ?_⟩
              rcases List.mem_append.1 hz with hz | hz
              · exact hpre z hz
              · rw [List.mem_singleton.1 hz]
                exact ⟨B, hB, by simpa using hBm⟩
    · rw [if_pos (by simp; omega)]
      refine hQ _ _ (no fun Bs ts _ z => h2 ?_)
      unfold dTree at z
      rw [D.tup.inj z]
      rfl
  | _ =>
    trivial
    simp only [nv, D.isFz, true_and, Bool.not_true, Bool.not_false, if_true]
    exact hQ _ _ (no fun Bs ts _ z => by unfold dTree at z; cases z)
end BT
end LS
namespace LS
open PySem L2 HD PM
theorem bagsN_at {n : Nat} {gs : List (List Nat)} {o : List Nat} {k : Nat} (h : k < o.length) : (fD (bagsN n gs o))[k]? = some (D.tup (nD (bagN n gs (o.take k) (o.getD k 0)))) := by
  unfold fD bagsN
  rw [List.map_map, List.getElem?_map, List.getElem?_range h]
  rfl
theorem rgD_pred (n : Nat) : rgD 0 ((n : Int) - 1) = nD (List.range (n - 1)) := by
  rw [← rgD_nat]
  unfold rgD
  rw [show ((n : Int) - 1 - 0).toNat = ((n - 1 : Nat) : Int).toNat - 0 by omega, show (((n - 1 : Nat) : Int) - 0).toNat = ((n - 1 : Nat) : Int).toNat - 0 by omega]
theorem rgD_later (k n : Nat) : rgD ((k : Int) + 1) (n : Int) = ((List.range (n - (k + 1))).map fun i => k + 1 + i).map fun i : Nat => D.int (i : Nat) := by
  unfold rgD
  rw [List.map_map, show ((n : Int) - ((k : Int) + 1)).toNat = n - (k + 1) by omega]
  refine List.map_congr_left fun i _ => ?_
  show D.int _ = D.int _
  rw [show ((k : Int) + 1 + (i : Nat)) = ((k + 1 + i : Nat) : Int) by omega]
noncomputable def tieAt (n : Nat) (gs : List (List Nat)) (o : List Nat) (k : Nat) : Nat × Nat := (k, upN o (bagN n gs (o.take k) (o.getD k 0)) k)
end LS
namespace LS
open PySem L2 HD PM
theorem erase_map {α β : Type} (f : α → β) : ∀ (l : List α) (i : Nat), (l.map f).eraseIdx i = (l.eraseIdx i).map f
  | [], _ => rfl
  | _ :: _, 0 => rfl
  | x :: l, i + 1 => by
    show f x :: (l.map f).eraseIdx i = f x :: (l.eraseIdx i).map f
    rw [erase_map f l i]
end LS
namespace LS
open PySem L2 HD PM
def at' (ns f : List Nat) : List Nat := ns.map fun n => f.getD n 0
end LS
namespace LS
open PM
section
variable {w : Wd} {S : List Nat} {ps : List Part}
def gathO (S : List Nat) (w : Wd) (p : Part) (o : List Nat) : Part := o.foldl (fun p x => gathP S w p x) p
end
end LS
namespace PM.Tr
open Classical
structure TR (m : Nat) (ts : List (Nat × Nat)) (root : Nat) (up rk : Nat → Nat) : Prop where
  rt : root < m
  hup : ∀ x, x < m → x ≠ root → up x < m ∧ rk (up x) < rk x
  ed : ∀ i j, ((i, j) ∈ ts ∨ (j, i) ∈ ts) ↔ (i < m ∧ i ≠ root ∧ up i = j) ∨ (j < m ∧ j ≠ root ∧ up j = i)
  nd : ts.Nodup
  one : ∀ t ∈ ts, (t.2, t.1) ∉ ts
section
variable {m root : Nat} {ts : List (Nat × Nat)} {up rk : Nat → Nat}
def Ed (m root : Nat) (up : Nat → Nat) (i j : Nat) : Prop := (i < m ∧ i ≠ root ∧ up i = j) ∨ (j < m ∧ j ≠ root ∧ up j = i)
theorem Ed.symm {i j : Nat} (h : Ed m root up i j) : Ed m root up j i := h.elim .inr .inl
theorem TR.ed_lt (h : TR m ts root up rk) {i j : Nat} (e : Ed m root up i j) : i < m ∧ j < m ∧ i ≠ j := by
  rcases e with ⟨h1, h2, rfl⟩ | ⟨h1, h2, rfl⟩
  · have z := h.hup i h1 h2
    exact ⟨h1, z.1, fun q => by rw [← q] at z; omega⟩
  · have z := h.hup j h1 h2
    exact ⟨z.1, h1, fun q => by rw [q] at z; omega⟩
theorem TR.ed_ts (h : TR m ts root up rk) {i j : Nat} : Ed m root up i j ↔ (i, j) ∈ ts ∨ (j, i) ∈ ts := (h.ed i j).symm
theorem TR.near (h : TR m ts root up rk) {i j : Nat} : j ∈ nearN ts i ↔ Ed m root up i j := mem_near.trans h.ed_ts.symm
end
end PM.Tr
namespace LS
open PM PM.Tr Classical
abbrev bg (Bs : List (List Nat)) (k : Nat) : List Nat := Bs.getD k []
structure Rt (N : Nat) (Bs : List (List Nat)) (ts : List (Nat × Nat)) (root : Nat) (up rk : Nat → Nat) : Prop where
  tr : TR Bs.length ts root up rk
  bags : ∀ B ∈ Bs, Rising B ∧ ∀ n ∈ B, n < N
  rip : ∀ n, ∃ top, ∀ b, b < Bs.length → n ∈ bg Bs b → b = top ∨ (b ≠ root ∧ n ∈ bg Bs (up b))
section
variable {N root : Nat} {Bs : List (List Nat)} {ts : List (Nat × Nat)} {up rk : Nat → Nat}
theorem bg_mem {k : Nat} (h : k < Bs.length) : bg Bs k ∈ Bs := by
  show Bs.getD k [] ∈ Bs
  rw [List.getD_eq_getElem?_getD, List.getElem?_eq_getElem h]
  exact List.getElem_mem h
theorem bg_out {k : Nat} (h : ¬ k < Bs.length) : bg Bs k = [] := by
  show Bs.getD k [] = []
  rw [List.getD_eq_getElem?_getD, List.getElem?_eq_none (by omega)]
  rfl
theorem Rt.rise (h : Rt N Bs ts root up rk) (k : Nat) : Rising (bg Bs k) := by
  by_cases c : k < Bs.length
  · exact (h.bags _ (bg_mem c)).1
  · rw [bg_out c]; exact List.Pairwise.nil
theorem Rt.lt (h : Rt N Bs ts root up rk) {k n : Nat} (hn : n ∈ bg Bs k) : n < N := by
  by_cases c : k < Bs.length
  · exact (h.bags _ (bg_mem c)).2 n hn
  · rw [bg_out c] at hn; cases hn
end
section
variable {w : Wd} {S : List Nat} {Bs : List (List Nat)} {ts : List (Nat × Nat)} {root : Nat} {up rk : Nat → Nat} {ps : List Part} {ly : Part → Nat} {nr : Nat → List Nat}
def leftP (w : Wd) (S : List Nat) (p : Part) (B : List Nat) : Part := gathO S w p (p.ns.filter fun n => !decide (n ∈ B))
structure Laid (S : List Nat) (Bs : List (List Nat)) (ps : List Part) (ly : Part → Nat) (nr : Nat → List Nat) (root : Nat) (up : Nat → Nat) : Prop where
  pos : ∀ n, n < S.length → 0 < sz S n
  ok : ∀ p ∈ ps, p.Ok S
  lay : ∀ p ∈ ps, ly p < Bs.length ∧ ∀ n ∈ p.ns, n ∈ bg Bs (ly p)
  nrs : ∀ i k, k ∈ nr i ↔ Ed Bs.length root up k i
  nrd : ∀ i, (nr i).Nodup
end
end LS
namespace LS
open PySem L2 HD PM
local macro_rules | `(tactic| trivial) => `(tactic| try simp -dsimp only [↓sIf, ↓sRet, ↓retD_ext, ↓retD_lst, ↓retD_al, ↓sSet, ↓sSetE, ↓sAsg, ↓sDrop, ↓sNext, ↓sFor, ↓sRetN, ↓sCont, ↓sBreak, ↓dTest, ↓dOp, ↓dVar_w, ↓dC, ↓dCons, ↓dNil, ↓dTup, ↓dLst, ↓frzDs, ↓frzD_ext, ↓frzD_lst, ↓frzD_al, ↓wd_ext, ↓wd_lst, ↓wd_al, ↓wds, ↓AtS_ext, ↓AtS_lst, ↓AtL, ↓fAdd, ↓fSub, ↓fMul, ↓fDiv, ↓fMod, ↓fPow, ↓fCmp, ↓fIn, ↓fEq_ii, ↓fEq_ss, ↓fEq_bb, ↓fEq_tt, ↓fEq_ll, ↓fNe_ii, ↓fNe_ss, ↓fNe_bb, ↓fNe_tt, ↓fNe_ll, ↓fIx_l, ↓fIx_t, ↓fIx_k, ↓fIx_f, ↓GetS_some, ↓NatS_some, ↓fSl, ↓fIsN, ↓fNotN, ↓D.knN, ↓dNot, ↓dAnd, ↓dOr, ↓dAndV_w, ↓dOrV_w, ↓dNotV, ↓dIf, ↓dNeg, ↓dChain_w, ↓BlS_bl, ↓dCall_w, ↓dCallJ_w, ↓anyAl, ↓frozs, ↓froz, ↓gSet, ↓gTupD, ↓gsCons, ↓gsNil, ↓dSeq, ↓seqD_tup, ↓seqD_elst, ↓seqD_lst, ↓seqD_al, ↓dRange1, ↓dRange2, ↓dZip, ↓dCB, ↓dLc, ↓dYes, ↓dNoPart, ↓dPart, ↓dSl, ↓fLen, ↓fMin, ↓fMax, ↓fSum, ↓fAll, ↓fAny, ↓fSorted, ↓fTuple, ↓fList, ↓dRg1, ↓dRg2, ↓dLstRg, ↓dTupRg, ↓dIndex, ↓fIdx, ↓dAppend_w, ↓dExtend_w, ↓extD_lst, ↓dPopAt_w, ↓popD_int, ↓dPop_w, ↓mutD_w, ↓sSetItem_w, ↓setD_int, ↓dSortSet, ↓dTable_w, ↓wipeE, finals1, finals2, finals3, finals4, finals5, finals6, fin1_ext, fin1_lst, List.getElem?_cons_zero, List.getElem?_cons_succ, List.getElem?_nil, List.set_cons_zero, List.set_cons_succ, List.cons_append, List.nil_append, List.append_nil, List.replicate_succ, List.replicate_zero, List.map_cons, List.map_nil, List.length_cons, List.length_nil, true_and, and_true, ite_true, ite_false, if_true, if_false, Bool.false_eq_true, decide_eq_true_eq, Sl.plain, D.isSq, eq_self_iff_true, forall_const, reduceIte, true_or, or_true, atI_0, atI_1, atI_2, atI_3, ixN_0, ixN_1, ixN_2, AtS_ext, AtS_lst, FzS_lst, FzS_ext, GetS_some, NatS_some, ↓fIsi1, ↓fIsi2, BoolS_some, HD.kb_non_tuple, HD.kb_non_list, HD.kb_non_bool, HD.kb_non_int, HD.kb_non_str, HD.kb_bl_tuple, HD.kb_bl_list, HD.kb_bl_bool, HD.kb_bl_int, HD.kb_bl_str, HD.kb_int_tuple, HD.kb_int_list, HD.kb_int_bool, HD.kb_int_int, HD.kb_int_str, HD.kb_str_tuple, HD.kb_str_list, HD.kb_str_bool, HD.kb_str_int, HD.kb_str_str, HD.kb_lst_tuple, HD.kb_lst_list, HD.kb_lst_bool, HD.kb_lst_int, HD.kb_lst_str, HD.kb_tup_tuple, HD.kb_tup_list, HD.kb_tup_bool, HD.kb_tup_int, HD.kb_tup_str, ↓sFz_w, ↓FzS_lst, ↓FzS_ext, ↓dSortSetL, ↓fAbs, ↓fInt, ↓fRepr, ↓fLtT, ↓sRaise, ↓sTryKeep, ↓dCallV_w, ↓dMeth, ↓fCount, ↓fSplit, ↓seq_setE, ↓seq_set, ↓seq_drop, ↓seq_asg, ↓seq_if, ↓seq_for, ↓dStep, ↓fStep, ↓fMulT, ↓fIsB, ↓fNotB, ↓sPar, ↓dEnum, ↓dListZip, ↓dNest, ↓sSeal, ↓dNApp, ↓retD_reg, ↓dLenSet, ↓fSum2, ↓seq_putD, ↓seq_sealD, ↓dDIn, ↓dDGet, ↓sPutD, ↓dDNew, ↓dDOne, ↓sSealD, ↓dKeys, ↓keyS_dk, ↓dExtT, ↓fSortT, ↓fMinP, ↓dRemove, ↓dDInT, ↓dDGetT, ↓sPutDT, ↓dDNewT, ↓sSealDT, ↓dKeysT, ↓keyST_dt, ↓fSortK, ↓seq_putDT, ↓seq_sealDT, ↓dVarR_w, ↓dAttr, ↓dAppR, ↓dExtR_w, ↓dExtTR_w, ↓dClrR, ↓dPopR_w, ↓dIxR_w, ↓dDGetR, ↓dDInR, ↓dGet2R, ↓dPop1R, ↓dPop2R, ↓dDGetTR, ↓dDInTR, ↓dPop1TR, ↓dCallM, ↓dMethO, ↓dMake, ↓dMoveR, ↓dPtr, ↓sAttr, ↓sSetR, ↓sPutR, ↓sPutTR, ↓sSetA_w, ↓sSetG_w, ↓seq_setG, ↓seq_setA, ↓seq_attr, ↓seq_setR, ↓seq_putR, ↓seq_putTR, ↓RegS_reg, ↓CellS_some, ↓RefS_reg, ↓RefS_ar, ↓cellS_ar, ↓wd_ar, ↓seqD_ar, ↓lstO_lst, ↓insO_ins, ↓dkO_dk, ↓dkO_lk, ↓dtO_dt, ↓dtO_lk, ↓dkW_dk, ↓dtW_dt, ↓stoS_ext, ↓stoS_reg, ↓stoS_lstT, ↓stoS_lstF, ↓stoS_al, ↓ptrD_ref, ↓ptrD_int, ↓ptrD_str, ↓ptrD_bl, ↓ptrD_non, ↓ptrD_tup, ↓ptrD_tk, ↓ptrD_lst, ↓ptrD_fz, ↓setGS_lst, ↓setGS_reg, ↓setAS_ar, ↓setAS_ext, ↓intS_int, ↓tupS_tup, ↓lstS_lst, ↓lstK, ↓dkK, ↓dtK, ↓retD_reg, ↓dSortSetB])
local macro_rules | `(tactic| and_intros) => `(tactic| try simp -dsimp only [↓sIf, ↓sRet, ↓retD_ext, ↓retD_lst, ↓retD_al, ↓sSet, ↓sSetE, ↓sAsg, ↓sDrop, ↓sNext, ↓sFor, ↓sRetN, ↓sCont, ↓sBreak, ↓dTest, ↓dOp, ↓dC, ↓dCons, ↓dNil, ↓dTup, ↓dLst, ↓frzDs, ↓frzD_ext, ↓frzD_lst, ↓frzD_al, ↓wd_ext, ↓wd_lst, ↓wd_al, ↓wds, ↓AtS_ext, ↓AtS_lst, ↓AtL, ↓fAdd, ↓fSub, ↓fMul, ↓fDiv, ↓fMod, ↓fPow, ↓fCmp, ↓fIn, ↓fEq_ii, ↓fEq_ss, ↓fEq_bb, ↓fEq_tt, ↓fEq_ll, ↓fNe_ii, ↓fNe_ss, ↓fNe_bb, ↓fNe_tt, ↓fNe_ll, ↓fIx_l, ↓fIx_t, ↓fIx_k, ↓fIx_f, ↓GetS_some, ↓NatS_some, ↓fSl, ↓fIsN, ↓fNotN, ↓D.knN, ↓dNot, ↓dAnd, ↓dOr, ↓dAndV_w, ↓dOrV_w, ↓dNotV, ↓dIf, ↓dNeg, ↓dChain_w, ↓BlS_bl, ↓dCall_w, ↓dCallJ_w, ↓anyAl, ↓frozs, ↓froz, ↓gSet, ↓gTupD, ↓gsCons, ↓gsNil, ↓dSeq, ↓seqD_tup, ↓seqD_elst, ↓seqD_lst, ↓seqD_al, ↓dRange1, ↓dRange2, ↓dZip, ↓dCB, ↓dLc, ↓dYes, ↓dNoPart, ↓dPart, ↓dSl, ↓fLen, ↓fMin, ↓fMax, ↓fSum, ↓fAll, ↓fAny, ↓fSorted, ↓fTuple, ↓fList, ↓dRg1, ↓dRg2, ↓dLstRg, ↓dTupRg, ↓dIndex, ↓fIdx, ↓dAppend_w, ↓dExtend_w, ↓extD_lst, ↓dPopAt_w, ↓popD_int, ↓dPop_w, ↓mutD_w, ↓sSetItem_w, ↓setD_int, ↓dSortSet, ↓dTable_w, ↓wipeE, finals1, finals2, finals3, finals4, finals5, finals6, fin1_ext, fin1_lst, List.getElem?_cons_zero, List.getElem?_cons_succ, List.getElem?_nil, List.set_cons_zero, List.set_cons_succ, List.cons_append, List.nil_append, List.append_nil, List.replicate_succ, List.replicate_zero, List.map_cons, List.map_nil, List.length_cons, List.length_nil, true_and, and_true, ite_true, ite_false, if_true, if_false, Bool.false_eq_true, decide_eq_true_eq, Sl.plain, D.isSq, eq_self_iff_true, forall_const, reduceIte, true_or, or_true, atI_0, atI_1, atI_2, atI_3, ixN_0, ixN_1, ixN_2, AtS_ext, AtS_lst, FzS_lst, FzS_ext, GetS_some, NatS_some, ↓fIsi1, ↓fIsi2, BoolS_some, HD.kb_non_tuple, HD.kb_non_list, HD.kb_non_bool, HD.kb_non_int, HD.kb_non_str, HD.kb_bl_tuple, HD.kb_bl_list, HD.kb_bl_bool, HD.kb_bl_int, HD.kb_bl_str, HD.kb_int_tuple, HD.kb_int_list, HD.kb_int_bool, HD.kb_int_int, HD.kb_int_str, HD.kb_str_tuple, HD.kb_str_list, HD.kb_str_bool, HD.kb_str_int, HD.kb_str_str, HD.kb_lst_tuple, HD.kb_lst_list, HD.kb_lst_bool, HD.kb_lst_int, HD.kb_lst_str, HD.kb_tup_tuple, HD.kb_tup_list, HD.kb_tup_bool, HD.kb_tup_int, HD.kb_tup_str, ↓sFz_w, ↓FzS_lst, ↓FzS_ext, ↓dSortSetL, ↓fAbs, ↓fInt, ↓fRepr, ↓fLtT, ↓sRaise, ↓sTryKeep, ↓dCallV_w, ↓dMeth, ↓fCount, ↓fSplit, ↓seq_setE, ↓seq_set, ↓seq_drop, ↓seq_asg, ↓seq_if, ↓seq_for, ↓dStep, ↓fStep, ↓fMulT, ↓fIsB, ↓fNotB, ↓sPar, ↓dEnum, ↓dListZip, ↓dNest, ↓sSeal, ↓dNApp, ↓retD_reg, ↓dLenSet, ↓fSum2, ↓seq_putD, ↓seq_sealD, ↓dDIn, ↓dDGet, ↓sPutD, ↓dDNew, ↓dDOne, ↓sSealD, ↓dKeys, ↓keyS_dk, ↓dExtT, ↓fSortT, ↓fMinP, ↓dRemove, ↓dDInT, ↓dDGetT, ↓sPutDT, ↓dDNewT, ↓sSealDT, ↓dKeysT, ↓keyST_dt, ↓fSortK, ↓seq_putDT, ↓seq_sealDT, ↓dVarR_w, ↓dAttr, ↓dAppR, ↓dExtR_w, ↓dExtTR_w, ↓dClrR, ↓dPopR_w, ↓dIxR_w, ↓dDGetR, ↓dDInR, ↓dGet2R, ↓dPop1R, ↓dPop2R, ↓dDGetTR, ↓dDInTR, ↓dPop1TR, ↓dCallM, ↓dMethO, ↓dMake, ↓dMoveR, ↓dPtr, ↓sAttr, ↓sSetR, ↓sPutR, ↓sPutTR, ↓sSetA_w, ↓sSetG_w, ↓seq_setG, ↓seq_setA, ↓seq_attr, ↓seq_setR, ↓seq_putR, ↓seq_putTR, ↓RegS_reg, ↓CellS_some, ↓RefS_reg, ↓RefS_ar, ↓cellS_ar, ↓wd_ar, ↓seqD_ar, ↓lstO_lst, ↓insO_ins, ↓dkO_dk, ↓dkO_lk, ↓dtO_dt, ↓dtO_lk, ↓dkW_dk, ↓dtW_dt, ↓stoS_ext, ↓stoS_reg, ↓stoS_lstT, ↓stoS_lstF, ↓stoS_al, ↓ptrD_ref, ↓ptrD_int, ↓ptrD_str, ↓ptrD_bl, ↓ptrD_non, ↓ptrD_tup, ↓ptrD_tk, ↓ptrD_lst, ↓ptrD_fz, ↓setGS_lst, ↓setGS_reg, ↓setAS_ar, ↓setAS_ext, ↓intS_int, ↓tupS_tup, ↓lstS_lst, ↓lstK, ↓dkK, ↓dtK, ↓retD_reg, ↓dSortSetB, ↓dv0, ↓dw0, ↓dv1, ↓dw1, ↓dv2, ↓dw2, ↓dv3, ↓dw3, ↓dv4, ↓dw4, ↓dv5, ↓dw5, ↓dv6, ↓dw6, ↓dv7, ↓dw7, ↓dv8, ↓dw8, ↓dv9, ↓dw9, ↓dv10, ↓dw10, ↓dv11, ↓dw11, ↓dv12, ↓dw12, ↓dv13, ↓dw13, ↓dv14, ↓dw14, ↓dv15, ↓dw15, ↓dv16, ↓dw16, ↓dv17, ↓dw17, ↓dv18, ↓dw18, ↓dv19, ↓dw19])
def sp_law_gorder : DSpec := fun args Q _ => ∃ (n : Nat) (a : Addr) (ds : List D) (many : Nat), args = [.lst a ds, dI (many : Nat)] ∧ JarOk n ds ∧ n + 64 < 4294967296 ∧ many ≤ 60 ∧
  ∀ (o : List Nat) b ds' fin, o.Perm (List.range many) → JarOk (n + 64) ds' → Q (.lst b (nD o)) (.lst a ds' :: fin)
def e1_law_gorder : DT :=
    (dPopAt 2 (dCallJ sp_law_gdraw 0 (dCons (dCB fLen (dCons (dVar 2) dNil)) dNil)))
def t_law_gorder : DTS :=
    (sSeq (sSet 2 (dLstRg (dRg1 (dVar 1))))
    (sRet (dLc (dRange1 (dCons (dVar 1) dNil)) (gSet 3) dYes e1_law_gorder [3])))
theorem m_law_gorder : Meets t_law_gorder 2 2 sp_law_gorder := by
  rintro args Qd Xd ⟨n, a, ds, many, rfl, hj, hn, hm, hQ⟩
  show t_law_gorder _ _ [_, _, .un, .un]
  unfold t_law_gorder
  and_intros
  refine ⟨⟨by omega, by omega⟩, fun a2 => ⟨⟨by omega, by omega⟩, ?_⟩⟩
  rw [rgD_nat]
  refine lc_ind (fun k : Nat => D.int (k : Int)) (fun xs acc env => ∃ (m : Nat) (ds : List D) (o l : List Nat), env = [.lst a ds, dI (many : Nat), .lst a2 (nD l), .un] ∧ acc = nD o ∧ JarOk m ds ∧ m + xs.length ≤ n + 64 ∧ l.length = xs.length ∧ (o ++ l).Perm (List.range many)) ?_ ?_ (List.range many) [] _
    ⟨n, ds, [], List.range many, rfl, rfl, hj, by rw [List.length_range]; omega, rfl, List.Perm.refl _⟩
  · rintro acc env ⟨m, ds4, o, l, rfl, rfl, hj4, hm4, hl4, hp⟩
    have e : l = [] := List.length_eq_zero_iff.1 hl4
    subst e
    refine ⟨True.intro, fun b => ?_⟩
    rw [List.append_nil] at hp
    trivial
    exact hQ _ _ _ _ hp (hj4.up (by simpa using hm4))
  · rintro k xs acc env N ⟨m, ds4, o, l, rfl, rfl, hj4, hm4, hl4, hp⟩ hN
    rw [List.length_cons] at hm4 hl4
    have hol := hp.length_eq
    rw [List.length_append, List.length_range] at hol
    refine ⟨True.intro, by rw [nD_len]; exact Nat.lt_of_le_of_lt (by omega : o.length ≤ 100) (by decide), ?_⟩
    unfold e1_law_gorder
    trivial
    rw [nD_len]
    refine ⟨m, a, ds4, _, rfl, hj4, by omega, gdok (by omega) (by omega), fun r ds5 fin r0 r1 hj5 => ?_⟩
    trivial
    obtain ⟨i, rfl⟩ := Int.eq_ofNat_of_zero_le r0
    have hi : i < l.length := by omega
    refine ⟨r0, by omega, _, (by rw [Int.toNat_natCast, List.getElem?_map, List.getElem?_eq_getElem hi]; rfl : (nD l)[((i : Nat) : Int).toNat]? = some (.int ((l[i] : Nat) : Int))), ?_⟩
    trivial
    have e1 : (nD l).eraseIdx ((i : Nat) : Int).toNat = nD (l.eraseIdx i) := by
      rw [Int.toNat_natCast]
      exact erase_map _ l i
    refine hN _ _ ⟨m + 1, ds5, o ++ [l[i]], l.eraseIdx i, by rw [e1], by rw [nD_app]; rfl, hj5, by omega, by rw [List.length_eraseIdx_of_lt hi]; omega, ?_⟩
    rw [List.append_assoc]
    refine (List.Perm.append_left o ?_).trans hp
    show (l[i] :: l.eraseIdx i).Perm l
    exact erase_perm l hi
structure NearM (n : Nat) (gs : List (List Nat)) (T : List Nat) (M : List (List Nat)) : Prop where
  len : M.length = n
  lt : ∀ l ∈ M, ∀ z ∈ l, z < n
  mem : ∀ x, x < n → x ∉ T → ∀ z, z ∉ T → (z ∈ M.getD x [] ↔ z ∈ bagN n gs T x)
def addB (M : List (List Nat)) (B : List Nat) : List Nat → List (List Nat)
  | [] => M
  | o :: r => addB (M.set o (M.getD o [] ++ B)) B r
theorem addB_len (B : List Nat) : ∀ (r : List Nat) (M : List (List Nat)), (addB M B r).length = M.length
  | [], _ => rfl
  | o :: r, M => by
    show (addB _ B r).length = _
    rw [addB_len B r, List.length_set]
theorem getD_set (M : List (List Nat)) (i j : Nat) (v : List Nat) : (M.set i v).getD j [] = if i = j ∧ i < M.length then v else M.getD j [] := by
  rw [List.getD_eq_getElem?_getD, List.getD_eq_getElem?_getD, List.getElem?_set]
  by_cases e : i = j
  · subst e
    by_cases h : i < M.length
    · rw [if_pos rfl, if_pos h, if_pos ⟨rfl, h⟩]; rfl
    · rw [if_pos rfl, if_neg h, if_neg fun z => h z.2, List.getElem?_eq_none (by omega)]
  · rw [if_neg e, if_neg fun z => e z.1]
theorem addB_mem (B : List Nat) : ∀ (r : List Nat) (M : List (List Nat)) (x z : Nat), (∀ o ∈ r, o < M.length) → (z ∈ (addB M B r).getD x [] ↔ z ∈ M.getD x [] ∨ (x ∈ r ∧ z ∈ B))
  | [], M, x, z, _ => ⟨.inl, fun h => h.elim id fun q => nomatch q.1⟩
  | o :: r, M, x, z, h => by
    show z ∈ (addB (M.set o (M.getD o [] ++ B)) B r).getD x [] ↔ _
    rw [addB_mem B r _ x z (fun q hq => by rw [List.length_set]; exact h q (List.mem_cons_of_mem _ hq)), getD_set, List.mem_cons]
    by_cases e : o = x
    · subst e
      rw [if_pos ⟨rfl, h o List.mem_cons_self⟩, List.mem_append]
      constructor
      · rintro ((a | a) | ⟨a, b⟩)
        · exact .inl a
        · exact .inr ⟨.inl rfl, a⟩
        · exact .inr ⟨.inr a, b⟩
      · rintro (a | ⟨_, b⟩)
        · exact .inl (.inl a)
        · exact .inl (.inr b)
    · rw [if_neg fun z => e z.1]
      constructor
      · rintro (a | ⟨a, b⟩)
        · exact .inl a
        · exact .inr ⟨.inr a, b⟩
      · rintro (a | ⟨a | a, b⟩)
        · exact .inl a
        · exact absurd a.symm e
        · exact .inr ⟨a, b⟩
theorem addB_snoc (M : List (List Nat)) (B : List Nat) (y : Nat) : ∀ (r : List Nat), addB M B (r ++ [y]) = (addB M B r).set y ((addB M B r).getD y [] ++ B)
  | [] => rfl
  | o :: r => by
    show addB (M.set o (M.getD o [] ++ B)) B (r ++ [y]) = _
    rw [addB_snoc _ B y r]
    rfl
theorem cut_tk (xs : List D) (n : Nat) (h : n ≤ xs.length) : cutD xs none (some (n : Int)) = xs.take n := by
  unfold cutD
  rw [HT.sIx_none, HT.sIx_nat, List.drop_zero, Nat.sub_zero, Nat.min_eq_left h]
theorem NearM.step {n : Nat} {gs : List (List Nat)} {T T' : List Nat} {M : List (List Nat)} {y : Nat} (h : NearM n gs T M) (hT : ∀ t, t ∈ T' ↔ t = y ∨ t ∈ T) (hy : y < n) (hyT : y ∉ T) : NearM n gs T' (addB M (bagN n gs T y) (bagN n gs T y)) := by
  have bl : ∀ o ∈ bagN n gs T y, o < n := fun o ho => (mem_bag.1 ho).1
  have bl' : ∀ o ∈ bagN n gs T y, o < M.length := fun o ho => by rw [h.len]; exact bl o ho
  have memM : ∀ x z, z ∈ M.getD x [] → z < n := fun x z hz => by
    by_cases c : x < M.length
    · rw [List.getD_eq_getElem?_getD, List.getElem?_eq_getElem c] at hz
      exact h.lt _ (List.getElem_mem c) z hz
    · rw [List.getD_eq_getElem?_getD, List.getElem?_eq_none (by omega)] at hz
      cases hz
  refine ⟨by rw [addB_len, h.len], fun l hl z hz => ?_, fun x hx hxT z hzT => ?_⟩
  · obtain ⟨x, hx⟩ := List.mem_iff_getElem?.1 hl
    have e : (addB M (bagN n gs T y) (bagN n gs T y)).getD x [] = l := by rw [List.getD_eq_getElem?_getD, hx]; rfl
    rw [← e, addB_mem _ _ _ _ _ bl'] at hz
    exact hz.elim (memM x z) fun q => bl z q.2
  · have x1 : x ≠ y := fun e => hxT ((hT x).2 (.inl e))
    have x2 : x ∉ T := fun e => hxT ((hT x).2 (.inr e))
    have z1 : z ≠ y := fun e => hzT ((hT z).2 (.inl e))
    have z2 : z ∉ T := fun e => hzT ((hT z).2 (.inr e))
    rw [addB_mem _ _ _ _ _ bl', h.mem x hx x2 z z2]
    by_cases c : y ∈ bagN n gs T x
    · rw [bag_in hT hx hy x2 hyT (Ne.symm x1) c, bag_symm hy hx hyT x2]
      constructor
      · rintro (a | ⟨_, b⟩)
        · exact ⟨z1, .inl a⟩
        · exact ⟨z1, .inr b⟩
      · rintro ⟨_, a | b⟩
        · exact .inl a
        · exact .inr ⟨c, b⟩
    · rw [bag_out hT hx hy hyT (Ne.symm x1) c]
      constructor
      · rintro (a | ⟨a, _⟩)
        · exact a
        · exact absurd ((bag_symm hy hx hyT x2).1 a) c
      · exact .inl
end LS
namespace HD
open PySem L2
section
variable {K : PySem.W.Frag}
theorem cellOf_of {cs : Cells} {b : Addr} {oc : OC} (nd : (cs.map (·.1)).Nodup) (h : (b, oc) ∈ cs) : cellOf cs b = some oc := by
  induction cs with
  | nil => cases h
  | cons p r ih =>
    obtain ⟨n1, n2⟩ := List.nodup_cons.1 nd
    show (if p.1 = b then some p.2 else cellOf r b) = _
    rcases List.mem_cons.1 h with rfl | h
    · exact if_pos rfl
    · rw [if_neg fun z : p.1 = b => n1 (z ▸ List.mem_map.2 ⟨_, h, rfl⟩ : p.1 ∈ r.map (·.1))]
      exact ih n2 h
theorem cellS_i {o : Option OC} {oc : OC} {k : OC → Prop} {t : Tok k} (e : o = some oc) (h : k oc) : CellS o k t := by
  subst e
  exact h
theorem nest_keys (a : Addr) (xs : List (Addr × List D)) : (nestC a xs).map (·.1) = a :: xs.map (·.1) := by
  unfold nestC
  rw [List.map_cons, List.map_map]
  rfl
theorem nest_top (a : Addr) (xs : List (Addr × List D)) : cellOf (nestC a xs) a = some (.lst (xs.map fun p => .val (.ref p.1))) := if_pos rfl
theorem nest_at {a : Addr} {xs : List (Addr × List D)} {p : Addr × List D} (nd : (a :: xs.map (·.1)).Nodup) (h : p ∈ xs) : cellOf (nestC a xs) p.1 = some (.lst p.2) :=
  cellOf_of (by rw [nest_keys]; exact nd) (List.mem_cons_of_mem _ (List.mem_map.2 ⟨p, h, rfl⟩))
theorem nest_put {a : Addr} {xs : List (Addr × List D)} {j : Nat} {b : Addr} {ds ds' : List D} (nd : (a :: xs.map (·.1)).Nodup) (h : xs[j]? = some (b, ds)) : putC (nestC a xs) b (.lst ds') = nestC a (xs.set j (b, ds')) := by
  obtain ⟨n1, n2⟩ := List.nodup_cons.1 nd
  obtain ⟨hj, e⟩ := List.getElem?_eq_some_iff.1 h
  have hb : b ∈ xs.map (·.1) := List.mem_map.2 ⟨_, List.mem_of_getElem? h, rfl⟩
  unfold nestC putC
  rw [List.map_cons]
  have ne : a ≠ b := fun z => n1 (z ▸ hb)
  rw [if_neg ne]
  have keys : (xs.set j (b, ds')).map (fun p => D.val (.ref p.1)) = xs.map fun p => D.val (.ref p.1) := by
    rw [List.map_set]
    refine List.ext_getElem? fun i => ?_
    rw [List.getElem?_set]
    split
    · rename_i q
      subst q
      rw [if_pos (by rw [List.length_map]; exact hj), List.getElem?_map, h]
      rfl
    · rfl
  rw [keys]
  congr 1
  rw [List.map_map, List.map_set]
  refine List.ext_getElem? fun i => ?_
  rw [List.getElem?_map, List.getElem?_set]
  cases hi : xs[i]? with
  | none =>
    have : ¬ i < xs.length := fun z => by rw [List.getElem?_eq_getElem z] at hi; cases hi
    rw [Option.map_none]
    by_cases q : j = i
    · rw [if_pos q, if_neg (by rw [List.length_map]; omega)]
    · rw [if_neg q, List.getElem?_map, hi]; rfl
  | some p =>
    rw [Option.map_some]
    by_cases q : j = i
    · subst q
      rw [h] at hi
      cases hi
      rw [if_pos rfl, if_pos (by rw [List.length_map]; exact hj)]
      show some (if b = b then _ else _) = _
      rw [if_pos rfl]
    · rw [if_neg q, List.getElem?_map, hi]
      show some (if p.1 = b then _ else _) = some _
      have : p.1 ≠ b := fun z => q (by
        have h1 : (xs.map (·.1))[j]? = some b := by rw [List.getElem?_map, h]; rfl
        have h2 : (xs.map (·.1))[i]? = some b := by rw [List.getElem?_map, hi, ← z]; rfl
        exact nodup_ix n2 h1 h2)
      rw [if_neg this]
theorem nest_new {a p : Addr} {xs : List (Addr × List D)} {ds : List D} (nd : (a :: xs.map (·.1)).Nodup) : putC (nestC a xs) a (.lst (xs.map (fun p => D.val (.ref p.1)) ++ [.val (.ref p)])) ++ [(p, .lst ds)] = nestC a (xs ++ [(p, ds)]) := by
  obtain ⟨n1, n2⟩ := List.nodup_cons.1 nd
  have e : nestC a xs = (a, .lst (xs.map fun p => D.val (.ref p.1))) :: xs.map fun p => (p.1, .lst p.2) := rfl
  rw [e]
  unfold putC
  rw [List.map_cons, if_pos rfl]
  have e2 : (xs.map fun p => (p.1, OC.lst p.2)).map (fun q => if q.1 = a then (a, OC.lst (xs.map (fun p => D.val (.ref p.1)) ++ [.val (.ref p)])) else q) = xs.map fun p => (p.1, OC.lst p.2) := by
    rw [List.map_map]
    refine List.map_congr_left fun q hq => ?_
    exact if_neg fun z : q.1 = a => n1 (z ▸ List.mem_map.2 ⟨q, hq, rfl⟩)
  rw [e2]
  unfold nestC
  rw [List.map_append, List.map_append]
  rfl
end
end HD
namespace LS
open PySem L2 HD PM
local macro_rules | `(tactic| trivial) => `(tactic| try simp -dsimp only [↓sIf, ↓sRet, ↓retD_ext, ↓retD_lst, ↓retD_al, ↓sSet, ↓sSetE, ↓sAsg, ↓sDrop, ↓sNext, ↓sFor, ↓sRetN, ↓sCont, ↓sBreak, ↓dTest, ↓dOp, ↓dVar_w, ↓dC, ↓dCons, ↓dNil, ↓dTup, ↓dLst, ↓frzDs, ↓frzD_ext, ↓frzD_lst, ↓frzD_al, ↓wd_ext, ↓wd_lst, ↓wd_al, ↓wds, ↓AtS_ext, ↓AtS_lst, ↓AtL, ↓fAdd, ↓fSub, ↓fMul, ↓fDiv, ↓fMod, ↓fPow, ↓fCmp, ↓fIn, ↓fEq_ii, ↓fEq_ss, ↓fEq_bb, ↓fEq_tt, ↓fEq_ll, ↓fNe_ii, ↓fNe_ss, ↓fNe_bb, ↓fNe_tt, ↓fNe_ll, ↓fIx_l, ↓fIx_t, ↓fIx_k, ↓fIx_f, ↓GetS_some, ↓NatS_some, ↓fSl, ↓fIsN, ↓fNotN, ↓D.knN, ↓dNot, ↓dAnd, ↓dOr, ↓dAndV_w, ↓dOrV_w, ↓dNotV, ↓dIf, ↓dNeg, ↓dChain_w, ↓BlS_bl, ↓dCall_w, ↓dCallJ_w, ↓anyAl, ↓frozs, ↓froz, ↓gSet, ↓gTupD, ↓gsCons, ↓gsNil, ↓dSeq, ↓seqD_tup, ↓seqD_elst, ↓seqD_lst, ↓seqD_al, ↓dRange1, ↓dRange2, ↓dZip, ↓dCB, ↓dLc, ↓dYes, ↓dNoPart, ↓dPart, ↓dSl, ↓fLen, ↓fMin, ↓fMax, ↓fSum, ↓fAll, ↓fAny, ↓fSorted, ↓fTuple, ↓fList, ↓dRg1, ↓dRg2, ↓dLstRg, ↓dTupRg, ↓dIndex, ↓fIdx, ↓dAppend_w, ↓dExtend_w, ↓extD_lst, ↓dPopAt_w, ↓popD_int, ↓dPop_w, ↓mutD_w, ↓sSetItem_w, ↓setD_int, ↓dSortSet, ↓dTable_w, ↓wipeE, finals1, finals2, finals3, finals4, finals5, finals6, fin1_ext, fin1_lst, List.getElem?_cons_zero, List.getElem?_cons_succ, List.getElem?_nil, List.set_cons_zero, List.set_cons_succ, List.cons_append, List.nil_append, List.append_nil, List.replicate_succ, List.replicate_zero, List.map_cons, List.map_nil, List.length_cons, List.length_nil, true_and, and_true, ite_true, ite_false, if_true, if_false, Bool.false_eq_true, decide_eq_true_eq, Sl.plain, D.isSq, eq_self_iff_true, forall_const, reduceIte, true_or, or_true, atI_0, atI_1, atI_2, atI_3, ixN_0, ixN_1, ixN_2, AtS_ext, AtS_lst, FzS_lst, FzS_ext, GetS_some, NatS_some, ↓fIsi1, ↓fIsi2, BoolS_some, HD.kb_non_tuple, HD.kb_non_list, HD.kb_non_bool, HD.kb_non_int, HD.kb_non_str, HD.kb_bl_tuple, HD.kb_bl_list, HD.kb_bl_bool, HD.kb_bl_int, HD.kb_bl_str, HD.kb_int_tuple, HD.kb_int_list, HD.kb_int_bool, HD.kb_int_int, HD.kb_int_str, HD.kb_str_tuple, HD.kb_str_list, HD.kb_str_bool, HD.kb_str_int, HD.kb_str_str, HD.kb_lst_tuple, HD.kb_lst_list, HD.kb_lst_bool, HD.kb_lst_int, HD.kb_lst_str, HD.kb_tup_tuple, HD.kb_tup_list, HD.kb_tup_bool, HD.kb_tup_int, HD.kb_tup_str, ↓sFz_w, ↓FzS_lst, ↓FzS_ext, ↓dSortSetL, ↓fAbs, ↓fInt, ↓fRepr, ↓fLtT, ↓sRaise, ↓sTryKeep, ↓dCallV_w, ↓dMeth, ↓fCount, ↓fSplit, ↓seq_setE, ↓seq_set, ↓seq_drop, ↓seq_asg, ↓seq_if, ↓seq_for, ↓dStep, ↓fStep, ↓fMulT, ↓fIsB, ↓fNotB, ↓sPar, ↓dEnum, ↓dListZip, ↓dNest, ↓sSeal, ↓dNApp, ↓retD_reg, ↓dLenSet, ↓fSum2, ↓seq_putD, ↓seq_sealD, ↓dDIn, ↓dDGet, ↓sPutD, ↓dDNew, ↓dDOne, ↓sSealD, ↓dKeys, ↓keyS_dk, ↓dExtT, ↓fSortT, ↓fMinP, ↓dRemove, ↓dDInT, ↓dDGetT, ↓sPutDT, ↓dDNewT, ↓sSealDT, ↓dKeysT, ↓keyST_dt, ↓fSortK, ↓seq_putDT, ↓seq_sealDT, ↓dVarR_w, ↓dAttr, ↓dAppR, ↓dExtR_w, ↓dExtTR_w, ↓dClrR, ↓dPopR_w, ↓dIxR_w, ↓dDGetR, ↓dDInR, ↓dGet2R, ↓dPop1R, ↓dPop2R, ↓dDGetTR, ↓dDInTR, ↓dPop1TR, ↓dCallM, ↓dMethO, ↓dMake, ↓dMoveR, ↓dPtr, ↓sAttr, ↓sSetR, ↓sPutR, ↓sPutTR, ↓sSetA_w, ↓sSetG_w, ↓seq_setG, ↓seq_setA, ↓seq_attr, ↓seq_setR, ↓seq_putR, ↓seq_putTR, ↓RegS_reg, ↓CellS_some, ↓RefS_reg, ↓RefS_ar, ↓cellS_ar, ↓wd_ar, ↓seqD_ar, ↓lstO_lst, ↓insO_ins, ↓dkO_dk, ↓dkO_lk, ↓dtO_dt, ↓dtO_lk, ↓dkW_dk, ↓dtW_dt, ↓stoS_ext, ↓stoS_reg, ↓stoS_lstT, ↓stoS_lstF, ↓stoS_al, ↓ptrD_ref, ↓ptrD_int, ↓ptrD_str, ↓ptrD_bl, ↓ptrD_non, ↓ptrD_tup, ↓ptrD_tk, ↓ptrD_lst, ↓ptrD_fz, ↓setGS_lst, ↓setGS_reg, ↓setAS_ar, ↓setAS_ext, ↓intS_int, ↓tupS_tup, ↓lstS_lst, ↓lstK, ↓dkK, ↓dtK, ↓retD_reg, ↓dSortSetB])
local macro_rules | `(tactic| and_intros) => `(tactic| try simp -dsimp only [↓sIf, ↓sRet, ↓retD_ext, ↓retD_lst, ↓retD_al, ↓sSet, ↓sSetE, ↓sAsg, ↓sDrop, ↓sNext, ↓sFor, ↓sRetN, ↓sCont, ↓sBreak, ↓dTest, ↓dOp, ↓dC, ↓dCons, ↓dNil, ↓dTup, ↓dLst, ↓frzDs, ↓frzD_ext, ↓frzD_lst, ↓frzD_al, ↓wd_ext, ↓wd_lst, ↓wd_al, ↓wds, ↓AtS_ext, ↓AtS_lst, ↓AtL, ↓fAdd, ↓fSub, ↓fMul, ↓fDiv, ↓fMod, ↓fPow, ↓fCmp, ↓fIn, ↓fEq_ii, ↓fEq_ss, ↓fEq_bb, ↓fEq_tt, ↓fEq_ll, ↓fNe_ii, ↓fNe_ss, ↓fNe_bb, ↓fNe_tt, ↓fNe_ll, ↓fIx_l, ↓fIx_t, ↓fIx_k, ↓fIx_f, ↓GetS_some, ↓NatS_some, ↓fSl, ↓fIsN, ↓fNotN, ↓D.knN, ↓dNot, ↓dAnd, ↓dOr, ↓dAndV_w, ↓dOrV_w, ↓dNotV, ↓dIf, ↓dNeg, ↓dChain_w, ↓BlS_bl, ↓dCall_w, ↓dCallJ_w, ↓anyAl, ↓frozs, ↓froz, ↓gSet, ↓gTupD, ↓gsCons, ↓gsNil, ↓dSeq, ↓seqD_tup, ↓seqD_elst, ↓seqD_lst, ↓seqD_al, ↓dRange1, ↓dRange2, ↓dZip, ↓dCB, ↓dLc, ↓dYes, ↓dNoPart, ↓dPart, ↓dSl, ↓fLen, ↓fMin, ↓fMax, ↓fSum, ↓fAll, ↓fAny, ↓fSorted, ↓fTuple, ↓fList, ↓dRg1, ↓dRg2, ↓dLstRg, ↓dTupRg, ↓dIndex, ↓fIdx, ↓dAppend_w, ↓dExtend_w, ↓extD_lst, ↓dPopAt_w, ↓popD_int, ↓dPop_w, ↓mutD_w, ↓sSetItem_w, ↓setD_int, ↓dSortSet, ↓dTable_w, ↓wipeE, finals1, finals2, finals3, finals4, finals5, finals6, fin1_ext, fin1_lst, List.getElem?_cons_zero, List.getElem?_cons_succ, List.getElem?_nil, List.set_cons_zero, List.set_cons_succ, List.cons_append, List.nil_append, List.append_nil, List.replicate_succ, List.replicate_zero, List.map_cons, List.map_nil, List.length_cons, List.length_nil, true_and, and_true, ite_true, ite_false, if_true, if_false, Bool.false_eq_true, decide_eq_true_eq, Sl.plain, D.isSq, eq_self_iff_true, forall_const, reduceIte, true_or, or_true, atI_0, atI_1, atI_2, atI_3, ixN_0, ixN_1, ixN_2, AtS_ext, AtS_lst, FzS_lst, FzS_ext, GetS_some, NatS_some, ↓fIsi1, ↓fIsi2, BoolS_some, HD.kb_non_tuple, HD.kb_non_list, HD.kb_non_bool, HD.kb_non_int, HD.kb_non_str, HD.kb_bl_tuple, HD.kb_bl_list, HD.kb_bl_bool, HD.kb_bl_int, HD.kb_bl_str, HD.kb_int_tuple, HD.kb_int_list, HD.kb_int_bool, HD.kb_int_int, HD.kb_int_str, HD.kb_str_tuple, HD.kb_str_list, HD.kb_str_bool, HD.kb_str_int, HD.kb_str_str, HD.kb_lst_tuple, HD.kb_lst_list, HD.kb_lst_bool, HD.kb_lst_int, HD.kb_lst_str, HD.kb_tup_tuple, HD.kb_tup_list, HD.kb_tup_bool, HD.kb_tup_int, HD.kb_tup_str, ↓sFz_w, ↓FzS_lst, ↓FzS_ext, ↓dSortSetL, ↓fAbs, ↓fInt, ↓fRepr, ↓fLtT, ↓sRaise, ↓sTryKeep, ↓dCallV_w, ↓dMeth, ↓fCount, ↓fSplit, ↓seq_setE, ↓seq_set, ↓seq_drop, ↓seq_asg, ↓seq_if, ↓seq_for, ↓dStep, ↓fStep, ↓fMulT, ↓fIsB, ↓fNotB, ↓sPar, ↓dEnum, ↓dListZip, ↓dNest, ↓sSeal, ↓dNApp, ↓retD_reg, ↓dLenSet, ↓fSum2, ↓seq_putD, ↓seq_sealD, ↓dDIn, ↓dDGet, ↓sPutD, ↓dDNew, ↓dDOne, ↓sSealD, ↓dKeys, ↓keyS_dk, ↓dExtT, ↓fSortT, ↓fMinP, ↓dRemove, ↓dDInT, ↓dDGetT, ↓sPutDT, ↓dDNewT, ↓sSealDT, ↓dKeysT, ↓keyST_dt, ↓fSortK, ↓seq_putDT, ↓seq_sealDT, ↓dVarR_w, ↓dAttr, ↓dAppR, ↓dExtR_w, ↓dExtTR_w, ↓dClrR, ↓dPopR_w, ↓dIxR_w, ↓dDGetR, ↓dDInR, ↓dGet2R, ↓dPop1R, ↓dPop2R, ↓dDGetTR, ↓dDInTR, ↓dPop1TR, ↓dCallM, ↓dMethO, ↓dMake, ↓dMoveR, ↓dPtr, ↓sAttr, ↓sSetR, ↓sPutR, ↓sPutTR, ↓sSetA_w, ↓sSetG_w, ↓seq_setG, ↓seq_setA, ↓seq_attr, ↓seq_setR, ↓seq_putR, ↓seq_putTR, ↓RegS_reg, ↓CellS_some, ↓RefS_reg, ↓RefS_ar, ↓cellS_ar, ↓wd_ar, ↓seqD_ar, ↓lstO_lst, ↓insO_ins, ↓dkO_dk, ↓dkO_lk, ↓dtO_dt, ↓dtO_lk, ↓dkW_dk, ↓dtW_dt, ↓stoS_ext, ↓stoS_reg, ↓stoS_lstT, ↓stoS_lstF, ↓stoS_al, ↓ptrD_ref, ↓ptrD_int, ↓ptrD_str, ↓ptrD_bl, ↓ptrD_non, ↓ptrD_tup, ↓ptrD_tk, ↓ptrD_lst, ↓ptrD_fz, ↓setGS_lst, ↓setGS_reg, ↓setAS_ar, ↓setAS_ext, ↓intS_int, ↓tupS_tup, ↓lstS_lst, ↓lstK, ↓dkK, ↓dtK, ↓retD_reg, ↓dSortSetB, ↓dv0, ↓dw0, ↓dv1, ↓dw1, ↓dv2, ↓dw2, ↓dv3, ↓dw3, ↓dv4, ↓dw4, ↓dv5, ↓dw5, ↓dv6, ↓dw6, ↓dv7, ↓dw7, ↓dv8, ↓dw8, ↓dv9, ↓dw9, ↓dv10, ↓dw10, ↓dv11, ↓dw11, ↓dv12, ↓dw12, ↓dv13, ↓dw13, ↓dv14, ↓dw14, ↓dv15, ↓dw15, ↓dv16, ↓dw16, ↓dv17, ↓dw17, ↓dv18, ↓dw18, ↓dv19, ↓dw19])
def nrX (x : Nat) (ps : List Part) : List Nat := x :: nearL x ps
theorem nrX_in {x : Nat} {ps : List Part} {p : Part} (h : x ∈ p.ns) : nrX x (ps ++ [p]) = nrX x ps ++ p.ns := by
  unfold nrX
  rw [nearL_snoc, if_pos h]
  rfl
theorem nrX_out {x : Nat} {ps : List Part} {p : Part} (h : x ∉ p.ns) : nrX x (ps ++ [p]) = nrX x ps := by
  unfold nrX
  rw [nearL_snoc, if_neg h, List.append_nil]
def NstM (M : List (List Nat)) (a : Addr) (xs : List (Addr × List D)) : Prop := (a :: xs.map (·.1)).Nodup ∧ xs.map (·.2) = M.map nD
def sp_law_gbags : DSpec := fun args Q _ => ∃ (S : List Nat) (ps : List Part) (o : List Nat), args = [.ext (dSh S ps), .ext (.lst (nD o))] ∧ NsOk S ps ∧ S.length ≤ 12 ∧ ps.length ≤ 40 ∧ (∀ p ∈ ps, p.ns.length ≤ 12) ∧ o.Nodup ∧ (∀ x ∈ o, x < S.length) ∧
  ∀ b fin, Q (.lst b (fD ((List.range o.length).map fun k => bagN S.length (gsOf ps) (o.take k) (o.getD k 0)))) fin
def b1_law_gbags : DTS :=
    (sIf (dTest (dOp (fIn false) (dVar 3) (dVar 4))) (sDrop (dExtTR (dIxR (dVarR 2) (dVar 3)) (dVar 4))) sNext)
def b2_law_gbags : DTS :=
    (sSeq (sDrop (dAppR false (dVarR 2) (dLst (dCons (dVar 3) dNil))))
    (sFor (dSeq (dOp fIx (dVar 0) (dC (.int 1)))) (gTupD 2 (gsCons (gSet 4) (gsCons (gSet 5) gsNil))) b1_law_gbags))
def e3_law_gbags : DT :=
    (dVar 9)
def b4_law_gbags : DTS :=
    (sDrop (dExtR (dIxR (dVarR 2) (dVar 9)) (dVar 8)))
def k5_law_gbags : DTS :=
    (sDrop (dAppend 6 (dCB fTuple (dCons (dVar 8) dNil))))
def b6_law_gbags : DTS :=
    (sSeq (sSetE 8 (dSortSetB (dLc (dSeq (dIxR (dVarR 2) (dVar 3))) (gSet 9) (dTest (dOp (fIn true) (dVar 9) (dSl (dVar 1) dNoPart (dPart (dVar 7))))) e3_law_gbags [9])))
    (sSeq (sFor (dSeq (dVar 8)) (gSet 9) b4_law_gbags)
    k5_law_gbags))
def k7_law_gbags : DTS :=
    (sRet (dVar 6))
def k8_law_gbags : DTS :=
    (sSeq (sSet 6 (dLst dNil))
    (sSeq (sFor (dEnum (dVar 1)) (gTupD 2 (gsCons (gSet 7) (gsCons (gSet 3) gsNil))) b6_law_gbags)
    k7_law_gbags))
def t_law_gbags : DTS :=
    (sSeq (sSetG 2 (dLst dNil))
    (sSeq (sFor (dRange1 (dCons (dCB fLen (dCons (dOp fIx (dVar 0) (dC (.int 0))) dNil)) dNil)) (gSet 3) b2_law_gbags)
    k8_law_gbags))
theorem en_nat (o : List Nat) : enD (nD o) = o.zipIdx.map fun q => D.tk [.int (q.2 : Nat), .int (q.1 : Nat)] := by
  unfold enD
  rw [List.zipIdx_map, List.map_map]
  rfl
theorem nearM_0 {S : List Nat} {ps : List Part} (ok : NsOk S ps) : NearM S.length (gsOf ps) [] ((List.range S.length).map fun x => nrX x ps) := by
  refine ⟨by simp, fun l hl z hz => ?_, fun x hx _ z _ => ?_⟩
  · obtain ⟨x, hx, rfl⟩ := List.mem_map.1 hl
    rcases List.mem_cons.1 hz with rfl | hz
    · exact List.mem_range.1 hx
    · obtain ⟨p, hp, _, h2⟩ := mem_nearL.1 hz
      exact (ok.ok p hp).2 z h2
  · have e : ((List.range S.length).map fun x => nrX x ps).getD x [] = nrX x ps := by
      rw [List.getD_eq_getElem?_getD, List.getElem?_map, List.getElem?_range hx]
      rfl
    rw [e, bag_none hx, nb_near, List.mem_filter, List.mem_range, Bool.and_eq_true, bne_iff_ne, decide_eq_true_eq]
    constructor
    · intro h
      rcases List.mem_cons.1 h with rfl | h
      · exact .inl rfl
      · by_cases c : z = x
        · exact .inl c
        · obtain ⟨p, hp, _, h2⟩ := mem_nearL.1 h
          exact .inr ⟨(ok.ok p hp).2 z h2, c, h⟩
    · rintro (rfl | ⟨_, _, h⟩)
      · exact List.mem_cons_self
      · exact List.mem_cons_of_mem _ h
theorem m_law_gbags : Meets t_law_gbags 2 8 sp_law_gbags := by
  rintro args Qd Xd ⟨S, ps, o, rfl, ok, hn, hp, hpn, nd, ho, hQ⟩
  show t_law_gbags _ _ [_, _, .un, .un, .un, .un, .un, .un, .un, .un]
  unfold t_law_gbags
  and_intros
  refine ⟨Nat.zero_le _, fun a => ?_⟩
  and_intros
  rw [nD_len, rgD_nat]
  refine ⟨⟨by omega, by omega⟩, ?_⟩
  refine for_ind (fun x : Nat => D.int (x : Nat)) (fun xs env => ∃ (pre : List Nat) (ys : List (Addr × List D)) (u3 u4 u5 : Sl), env = [.ext (dSh S ps), .ext (.lst (nD o)), nestS a ys, u3, u4, u5, .un, .un, .un, .un] ∧ NstM (pre.map fun x => nrX x ps) a ys ∧ List.range S.length = pre ++ xs) ?_ ?_ (List.range S.length) _ ⟨[], [], _, _, _, rfl, ⟨by simp, rfl⟩, rfl⟩
  · rintro env ⟨pre, ys, u3, u4, u5, rfl, hN, he⟩
    rw [List.append_nil] at he
    subst he
    refine ⟨True.intro, ?_⟩
    unfold k8_law_gbags
    and_intros
    refine ⟨Nat.zero_le _, fun a6 => ?_⟩
    trivial
    rw [en_nat]
    have hol : o.length ≤ S.length := by
      have := nd_sub_len (b := List.range S.length) nd fun x hx => List.mem_range.2 (ho x hx)
      rwa [List.length_range] at this
    refine for_ind (fun q : Nat × Nat => D.tk [.int (q.2 : Nat), .int (q.1 : Nat)]) (fun xs env => ∃ (j : Nat) (M : List (List Nat)) (ys : List (Addr × List D)) (u3 u4 u5 u7 u8 u9 : Sl), env = [.ext (dSh S ps), .ext (.lst (nD o)), nestS a ys, u3, u4, u5, .lst a6 (fD ((List.range j).map fun k => bagN S.length (gsOf ps) (o.take k) (o.getD k 0))), u7, u8, u9] ∧
      NstM M a ys ∧ NearM S.length (gsOf ps) (o.take j) M ∧ (∀ l ∈ M, l.length ≤ 481 + 144 * j) ∧ j ≤ o.length ∧ xs = o.zipIdx.drop j) ?_ ?_ o.zipIdx _ ⟨0, _, ys, _, _, _, _, _, _, rfl, hN, nearM_0 ok, fun l hl => ?_, Nat.zero_le _, rfl⟩
    · rintro env ⟨j, M, ys, u3, u4, u5, u7, u8, u9, rfl, hM, hnm, hll, hjo, hx⟩
      have hj : o.length ≤ j := by
        have := congrArg List.length hx
        rw [List.length_drop, List.length_zipIdx] at this
        simp at this
        omega
      refine ⟨True.intro, ?_⟩
      unfold k7_law_gbags
      and_intros
      have e : j = o.length := Nat.le_antisymm hjo hj
      subst e
      exact hQ _ _
    · rintro ⟨x, k⟩ xs env N ⟨j, M, ys, u3, u4, u5, u7, u8, u9, rfl, hM, hnm, hll, hjo, hx⟩ hN
      obtain ⟨hj, rfl, rfl⟩ : j < o.length ∧ k = j ∧ x = o.getD j 0 := by
        have h1 : (o.zipIdx.drop j)[0]? = some (x, k) := by rw [← hx]; rfl
        rw [List.getElem?_drop, Nat.add_zero, List.getElem?_zipIdx] at h1
        cases ho' : o[j]? with
        | none => rw [ho'] at h1; cases h1
        | some z =>
          rw [ho'] at h1
          have := Option.some.inj h1
          simp at this
          refine ⟨(List.getElem?_eq_some_iff.1 ho').1, this.2.symm, ?_⟩
          rw [List.getD_eq_getElem?_getD, ho']
          exact this.1.symm
      refine ⟨True.intro, ?_⟩
      have hgd : o.getD k 0 ∈ o := by
        rw [List.getD_eq_getElem?_getD, List.getElem?_eq_getElem hj]
        exact List.getElem_mem hj
      have hxt : o.getD k 0 ∉ o.take k := fun z => Nat.lt_irrefl _ ((getD_take nd hj).1 z)
      have hxn := ho _ hgd
      have hT : ∀ t, t ∈ o.take (k + 1) ↔ t = o.getD k 0 ∨ t ∈ o.take k := fun t => by
        rw [List.take_add_one, List.mem_append, List.getD_eq_getElem?_getD, List.getElem?_eq_getElem hj]
        simp [or_comm]
      have hbk : (List.range (k + 1)).map (fun k => bagN S.length (gsOf ps) (o.take k) (o.getD k 0)) = (List.range k).map (fun k => bagN S.length (gsOf ps) (o.take k) (o.getD k 0)) ++ [bagN S.length (gsOf ps) (o.take k) (o.getD k 0)] := by
        rw [List.range_succ, List.map_append]
        rfl
      have hxs : xs = o.zipIdx.drop (k + 1) := by
        have := congrArg List.tail hx
        rw [List.tail_cons, List.tail_drop] at this
        exact this
      generalize o.getD k 0 = x at *
      unfold b6_law_gbags
      and_intros
      obtain ⟨hnd, hMy⟩ := hM
      have hlM : ys.length = M.length := by simpa using congrArg List.length hMy
      have hxy : x < ys.length := by rw [hlM, hnm.len]; exact hxn
      have hxM : x < M.length := by rw [← hlM]; exact hxy
      have hy2 : (ys[x]).2 = nD M[x] := by
        have := congrArg (fun l => l[x]?) hMy
        simp only [List.getElem?_map, List.getElem?_eq_getElem hxy, List.getElem?_eq_getElem hxM] at this
        simpa using this
      have hgx : M.getD x [] = M[x] := by rw [List.getD_eq_getElem?_getD, List.getElem?_eq_getElem hxM]; rfl
      have hat : atI (ys.map fun p => D.val (.ref p.1)) (x : Int) = some (.val (.ref (ys[x]).1)) := atI_int (Int.natCast_nonneg _) (by rw [Int.toNat_natCast, List.getElem?_map, List.getElem?_eq_getElem hxy]; rfl)
      have hc := nest_at hnd (List.getElem_mem hxy)
      refine cellS_i (nest_top a ys) ?_
      trivial
      refine ⟨_, hat, ?_⟩
      trivial
      refine cellS_i hc ?_
      trivial
      rw [hy2]
      have hMl := hll _ (List.getElem_mem hxM)
      refine lc_filter (fun y : Nat => D.int (y : Nat)) (fun y => .int (y : Nat)) (fun y => !decide (y ∈ o.take k)) ⟨_, _, rfl, by rw [hc, hy2]⟩ M[x] (Nat.le_trans (by omega : _ ≤ 2500) (by decide)) (fun y hy R hR => ?_) fun b => ?_
      · unfold e3_law_gbags
        trivial
        rw [cut_tk (nD o) k (by rw [nD_len]; omega), show (nD o).take k = nD (o.take k) from List.map_take.symm, isIn_nat]
        refine ⟨rfl, flat_nD _, ?_⟩
        by_cases hm : y ∈ o.take k
        · rw [if_neg (by simpa using hm)]
          rw [if_neg (by simpa using hm)] at hR
          exact hR
        · rw [if_pos (by simpa using hm)]
          rw [if_pos (by simpa using hm)] at hR
          exact hR
      · trivial
        refine ⟨(M[x].filter fun y => !decide (y ∈ o.take k)).map fun n : Nat => (n : Int), by rw [List.map_map]; rfl, ?_, fun n hn' => ?_, fun ns' hs hmem => ?_⟩
        · rw [List.length_map]
          exact Nat.lt_of_le_of_lt (List.length_filter_le _ _) (by omega)
        · obtain ⟨z, hz, rfl⟩ := List.mem_map.1 hn'
          have := hnm.lt _ (List.getElem_mem hxM) z (List.mem_filter.1 hz).1
          omega
        obtain ⟨B, rfl, hBr, hBm⟩ := nat_of_set hs hmem
        have hB : B = bagN S.length (gsOf ps) (o.take k) x := by
          refine rising_ext hBr (bag_rising _ _ _ _) fun z => ?_
          rw [hBm, List.mem_filter, Bool.not_eq_true', decide_eq_false_iff_not, ← hgx]
          constructor
          · rintro ⟨h1, h2⟩
            exact (hnm.mem x hxn hxt z h2).1 h1
          · intro h1
            have h2 := (mem_bag.1 h1).2.1
            exact ⟨(hnm.mem x hxn hxt z h2).2 h1, h2⟩
        have hBn : ∀ z ∈ B, z < S.length := fun z hz => by rw [hB] at hz; exact (mem_bag.1 hz).1
        have hBl : B.length ≤ 12 := Nat.le_trans (rising_len hBr hBn) hn
        rw [show (B.map fun n : Nat => (n : Int)).map D.int = nD B from by rw [List.map_map]; rfl]
        refine for_ind (fun y : Nat => D.int (y : Nat)) (fun rs env => ∃ (pr : List Nat) (zs : List (Addr × List D)) (u9 : Sl), env = [.ext (dSh S ps), .ext (.lst (nD o)), nestS a zs, dI (x : Nat), u4, u5,
          .lst a6 (fD ((List.range k).map fun k => bagN S.length (gsOf ps) (o.take k) (o.getD k 0))), dI (k : Nat), .ext (.lst (nD B)), u9] ∧ NstM (addB M B pr) a zs ∧ (∀ l ∈ addB M B pr, l.length ≤ 481 + 144 * k + 12 * pr.length) ∧ B = pr ++ rs) ?_ ?_ B _ ⟨[], ys, _, rfl, ⟨hnd, hMy⟩, fun l hl => hll l hl, rfl⟩
        · rintro env ⟨pr, zs, u9, rfl, hz1, hz2, hz3⟩
          rw [List.append_nil] at hz3
          refine ⟨True.intro, ?_⟩
          unfold k5_law_gbags
          trivial
          refine ⟨by rw [List.length_map, List.length_map, List.length_range]; exact Nat.lt_of_le_of_lt (by omega : k ≤ 24) (by decide), hN _ ⟨k + 1, addB M B pr, zs, dI (x : Nat), u4, u5, dI (k : Nat), .ext (.lst (nD B)), u9, ?_, hz1, ?_, fun l hl => ?_, hj, hxs⟩⟩
          · rw [hbk, ← hB, show ∀ (l : List (List Nat)), fD (l ++ [B]) = fD l ++ [D.tup (nD B)] from fun l => List.map_append]
          · rw [← hz3, hB]
            exact hnm.step hT hxn hxt
          · have := hz2 l hl
            have e : pr.length = B.length := by rw [hz3]
            omega
        · rintro y rs env N' ⟨pr, zs, u9, rfl, hz1, hz2, hz3⟩ hN'
          refine ⟨True.intro, ?_⟩
          unfold b4_law_gbags
          trivial
          have hyB : y ∈ B := by rw [hz3]; simp
          have hyn := hBn y hyB
          obtain ⟨zd, zM⟩ := hz1
          have hlz : zs.length = S.length := by
            have := congrArg List.length zM
            rw [List.length_map, List.length_map, addB_len, hnm.len] at this
            exact this
          have hyz : y < zs.length := by omega
          have hyM : y < (addB M B pr).length := by rw [addB_len, hnm.len]; exact hyn
          have hz : (zs[y]).2 = nD (addB M B pr)[y] := by
            have := congrArg (fun l => l[y]?) zM
            simp only [List.getElem?_map, List.getElem?_eq_getElem hyz, List.getElem?_eq_getElem hyM] at this
            simpa using this
          have hat' : atI (zs.map fun p => D.val (.ref p.1)) (y : Int) = some (.val (.ref (zs[y]).1)) := atI_int (Int.natCast_nonneg _) (by rw [Int.toNat_natCast, List.getElem?_map, List.getElem?_eq_getElem hyz]; rfl)
          have hc' := nest_at zd (List.getElem_mem hyz)
          refine cellS_i (nest_top a zs) ?_
          trivial
          refine ⟨_, hat', ?_⟩
          trivial
          have hpl : pr.length + (rs.length + 1) = B.length := by rw [hz3]; simp
          have hzl := hz2 _ (List.getElem_mem hyM)
          refine ⟨cellS_i hc' True.intro, cellS_i hc' ⟨?_, ?_⟩⟩
          · rw [hz, nD_len, nD_len]
            exact Nat.le_trans (by omega : _ ≤ 4000) (by decide)
          have hgy : zs[y]? = some ((zs[y]).1, (zs[y]).2) := List.getElem?_eq_getElem hyz
          trivial
          rw [nest_put zd hgy, hz]
          refine hN' _ ⟨pr ++ [y], _, _, rfl, ⟨?_, ?_⟩, fun l hl => ?_, by rw [hz3]; simp⟩
          · have e : (zs.set y ((zs[y]).1, nD (addB M B pr)[y] ++ nD B)).map (·.1) = zs.map (·.1) := by
              rw [List.map_set]
              show (zs.map (·.1)).set y (zs[y]).1 = _
              refine List.ext_getElem? fun i => ?_
              rw [List.getElem?_set]
              split
              · rename_i q
                subst q
                rw [if_pos (by rw [List.length_map]; exact hyz), List.getElem?_map, hgy]
                rfl
              · rfl
            rw [e]
            exact zd
          · rw [List.map_set, zM, addB_snoc, List.map_set, nD_app, List.getD_eq_getElem?_getD, List.getElem?_eq_getElem hyM]
            rfl
          · rw [addB_snoc] at hl
            rw [List.length_append]
            rcases List.mem_or_eq_of_mem_set hl with q | q
            · have := hz2 l q
              show l.length ≤ 481 + 144 * k + 12 * (pr.length + 1)
              omega
            · rw [q, List.length_append, List.getD_eq_getElem?_getD, List.getElem?_eq_getElem hyM]
              show ((addB M B pr)[y]).length + B.length ≤ 481 + 144 * k + 12 * (pr.length + 1)
              omega
    · obtain ⟨x, _, rfl⟩ := List.mem_map.1 hl
      have := nearL_len (x := x) hpn
      show (nearL x ps).length + 1 ≤ _
      omega
  · rintro x xs env N ⟨pre, ys, u3, u4, u5, rfl, ⟨hnd, hM⟩, he⟩ hN
    have hlen := congrArg List.length he
    rw [List.length_range, List.length_append, List.length_cons] at hlen
    have hx : x < S.length := List.mem_range.1 (by rw [he]; simp)
    have hys : ys.length = pre.length := by simpa using congrArg List.length hM
    have hxp : x = pre.length := by
      have h1 : (List.range S.length)[pre.length]? = some x := by rw [he]; simp
      rw [List.getElem?_range (by omega)] at h1
      exact (Option.some.inj h1).symm
    refine ⟨True.intro, ?_⟩
    unfold b2_law_gbags
    and_intros
    refine ⟨cellS_i (nest_top a ys) True.intro, by decide, fun a3 => cellS_i (nest_top a ys) ⟨?_, fun hd => ?_⟩⟩
    · rw [List.length_map, hys]
      exact Nat.lt_of_lt_of_le (by omega : pre.length < 100) (by decide)
    have hnd3 : (a :: (ys ++ [(a3, nD [x])]).map (·.1)).Nodup := by
      rw [nest_keys] at hd
      rw [List.map_append, ← List.cons_append]
      refine List.nodup_append.2 ⟨hnd, List.pairwise_singleton _ _, fun q hq r hr e => hd q hq ?_⟩
      rw [e]
      exact hr
    have e3 := nest_new (p := a3) (ds := nD [x]) hnd
    trivial
    rw [show [D.int (x : Int)] = nD [x] from rfl, e3, show [x] = nrX x [] from rfl]
    refine for_ind (fun p : Part => dP p) (fun qs env => ∃ (pr : List Part) (u4 u5 : Sl), env = [.ext (dSh S ps), .ext (.lst (nD o)), nestS a (ys ++ [(a3, nD (nrX x pr))]), dI (x : Nat), u4, u5, .un, .un, .un, .un] ∧ ps = pr ++ qs) ?_ ?_ ps _ ⟨[], _, _, rfl, rfl⟩
    · rintro env ⟨pr, u4, u5, rfl, hp'⟩
      rw [List.append_nil] at hp'
      subst hp'
      refine ⟨True.intro, hN _ ⟨pre ++ [x], ys ++ [(a3, nD (nrX x ps))], _, _, _, rfl, ⟨?_, ?_⟩, by rw [he]; simp⟩⟩
      · rw [List.map_append] at hnd3 ⊢
        exact hnd3
      · rw [List.map_append, hM, List.map_append, List.map_append]
        rfl
    · rintro p qs env N' ⟨pr, u4, u5, rfl, hp'⟩ hN'
      refine ⟨True.intro, ?_⟩
      unfold b1_law_gbags
      trivial
      have hpm : p ∈ ps := by rw [hp']; simp
      have hnd4 : (a :: (ys ++ [(a3, nD (nrX x pr))]).map (·.1)).Nodup := by
        rw [List.map_append] at hnd3 ⊢
        exact hnd3
      have hj : (ys ++ [(a3, nD (nrX x pr))])[x]? = some (a3, nD (nrX x pr)) := by
        rw [hxp, ← hys, List.getElem?_append_right (Nat.le_refl _), Nat.sub_self]
        rfl
      refine ⟨rfl, flat_nD _, ?_⟩
      rw [isIn_nat]
      by_cases hm : x ∈ p.ns
      · rw [if_pos (by simpa using hm)]
        trivial
        have hat : atI ((ys ++ [(a3, nD (nrX x pr))]).map fun p => D.val (.ref p.1)) (x : Int) = some (.val (.ref a3)) := atI_int (Int.natCast_nonneg _) (by rw [Int.toNat_natCast, List.getElem?_map, hj]; rfl)
        refine cellS_i (nest_top a _) ?_
        trivial
        refine ⟨_, hat, ?_⟩
        trivial
        have hc := nest_at hnd4 (List.mem_of_getElem? hj)
        refine ⟨cellS_i hc True.intro, cellS_i hc ⟨?_, ?_⟩⟩
        · have hl : (nearL x pr).length ≤ pr.length * 12 := nearL_len fun q hq => hpn q (by rw [hp']; exact List.mem_append_left _ hq)
          have hpl := congrArg List.length hp'
          rw [List.length_append, List.length_cons] at hpl
          have := hpn p hpm
          rw [nD_len, nD_len, show (nrX x pr).length = (nearL x pr).length + 1 from rfl]
          exact Nat.le_trans (by omega : _ ≤ 600) (by decide)
        trivial
        have es : (ys ++ [(a3, nD (nrX x pr))]).set x (a3, nD (nrX x pr) ++ nD p.ns) = ys ++ [(a3, nD (nrX x (pr ++ [p])))] := by
          rw [hxp, ← hys, List.set_append_right _ _ (Nat.le_refl _), Nat.sub_self, List.set_cons_zero, hys, ← hxp, nrX_in hm, nD_app]
        rw [nest_put hnd4 hj, es]
        exact hN' _ ⟨pr ++ [p], _, _, rfl, by rw [hp']; simp⟩
      · rw [if_neg (by simpa using hm)]
        trivial
        exact hN' _ ⟨pr ++ [p], _, _, by rw [nrX_out hm], by rw [hp']; simp⟩
end LS
namespace LS
open PM PM.Tr
structure RTree (N : Nat) (gs : List (List Nat)) (Bs : List (List Nat)) (ts : List (Nat × Nat)) (root : Nat) (up rk : Nat → Nat) : Prop where
  rt : Rt N Bs ts root up rk
  part : ∀ ns ∈ gs, ∃ i, i < Bs.length ∧ ∀ n ∈ ns, n ∈ bg Bs i
  name : ∀ n, n < N → ∃ i, i < Bs.length ∧ n ∈ bg Bs i
noncomputable def elimB (N : Nat) (gs : List (List Nat)) (o : List Nat) : List (List Nat) := (List.range o.length).map fun k => bagN N gs (o.take k) (o.getD k 0)
theorem elimB_len (N : Nat) (gs : List (List Nat)) (o : List Nat) : (elimB N gs o).length = o.length := by unfold elimB; simp
theorem elimB_bg {N : Nat} {gs : List (List Nat)} {o : List Nat} {k : Nat} (h : k < o.length) : bg (elimB N gs o) k = bagN N gs (o.take k) (o.getD k 0) := by
  show (elimB N gs o).getD k [] = _
  unfold elimB
  rw [List.getD_eq_getElem?_getD, List.getElem?_map, List.getElem?_range h]
  rfl
theorem RTree.base {N : Nat} {gs : List (List Nat)} {o : List Nat} (nd : o.Nodup) (hl : ∀ m ∈ o, m < N) (hall : ∀ m, m < N → m ∈ o) (h0 : 0 < o.length) (hg : ∀ ns ∈ gs, ∀ n ∈ ns, n < N) :
    RTree N gs (elimB N gs o) (treeN N gs o) (o.length - 1) (fun k => upN o (bagN N gs (o.take k) (o.getD k 0)) k) fun k => o.length - k := by
  have le := elimB_len N gs o
  refine ⟨⟨⟨by omega, fun x hx hr => ?_, fun i j => ?_, tree_nodup, fun t ht z => ?_⟩, fun B hB => ?_, fun n => ?_⟩, fun ns hns => ?_, fun n hn => ?_⟩
  · rw [le] at hx ⊢
    have := up_lt (o := o) (B := bagN N gs (o.take x) (o.getD x 0)) (k := x) (by omega)
    refine ⟨this.2, ?_⟩
    show o.length - upN o _ x < o.length - x
    omega
  · rw [le, mem_tree, mem_tree]
    constructor
    · rintro (⟨a, b⟩ | ⟨a, b⟩)
      · exact .inl ⟨by simp only at a; omega, by simp only at a; omega, b.symm⟩
      · exact .inr ⟨by simp only at a; omega, by simp only at a; omega, b.symm⟩
    · rintro (⟨a, b, c⟩ | ⟨a, b, c⟩)
      · exact .inl ⟨by simp only; omega, c.symm⟩
      · exact .inr ⟨by simp only; omega, c.symm⟩
  · have a := (tree_lt ht).1
    have b := (tree_lt z).1
    simp only at b
    omega
  · obtain ⟨k, hk, rfl⟩ := List.mem_map.1 hB
    exact ⟨bag_rising _ _ _ _, fun n hn => (mem_bag.1 hn).1⟩
  · by_cases hn : n < N
    · obtain ⟨p, hp, e⟩ := List.getElem_of_mem (hall n hn)
      have ep : o.getD p 0 = n := by rw [List.getD_eq_getElem?_getD, List.getElem?_eq_getElem hp]; exact e
      refine ⟨p, fun b hb hnb => ?_⟩
      rw [le] at hb
      rw [elimB_bg hb] at hnb
      by_cases c : b = p
      · exact .inl c
      refine .inr ?_
      have hbp : b < p := by
        have h2 := (mem_bag.1 hnb).2.1
        rw [← ep] at h2
        have := mt (getD_take (k := b) nd hp).2 h2
        omega
      rw [← ep] at hnb
      obtain ⟨r1, r2, r3⟩ := tree_run nd hl hp hbp hnb
      rw [ep] at r3
      exact ⟨by omega, by rw [elimB_bg (by omega)]; exact r3⟩
    · exact ⟨0, fun b hb hnb => by rw [le] at hb; rw [elimB_bg hb] at hnb; exact absurd (mem_bag.1 hnb).1 hn⟩
  · obtain ⟨k, hk, h⟩ := tree_part nd hl hall hns (hg ns hns) h0
    exact ⟨k, by rw [le]; exact hk, fun n hn => by rw [elimB_bg hk]; exact h n hn⟩
  · obtain ⟨⟨i, hi, h⟩, _⟩ := tree_name (gs := gs) nd hl (hall n hn)
    have hi' := List.mem_range.1 hi
    exact ⟨i, by rw [le]; exact hi', by rw [elimB_bg hi']; exact h⟩
theorem bg_app_l {Bs Cs : List (List Nat)} {k : Nat} (h : k < Bs.length) : bg (Bs ++ Cs) k = bg Bs k := by
  show (Bs ++ Cs).getD k [] = Bs.getD k []
  rw [List.getD_eq_getElem?_getD, List.getElem?_append_left h, List.getD_eq_getElem?_getD]
theorem bg_last {Bs : List (List Nat)} {C : List Nat} : bg (Bs ++ [C]) Bs.length = C := by
  show (Bs ++ [C]).getD Bs.length [] = C
  rw [List.getD_eq_getElem?_getD, List.getElem?_append_right (Nat.le_refl _), Nat.sub_self]
  rfl
theorem RTree.hang {N : Nat} {gs Bs : List (List Nat)} {ts : List (Nat × Nat)} {root at' : Nat} {up rk : Nat → Nat} {C : List Nat} (h : RTree N gs Bs ts root up rk) (ha : at' < Bs.length) (hr : Rising C) (hs : ∀ n ∈ C, n ∈ bg Bs at') :
    RTree N gs (Bs ++ [C]) (ts ++ [(at', Bs.length)]) root (fun x => if x = Bs.length then at' else up x) fun x => if x = Bs.length then rk at' + 1 else rk x := by
  have tr := h.rt.tr
  have ll : (Bs ++ [C]).length = Bs.length + 1 := by simp
  have lt_of : ∀ t ∈ ts, t.1 < Bs.length ∧ t.2 < Bs.length := fun t ht => by
    have := tr.ed_lt (tr.ed_ts.2 (.inl ht) : Ed Bs.length root up t.1 t.2)
    exact ⟨this.1, this.2.1⟩
  refine ⟨⟨⟨by have := tr.rt; omega, fun x hx hxr => ?_, fun i j => ?_, ?_, fun t ht z => ?_⟩, fun B hB => ?_, fun n => ?_⟩, fun ns hns => ?_, fun n hn => ?_⟩
  · rw [ll] at hx ⊢
    by_cases e : x = Bs.length
    · simp only [e, if_true]
      rw [if_neg (by omega)]
      omega
    · simp only [if_neg e]
      have := tr.hup x (by omega) hxr
      rw [if_neg (by omega)]
      omega
  · rw [ll, List.mem_append, List.mem_append, List.mem_singleton, List.mem_singleton]
    have old := tr.ed i j
    constructor
    · rintro ((a | a) | (a | a))
      · have l := lt_of _ a
        simp only at l
        rcases old.1 (.inl a) with ⟨b, c, d⟩ | ⟨b, c, d⟩
        · exact .inl ⟨by omega, c, by rw [if_neg (by omega)]; exact d⟩
        · exact .inr ⟨by omega, c, by rw [if_neg (by omega)]; exact d⟩
      · have a1 := congrArg Prod.fst a
        have a2 := congrArg Prod.snd a
        simp only at a1 a2
        have := tr.rt
        exact .inr ⟨by omega, by omega, by rw [if_pos a2, a1]⟩
      · have l := lt_of _ a
        simp only at l
        rcases old.1 (.inr a) with ⟨b, c, d⟩ | ⟨b, c, d⟩
        · exact .inl ⟨by omega, c, by rw [if_neg (by omega)]; exact d⟩
        · exact .inr ⟨by omega, c, by rw [if_neg (by omega)]; exact d⟩
      · have a1 := congrArg Prod.fst a
        have a2 := congrArg Prod.snd a
        simp only at a1 a2
        have := tr.rt
        exact .inl ⟨by omega, by omega, by rw [if_pos a2, a1]⟩
    · have key : ∀ i j, (i < Bs.length + 1 ∧ i ≠ root ∧ (if i = Bs.length then at' else up i) = j) → ((i, j) ∈ ts ∨ (i, j) = (at', Bs.length)) ∨ (j, i) ∈ ts ∨ (j, i) = (at', Bs.length) := fun i j ⟨a, b, c⟩ => by
        by_cases e : i = Bs.length
        · rw [if_pos e] at c
          exact .inr (.inr (by rw [← c, e]))
        · rw [if_neg e] at c
          rcases (tr.ed i j).2 (.inl ⟨by omega, b, c⟩) with z | z
          · exact .inl (.inl z)
          · exact .inr (.inl z)
      rintro (a | a)
      · exact key i j a
      · exact (key j i a).symm
  · exact List.nodup_append.2 ⟨tr.nd, List.pairwise_singleton _ _, fun t ht u hu e => by
      rw [List.mem_singleton.1 hu] at e
      have := lt_of t ht
      rw [e] at this
      simp only at this
      omega⟩
  · rcases List.mem_append.1 ht with ht | ht
    · rcases List.mem_append.1 z with z | z
      · exact tr.one t ht z
      · have l := lt_of t ht
        have := congrArg Prod.snd (List.mem_singleton.1 z)
        simp only at this
        omega
    · rw [List.mem_singleton.1 ht] at z
      rcases List.mem_append.1 z with z | z
      · have := lt_of _ z
        simp only at this
        omega
      · have := congrArg Prod.fst (List.mem_singleton.1 z)
        simp only at this
        omega
  · rcases List.mem_append.1 hB with z | z
    · exact h.rt.bags B z
    · rw [List.mem_singleton.1 z]
      exact ⟨hr, fun n hn => h.rt.lt (hs n hn)⟩
  · obtain ⟨top, ht⟩ := h.rt.rip n
    refine ⟨top, fun b hb hnb => ?_⟩
    rw [ll] at hb
    have rl := tr.rt
    by_cases e : b = Bs.length
    · refine .inr ⟨by omega, ?_⟩
      simp only [e, if_true]
      rw [bg_app_l ha]
      rw [e, bg_last] at hnb
      exact hs n hnb
    · have hb' : b < Bs.length := by omega
      rw [bg_app_l hb'] at hnb
      rcases ht b hb' hnb with z | ⟨z1, z2⟩
      · exact .inl z
      · refine .inr ⟨z1, ?_⟩
        simp only [if_neg e]
        rw [bg_app_l (tr.hup b hb' z1).1]
        exact z2
  · obtain ⟨i, hi, hn⟩ := h.part ns hns
    exact ⟨i, by omega, fun n hn' => by rw [bg_app_l hi]; exact hn n hn'⟩
  · obtain ⟨i, hi, hn⟩ := h.name n hn
    exact ⟨i, by omega, by rw [bg_app_l hi]; exact hn⟩
theorem bg_set {Bs : List (List Nat)} {i : Nat} (hi : i < Bs.length) (C : List Nat) (k : Nat) : bg (Bs.set i C) k = if k = i then C else bg Bs k := by
  show (Bs.set i C).getD k [] = _
  rw [List.getD_eq_getElem?_getD, List.getElem?_set]
  by_cases e : i = k
  · subst e
    rw [if_pos rfl, if_pos hi, if_pos rfl]; rfl
  · rw [if_neg e, if_neg (Ne.symm e)]
    rfl
theorem RTree.widen {N : Nat} {gs Bs : List (List Nat)} {ts : List (Nat × Nat)} {root i j : Nat} {up rk : Nat → Nat} {C : List Nat} (h : RTree N gs Bs ts root up rk) (e : Ed Bs.length root up i j) (hr : Rising C) (h1 : ∀ n ∈ bg Bs i, n ∈ C) (h2 : ∀ n ∈ C, n ∈ bg Bs i ∨ n ∈ bg Bs j) :
    RTree N gs (Bs.set i C) ts root up rk := by
  have tr := h.rt.tr
  obtain ⟨li, lj, ne⟩ := tr.ed_lt e
  have ll : (Bs.set i C).length = Bs.length := List.length_set
  have sub : ∀ k n, n ∈ bg Bs k → n ∈ bg (Bs.set i C) k := fun k n hn => by
    rw [bg_set li]
    split
    · rename_i q
      exact h1 n (q ▸ hn)
    · exact hn
  refine ⟨⟨by rw [ll]; exact tr, fun B hB => ?_, fun n => ?_⟩, fun ns hns => ?_, fun n hn => ?_⟩
  · rcases List.mem_or_eq_of_mem_set hB with z | z
    · exact h.rt.bags B z
    · rw [z]
      exact ⟨hr, fun n hn => (h2 n hn).elim h.rt.lt h.rt.lt⟩
  · obtain ⟨top, ht⟩ := h.rt.rip n
    by_cases c : n ∈ bg Bs i ∨ n ∉ C
    · -- nothing new of n
      have same : ∀ k, n ∈ bg (Bs.set i C) k ↔ n ∈ bg Bs k := fun k => by
        rw [bg_set li]
        split
        · rename_i q
          rw [q]
          constructor
          · intro z
            rcases c with c | c
            · exact c
            · exact absurd z c
          · exact h1 n
        · exact Iff.rfl
      refine ⟨top, fun b hb hnb => ?_⟩
      rw [ll] at hb
      rcases ht b hb ((same b).1 hnb) with z | ⟨z1, z2⟩
      · exact .inl z
      · exact .inr ⟨z1, (same _).2 z2⟩
    · have c1 : n ∉ bg Bs i := fun z => c (.inl z)
      have c2 : n ∈ C := Classical.byContradiction fun z => c (.inr z)
      have c3 : n ∈ bg Bs j := (h2 n c2).resolve_left c1
      have ini : n ∈ bg (Bs.set i C) i := by rw [bg_set li, if_pos rfl]; exact c2
      rcases e with ⟨e1, e2, e3⟩ | ⟨e1, e2, e3⟩
      · -- i hangs below j
        refine ⟨top, fun b hb hnb => ?_⟩
        rw [ll] at hb
        by_cases q : b = i
        · exact .inr ⟨by rw [q]; exact e2, by rw [q, e3]; exact sub _ _ c3⟩
        · rw [bg_set li, if_neg q] at hnb
          rcases ht b hb hnb with z | ⟨z1, z2⟩
          · exact .inl z
          · exact .inr ⟨z1, sub _ _ z2⟩
      · -- j hangs below i: j was the top
        have jt : j = top := by
          rcases ht j lj c3 with z | ⟨_, z⟩
          · exact z
          · rw [e3] at z
            exact absurd z c1
        refine ⟨i, fun b hb hnb => ?_⟩
        rw [ll] at hb
        by_cases q : b = i
        · exact .inl q
        · rw [bg_set li, if_neg q] at hnb
          rcases ht b hb hnb with z | ⟨z1, z2⟩
          · rw [z, ← jt]
            exact .inr ⟨e2, by rw [e3]; exact ini⟩
          · exact .inr ⟨z1, sub _ _ z2⟩
  · obtain ⟨k, hk, hn⟩ := h.part ns hns
    exact ⟨k, by rw [ll]; exact hk, fun n hn' => sub _ _ (hn n hn')⟩
  · obtain ⟨k, hk, hn⟩ := h.name n hn
    exact ⟨k, by rw [ll]; exact hk, sub _ _ hn⟩
theorem RTree.turn {N : Nat} {gs Bs Cs : List (List Nat)} {ts us : List (Nat × Nat)} {root : Nat} {up rk f g : Nat → Nat} (h : RTree N gs Bs ts root up rk) (hl : Cs.length = Bs.length) (hf : ∀ i, i < Bs.length → f i < Bs.length ∧ g (f i) = i) (hg : ∀ i, i < Bs.length → g i < Bs.length ∧ f (g i) = i)
    (hb : ∀ i, i < Bs.length → bg Cs (f i) = bg Bs i) (nd : us.Nodup) (hu : ∀ t ∈ us, t.1 < t.2) (he : ∀ a b, ((a, b) ∈ us ∨ (b, a) ∈ us) ↔ ∃ i j, ((i, j) ∈ ts ∨ (j, i) ∈ ts) ∧ a = f i ∧ b = f j) :
    RTree N gs Cs us (f root) (fun x => f (up (g x))) fun x => rk (g x) := by
  have tr := h.rt.tr
  refine ⟨⟨⟨by rw [hl]; exact (hf root tr.rt).1, fun x hx hr => ?_, fun a b => ?_, nd, fun t ht z => ?_⟩, fun B hB => ?_, fun n => ?_⟩, fun ns hns => ?_, fun n hn => ?_⟩
  · rw [hl] at hx ⊢
    have gx := hg x hx
    have hgr : g x ≠ root := fun z => hr (by rw [← z, gx.2])
    have := tr.hup (g x) gx.1 hgr
    refine ⟨(hf _ this.1).1, ?_⟩
    show rk (g (f (up (g x)))) < rk (g x)
    rw [(hf _ this.1).2]
    exact this.2
  · rw [he, hl]
    have key : ∀ i j, Ed Bs.length root up i j → ∀ a b, a = f i → b = f j → (a < Bs.length ∧ a ≠ f root ∧ f (up (g a)) = b) ∨ (b < Bs.length ∧ b ≠ f root ∧ f (up (g b)) = a) := fun i j e a b ha hb' => by
      subst ha
      subst hb'
      obtain ⟨l1, l2, _⟩ := tr.ed_lt e
      rcases e with ⟨e1, e2, e3⟩ | ⟨e1, e2, e3⟩
      · refine .inl ⟨(hf i l1).1, fun z => e2 ?_, by rw [(hf i l1).2, e3]⟩
        have := congrArg g z
        rwa [(hf i l1).2, (hf root tr.rt).2] at this
      · refine .inr ⟨(hf j l2).1, fun z => e2 ?_, by rw [(hf j l2).2, e3]⟩
        have := congrArg g z
        rwa [(hf j l2).2, (hf root tr.rt).2] at this
    have back : ∀ a b, (a < Bs.length ∧ a ≠ f root ∧ f (up (g a)) = b) → ∃ i j, Ed Bs.length root up i j ∧ a = f i ∧ b = f j := fun a b ⟨h1, h2, h3⟩ => by
      have ga := hg a h1
      have : g a ≠ root := fun z => h2 (by rw [← z, ga.2])
      exact ⟨g a, up (g a), .inl ⟨ga.1, this, rfl⟩, ga.2.symm, h3.symm⟩
    constructor
    · rintro ⟨i, j, e, ha, hb'⟩
      exact key i j (tr.ed_ts.2 e) a b ha hb'
    · rintro (z | z)
      · obtain ⟨i, j, e, ha, hb'⟩ := back a b z
        exact ⟨i, j, tr.ed_ts.1 e, ha, hb'⟩
      · obtain ⟨i, j, e, ha, hb'⟩ := back b a z
        exact ⟨j, i, tr.ed_ts.1 e.symm, hb', ha⟩
  · have a := hu t ht
    have b := hu _ z
    simp only at b
    omega
  · obtain ⟨k, hk, rfl⟩ := List.getElem_of_mem hB
    have e : bg Cs k = Cs[k] := by
      show Cs.getD k [] = _
      rw [List.getD_eq_getElem?_getD, List.getElem?_eq_getElem hk]; rfl
    have gk := hg k (by rw [← hl]; exact hk)
    have e2 := hb (g k) gk.1
    rw [gk.2, e] at e2
    rw [e2]
    exact ⟨h.rt.rise _, fun n hn => h.rt.lt hn⟩
  · obtain ⟨top, ht⟩ := h.rt.rip n
    refine ⟨f top, fun b hb' hnb => ?_⟩
    rw [hl] at hb'
    have gb := hg b hb'
    have e2 := hb (g b) gb.1
    rw [gb.2] at e2
    rw [e2] at hnb
    rcases ht (g b) gb.1 hnb with z | ⟨z1, z2⟩
    · exact .inl (by rw [← z, gb.2])
    · refine .inr ⟨fun z => z1 ?_, ?_⟩
      · have := congrArg g z
        rwa [(hf root tr.rt).2] at this
      · show n ∈ bg Cs (f (up (g b)))
        rw [hb _ (tr.hup _ gb.1 z1).1]
        exact z2
  · obtain ⟨k, hk, hn⟩ := h.part ns hns
    exact ⟨f k, by rw [hl]; exact (hf k hk).1, fun n hn' => by rw [hb k hk]; exact hn n hn'⟩
  · obtain ⟨k, hk, hn⟩ := h.name n hn
    exact ⟨f k, by rw [hl]; exact (hf k hk).1, by rw [hb k hk]; exact hn⟩
end LS
namespace LS
open PM PM.Tr
def srtT (a b : Nat) : Nat × Nat := (min a b, max a b)
theorem srtT_or (a b : Nat) : srtT a b = (a, b) ∨ srtT a b = (b, a) := by
  unfold srtT
  by_cases h : a ≤ b
  · rw [Nat.min_eq_left h, Nat.max_eq_right h]; exact .inl rfl
  · rw [Nat.min_eq_right (by omega), Nat.max_eq_left (by omega)]; exact .inr rfl
theorem srtT_lt {a b : Nat} (h : a ≠ b) : (srtT a b).1 < (srtT a b).2 := by
  show min a b < max a b
  omega
theorem srtT_inj {a b c d : Nat} (h : srtT a b = srtT c d) : (a = c ∧ b = d) ∨ (a = d ∧ b = c) := by
  have h1 : min a b = min c d := congrArg Prod.fst h
  have h2 : max a b = max c d := congrArg Prod.snd h
  omega
theorem srt_pair {x y : Nat} {ns : List Int} (hp : ns.Perm [(x : Int), (y : Int)]) (hs : ns.Pairwise (· ≤ ·)) : ns = [((srtT x y).1 : Int), ((srtT x y).2 : Int)] := by
  have hl := hp.length_eq
  match ns, hl with
  | [a, b], _ =>
    have hab : a ≤ b := List.rel_of_pairwise_cons hs List.mem_cons_self
    have ha : a ∈ [(x : Int), (y : Int)] := hp.mem_iff.1 List.mem_cons_self
    have key : (a = x ∧ b = y) ∨ (a = y ∧ b = x) := by
      rcases List.mem_cons.1 ha with e | ha
      · subst e
        have := List.perm_singleton.1 ((List.perm_cons _).1 hp)
        injection this with this
        exact .inl ⟨rfl, this⟩
      · have e := List.mem_singleton.1 ha
        subst e
        have := List.perm_singleton.1 ((List.perm_cons _).1 (hp.trans (List.Perm.swap _ _ _)))
        injection this with this
        exact .inr ⟨rfl, this⟩
    show [a, b] = [((min x y : Nat) : Int), ((max x y : Nat) : Int)]
    congr 1
    · omega
    · congr 1; omega
theorem perm_map_inv {α β : Type} {f : α → β} {l : List α} {m : List β} (h : m.Perm (l.map f)) : ∃ k : List α, k.Perm l ∧ m = k.map f := by
  generalize e : l.map f = m' at h
  induction h generalizing l with
  | nil => exact ⟨[], by rw [List.map_eq_nil_iff.1 e], rfl⟩
  | cons x _ ih =>
    cases l with
    | nil => cases e
    | cons a l =>
      rw [List.map_cons, List.cons.injEq] at e
      obtain ⟨k, hk, rfl⟩ := ih e.2
      exact ⟨a :: k, hk.cons a, by rw [List.map_cons, e.1]⟩
  | swap x y t =>
    match l, e with
    | a :: b :: l, e =>
      rw [List.map_cons, List.map_cons, List.cons.injEq, List.cons.injEq] at e
      exact ⟨b :: a :: l, List.Perm.swap _ _ _, by rw [List.map_cons, List.map_cons, e.1, e.2.1, e.2.2]⟩
  | trans _ _ i1 i2 =>
    obtain ⟨k, hk, rfl⟩ := i2 e
    obtain ⟨k', hk', rfl⟩ := i1 rfl
    exact ⟨k', hk'.trans hk, rfl⟩
theorem RTree.turned {N : Nat} {gs Bs : List (List Nat)} {ts us : List (Nat × Nat)} {root : Nat} {up rk : Nat → Nat} {o : List Nat} (h : RTree N gs Bs ts root up rk) (hp : o.Perm (List.range Bs.length)) (hu : us.Perm (ts.map fun t => srtT (o.getD t.1 0) (o.getD t.2 0))) :
    (∃ root up rk, RTree N gs ((List.range Bs.length).map fun k => bg Bs (o.idxOf k)) us root up rk) ∧ ∀ t ∈ us, t.1 < t.2 := by
  have tr := h.rt.tr
  have hol : o.length = Bs.length := by rw [hp.length_eq, List.length_range]
  have nd : o.Nodup := hp.nodup_iff.2 List.nodup_range
  have hmem : ∀ k, k ∈ o ↔ k < Bs.length := fun k => by rw [hp.mem_iff, List.mem_range]
  have gD : ∀ {i} (hi : i < Bs.length), o.getD i 0 = o[i]'(by omega) := fun {i} hi => by
    rw [List.getD_eq_getElem?_getD, List.getElem?_eq_getElem (by omega)]; rfl
  have hf : ∀ i, i < Bs.length → o.getD i 0 < Bs.length ∧ o.idxOf (o.getD i 0) = i := fun i hi => by
    rw [gD hi]
    exact ⟨(hmem _).1 (List.getElem_mem _), nd.idxOf_getElem i (by omega)⟩
  have hg : ∀ i, i < Bs.length → o.idxOf i < Bs.length ∧ o.getD (o.idxOf i) 0 = i := fun i hi => by
    have hlt : o.idxOf i < Bs.length := by rw [← hol]; exact List.idxOf_lt_length_iff.2 ((hmem i).2 hi)
    exact ⟨hlt, by rw [gD hlt]; exact List.getElem_idxOf _⟩
  have finj : ∀ {i j}, i < Bs.length → j < Bs.length → o.getD i 0 = o.getD j 0 → i = j := fun {i j} hi hj e => by
    rw [← (hf i hi).2, ← (hf j hj).2, e]
  have hlt : ∀ t ∈ ts, t.1 < Bs.length ∧ t.2 < Bs.length ∧ t.1 ≠ t.2 := fun t ht => tr.ed_lt (tr.ed_ts.2 (.inl ht) : Ed Bs.length root up t.1 t.2)
  have hul : ∀ t ∈ us, t.1 < t.2 := fun t ht => by
    obtain ⟨q, hq, rfl⟩ := List.mem_map.1 (hu.mem_iff.1 ht)
    obtain ⟨a, b, c⟩ := hlt q hq
    exact srtT_lt fun e => c (finj a b e)
  refine ⟨⟨_, _, _, h.turn (Cs := (List.range Bs.length).map fun k => bg Bs (o.idxOf k)) (f := fun i => o.getD i 0) (g := fun k => o.idxOf k) (by simp) hf hg (fun i hi => ?_) ?_ hul fun a b => ?_⟩, hul⟩
  · show ((List.range Bs.length).map fun k => bg Bs (o.idxOf k)).getD _ [] = _
    rw [List.getD_eq_getElem?_getD, List.getElem?_map, List.getElem?_range (hf i hi).1]
    show bg Bs (o.idxOf (o.getD i 0)) = _
    rw [(hf i hi).2]
  · rw [hu.nodup_iff]
    unfold List.Nodup
    rw [List.pairwise_map]
    refine List.Pairwise.imp_of_mem (fun {t q} ht hq ne e => ?_) tr.nd
    obtain ⟨a1, a2, _⟩ := hlt t ht
    obtain ⟨b1, b2, _⟩ := hlt q hq
    rcases srtT_inj e with ⟨e1, e2⟩ | ⟨e1, e2⟩
    · exact ne (Prod.ext (finj a1 b1 e1) (finj a2 b2 e2))
    · have z : t = (q.2, q.1) := Prod.ext (finj a1 b2 e1) (finj a2 b1 e2)
      rw [z] at ht
      exact tr.one q hq ht
  · have key : ∀ {a b : Nat}, (a, b) ∈ us → ∃ i j, ((i, j) ∈ ts ∨ (j, i) ∈ ts) ∧ a = o.getD i 0 ∧ b = o.getD j 0 := fun {a b} hm => by
      obtain ⟨q, hq, e⟩ := List.mem_map.1 (hu.mem_iff.1 hm)
      rcases srtT_or (o.getD q.1 0) (o.getD q.2 0) with z | z
      · rw [z] at e
        injection e with e1 e2
        exact ⟨q.1, q.2, .inl hq, e1.symm, e2.symm⟩
      · rw [z] at e
        injection e with e1 e2
        exact ⟨q.2, q.1, .inr hq, e1.symm, e2.symm⟩
    have key2 : ∀ {i j : Nat}, (i, j) ∈ ts → (o.getD i 0, o.getD j 0) ∈ us ∨ (o.getD j 0, o.getD i 0) ∈ us := fun {i j} hm => by
      have : srtT (o.getD i 0) (o.getD j 0) ∈ us := hu.mem_iff.2 (List.mem_map.2 ⟨(i, j), hm, rfl⟩)
      rcases srtT_or (o.getD i 0) (o.getD j 0) with z | z
      · exact .inl (z ▸ this)
      · exact .inr (z ▸ this)
    constructor
    · rintro (hm | hm)
      · exact key hm
      · obtain ⟨i, j, h1, h2, h3⟩ := key hm
        exact ⟨j, i, h1.symm, h3, h2⟩
    · rintro ⟨i, j, h1 | h1, rfl, rfl⟩
      · exact key2 h1
      · exact (key2 h1).symm
end LS
namespace LS
open PySem L2 HD PM
def TrSt (S : List Nat) (ps : List Part) (Bs : List (List Nat)) (ts : List (Nat × Nat)) : Prop := ∃ root up rk, RTree S.length (gsOf ps) Bs ts root up rk
def sp_law_gtree : DSpec := fun args Q _ => ∃ (n : Nat) (a : Addr) (ds : List D) (S : List Nat) (ps : List Part), args = [.lst a ds, .ext (dSh S ps)] ∧ JarOk n ds ∧ n + 300 < 4294967296 ∧ NsOk S ps ∧ 0 < S.length ∧ S.length ≤ 12 ∧ ps.length ≤ 40 ∧ (∀ p ∈ ps, p.ns.length ≤ 12) ∧
  ∀ Bs ts ds' fin, TrSt S ps Bs ts → Bs.length ≤ S.length + 2 → (∀ t ∈ ts, t.1 < t.2) → JarOk (n + 300) ds' → Q (.ext (dTree Bs ts)) (.lst a ds' :: fin)
def e1_law_gtree : DT :=
    (dVar 7)
def b2_law_gtree : DTS :=
    (sSeq (sSetE 6 (dLc (dRange2 (dCons (dOp fAdd (dVar 5) (dC (.int 1))) (dCons (dCB fLen (dCons (dVar 2) dNil)) dNil))) (gSet 7) (dTest (dOp (fIn false) (dOp fIx (dVar 2) (dVar 7)) (dOp fIx (dVar 3) (dVar 5)))) e1_law_gtree [7]))
    (sDrop (dAppend 4 (dTup (dCons (dVar 5) (dCons (dOp fIx (dOp fAdd (dVar 6) (dLst (dCons (dOp fAdd (dVar 5) (dC (.int 1))) dNil))) (dC (.int 0))) dNil))))))
def e3_law_gtree : DT :=
    (dVar 10)
def b4_law_gtree : DTS :=
    (sSeq (sSetE 9 (dCallJ sp_law_gdraw 0 (dCons (dCB fLen (dCons (dVar 3) dNil)) dNil)))
    (sSeq (sDrop (dAppend 4 (dTup (dCons (dVar 9) (dCons (dCB fLen (dCons (dVar 3) dNil)) dNil)))))
    (sDrop (dAppend 3 (dCB fTuple (dCons (dLc (dSeq (dOp fIx (dVar 3) (dVar 9))) (gSet 10) (dTest (dOp fEq (dCallJ sp_law_gdraw 0 (dCons (dC (.int 2)) dNil)) (dC (.int 0)))) e3_law_gtree [10]) dNil))))))
def e5_law_gtree : DT :=
    (dOp fIx (dVar 3) (dIndex (dVar 12) (dVar 5)))
def e6_law_gtree : DT :=
    (dCB fTuple (dCons (dCB fSortT (dCons (dTup (dCons (dOp fIx (dVar 12) (dVar 11)) (dCons (dOp fIx (dVar 12) (dVar 7)) dNil))) dNil)) dNil))
def k7_law_gtree : DTS :=
    (sSeq (sSetE 12 (dCallJ sp_law_gorder 0 (dCons (dCB fLen (dCons (dVar 3) dNil)) dNil)))
    (sSeq (sSetE 13 (dCB fTuple (dCons (dLc (dRange1 (dCons (dCB fLen (dCons (dVar 3) dNil)) dNil)) (gSet 5) dYes e5_law_gtree [5]) dNil)))
    (sRet (dTup (dCons (dVar 13) (dCons (dCB fTuple (dCons (dCB fSortD (dCons (dLc (dSeq (dVar 4)) (gTupD 2 (gsCons (gSet 11) (gsCons (gSet 7) gsNil))) dYes e6_law_gtree [11, 7]) dNil)) dNil)) dNil))))))
def k8_law_gtree : DTS :=
    (sSeq (sIf (dAnd (dTest (dOp fNe (dVar 4) (dLst dNil))) (dTest (dOp fEq (dCallJ sp_law_gdraw 0 (dCons (dC (.int 2)) dNil)) (dC (.int 0))))) (sSeq (sAsg (dOp fIx (dVar 4) (dCallJ sp_law_gdraw 0 (dCons (dCB fLen (dCons (dVar 4) dNil)) dNil))) (gTupD 2 (gsCons (gSet 11) (gsCons (gSet 7) gsNil))))
    (sSetItem 3 (dVar 11) (dCB fTuple (dCons (dSortSet (dOp fAdd (dOp fIx (dVar 3) (dVar 11)) (dSl (dOp fIx (dVar 3) (dVar 7)) dNoPart (dPart (dC (.int 1)))))) dNil)))) sNext)
    k7_law_gtree)
def k9_law_gtree : DTS :=
    (sSeq (sFor (dRange1 (dCons (dCallJ sp_law_gdraw 0 (dCons (dC (.int 3)) dNil)) dNil)) (gSet 8) b4_law_gtree)
    k8_law_gtree)
def t_law_gtree : DTS :=
    (sSeq (sSetE 2 (dCallJ sp_law_gorder 0 (dCons (dCB fLen (dCons (dOp fIx (dVar 1) (dC (.int 0))) dNil)) dNil)))
    (sSeq (sSet 3 (dCall sp_law_gbags (dCons (dVar 1) (dCons (dVar 2) dNil))))
    (sSeq (sSet 4 (dLst dNil))
    (sSeq (sFor (dRange1 (dCons (dOp fSub (dCB fLen (dCons (dVar 2) dNil)) (dC (.int 1))) dNil)) (gSet 5) b2_law_gtree)
    k9_law_gtree))))
theorem py_tie (t : Nat × Nat) : (tieD t).py = .tuple [.int (t.1 : Nat), .int (t.2 : Nat)] := rfl
theorem srt_ties (ts : List (Nat × Nat)) : SrtD (ts.map tieD) := by
  refine ⟨?_, fun d hd => ?_, fun x hx y hy => ?_, fun d hd => ?_⟩
  · induction ts with
    | nil => rfl
    | cons t ts ih => exact ih
  · obtain ⟨t, _, rfl⟩ := List.mem_map.1 hd
    exact ⟨_, _, py_tie t⟩
  · obtain ⟨d, hd, rfl⟩ := pys_mem' hx
    obtain ⟨t, _, rfl⟩ := List.mem_map.1 hd
    obtain ⟨e, he, rfl⟩ := pys_mem' hy
    obtain ⟨q, _, rfl⟩ := List.mem_map.1 he
    rfl
  · obtain ⟨t, _, rfl⟩ := List.mem_map.1 hd
    rw [py_tie]
    show max 0 (max 0 0) + 1 ≤ 50
    decide
theorem getD_bg {Bs : List (List Nat)} {k : Nat} (h : k < Bs.length) : (fD Bs)[k]? = some (D.tup (nD (bg Bs k))) := by
  show (Bs.map fun B => D.tup (nD B))[k]? = some (D.tup (nD (Bs.getD k [])))
  rw [List.getElem?_map, List.getElem?_eq_getElem h, List.getD_eq_getElem?_getD, List.getElem?_eq_getElem h]
  rfl
theorem pi_tie (k : Nat) (t : Nat × Nat) : D.pi (k + 1) (tieD t) = true := by
  unfold tieD
  rw [D.pi]
  exact pi_nats k [t.1, t.2]
theorem cmp_ties (ts : List (Nat × Nat)) : (D.lst (ts.map tieD)).cmp := pi_cmp (k := 2) (by decide) (by
  rw [D.pi, List.all_eq_true]
  intro d hd
  obtain ⟨t, _, rfl⟩ := List.mem_map.1 hd
  exact pi_tie 0 t)
theorem eqv_tiesnil (t : Nat × Nat) (ts : List (Nat × Nat)) : D.eqv (.lst ((t :: ts).map tieD)) (.lst []) = false := by rfl
theorem cutt_1 (l : List Nat) : cutD (nD l) none (some 1) = nD (l.take 1) := by
  cases l <;> rfl
theorem TrSt.lt {S : List Nat} {ps : List Part} {Bs : List (List Nat)} {ts : List (Nat × Nat)} (h : TrSt S ps Bs ts) : ∀ t ∈ ts, t.1 < Bs.length ∧ t.2 < Bs.length := fun t ht => by
  obtain ⟨root, up, rk, hR⟩ := h
  have := hR.rt.tr.ed_lt (hR.rt.tr.ed_ts.2 (.inl ht) : PM.Tr.Ed Bs.length root up t.1 t.2)
  exact ⟨this.1, this.2.1⟩
theorem TrSt.bag {S : List Nat} {ps : List Part} {Bs : List (List Nat)} {ts : List (Nat × Nat)} (h : TrSt S ps Bs ts) (k : Nat) : Rising (bg Bs k) ∧ (∀ m ∈ bg Bs k, m < S.length) ∧ (bg Bs k).length ≤ S.length := by
  obtain ⟨root, up, rk, hR⟩ := h
  have h1 := hR.rt.rise k
  have h2 : ∀ m ∈ bg Bs k, m < S.length := fun m hm => hR.rt.lt hm
  refine ⟨h1, h2, ?_⟩
  have := nd_sub_len (b := List.range S.length) (h1.imp fun h => Nat.ne_of_lt h) fun x hx => List.mem_range.2 (h2 x hx)
  rwa [List.length_range] at this
theorem TrSt.widen {S : List Nat} {ps : List Part} {Bs : List (List Nat)} {ts : List (Nat × Nat)} {t : Nat × Nat} {C : List Nat} (h : TrSt S ps Bs ts) (ht : t ∈ ts) (hr : Rising C) (hC : ∀ n, n ∈ C ↔ n ∈ bg Bs t.1 ++ (bg Bs t.2).take 1) : TrSt S ps (Bs.set t.1 C) ts := by
  obtain ⟨root, up, rk, hR⟩ := h
  exact ⟨root, up, rk, hR.widen (hR.rt.tr.ed_ts.2 (.inl ht)) hr (fun n hn => (hC n).2 (List.mem_append_left _ hn)) fun n hn => (List.mem_append.1 ((hC n).1 hn)).imp id List.mem_of_mem_take⟩
theorem fD_set (Bs : List (List Nat)) (i : Nat) (C : List Nat) : (fD Bs).set i (D.tup (nD C)) = fD (Bs.set i C) := (List.map_set ..).symm
theorem TrSt.hang {S : List Nat} {ps : List Part} {Bs : List (List Nat)} {ts : List (Nat × Nat)} {k : Nat} {C : List Nat} (h : TrSt S ps Bs ts) (hk : k < Bs.length) (hC : C.Sublist (bg Bs k)) : TrSt S ps (Bs ++ [C]) (ts ++ [(k, Bs.length)]) := by
  obtain ⟨root, up, rk, hR⟩ := h
  exact ⟨_, _, _, hR.hang hk ((hR.rt.rise k).sublist hC) fun n hn => hC.subset hn⟩
end LS
namespace LS
open PM PM.Tr
section
variable {N : Nat} {gs Bs Cs : List (List Nat)} {ts us : List (Nat × Nat)} {root one other : Nat} {up rk : Nat → Nat} {C : List Nat}
def twN (one other i : Nat) : Nat := if i = other then one else if other < i then i - 1 else i
def frN (other x : Nat) : Nat := if x < other then x else x + 1
theorem RTree.contract (h : RTree N gs Bs ts root up rk) (e : Ed Bs.length root up one other) (lt : one < other) (hl : Cs.length + 1 = Bs.length) (hr : Rising C) (hC : ∀ n, n ∈ C ↔ n ∈ bg Bs one ∨ n ∈ bg Bs other)
    (hb : ∀ x, x < Cs.length → bg Cs x = if x = one then C else bg Bs (frN other x)) {l1 l2 : List (Nat × Nat)} {t : Nat × Nat} (ht : ts = l1 ++ t :: l2) (htt : t = (one, other) ∨ t = (other, one)) (hu : us = (l1 ++ l2).map fun q => (twN one other q.1, twN one other q.2)) :
    ∃ root' up' rk', RTree N gs Cs us root' up' rk' := by
  have tr := h.rt.tr
  obtain ⟨l1', l2', _⟩ := tr.ed_lt e
  -- the lower and the upper one
  obtain ⟨lo, hi, hlh, lolt, lort, uplo⟩ : ∃ lo hi, ((lo = other ∧ hi = one) ∨ (lo = one ∧ hi = other)) ∧ lo < Bs.length ∧ lo ≠ root ∧ up lo = hi := by
    rcases e with ⟨a, b, c⟩ | ⟨a, b, c⟩
    · exact ⟨one, other, .inr ⟨rfl, rfl⟩, a, b, c⟩
    · exact ⟨other, one, .inl ⟨rfl, rfl⟩, a, b, c⟩
  have rlo := (tr.hup lo lolt lort).2
  rw [uplo] at rlo
  have hilt : hi < Bs.length := by rcases hlh with ⟨_, b⟩ | ⟨_, b⟩ <;> rw [b] <;> assumption
  have nelh : lo ≠ hi := fun z => by rw [z] at rlo; omega
  let h' : Nat → Nat := fun x => if x = one then hi else frN other x
  let tw := twN one other
  have tw_lt : ∀ i, i < Bs.length → tw i < Cs.length := fun i hi' => by
    simp only [tw, twN]
    split
    · omega
    · split <;> omega
  have twlo : tw lo = one := by
    rcases hlh with ⟨a, _⟩ | ⟨a, _⟩
    · simp only [tw, twN, a, if_true]
    · simp only [tw, twN, a]
      rw [if_neg (by omega), if_neg (by omega)]
  have twhi : tw hi = one := by
    rcases hlh with ⟨_, a⟩ | ⟨_, a⟩
    · simp only [tw, twN, a]
      rw [if_neg (by omega), if_neg (by omega)]
    · simp only [tw, twN, a, if_true]
  have tw_one : ∀ i, tw i = one → i = one ∨ i = other := fun i q => by
    simp only [tw, twN] at q
    split at q
    · exact .inr (by assumption)
    · split at q
      · omega
      · exact .inl q
  have h_tw : ∀ i, i ≠ lo → h' (tw i) = i := fun i ne => by
    by_cases q : i = hi
    · rw [q, twhi]
      simp only [h', if_true]
    · have i1 : i ≠ one := fun z => by
        rcases hlh with ⟨a, b⟩ | ⟨a, b⟩
        · exact q (z.trans b.symm)
        · exact ne (z.trans a.symm)
      have i2 : i ≠ other := fun z => by
        rcases hlh with ⟨a, b⟩ | ⟨a, b⟩
        · exact ne (z.trans a.symm)
        · exact q (z.trans b.symm)
      have t1 : tw i ≠ one := fun z => (tw_one i z).elim i1 i2
      simp only [h']
      rw [if_neg t1]
      simp only [tw, twN, frN] at t1 ⊢
      rw [if_neg i2] at t1 ⊢
      split
      · rw [if_neg (by omega)]; omega
      · rw [if_pos (by omega)]
  have h_lt : ∀ x, x < Cs.length → h' x < Bs.length ∧ h' x ≠ lo ∧ tw (h' x) = x := fun x hx => by
    by_cases q : x = one
    · rw [q]
      refine ⟨?_, ?_, ?_⟩
      · simp only [h', if_true]; exact hilt
      · simp only [h', if_true]; exact Ne.symm nelh
      · simp only [h', if_true]; exact twhi
    · have f1 : h' x = frN other x := by simp only [h']; rw [if_neg q]
      have f2 : frN other x ≠ other := by unfold frN; split <;> omega
      have f3 : frN other x ≠ one := by unfold frN; split <;> omega
      rw [f1]
      refine ⟨by unfold frN; split <;> omega, fun z => ?_, ?_⟩
      · rcases hlh with ⟨a, _⟩ | ⟨a, _⟩
        · exact f2 (z.trans a)
        · exact f3 (z.trans a)
      · simp only [tw, twN]
        rw [if_neg f2]
        unfold frN
        split
        · rw [if_neg (by omega)]
        · rw [if_pos (by omega)]; omega
  have h_root : h' (tw root) = root := h_tw root (Ne.symm lort)
  have mono : ∀ i n, i < Bs.length → n ∈ bg Bs i → n ∈ bg Cs (tw i) := fun i n hi' hn => by
    rw [hb _ (tw_lt i hi')]
    split
    · rename_i q
      rcases tw_one i q with z | z
      · exact (hC n).2 (.inl (z ▸ hn))
      · exact (hC n).2 (.inr (z ▸ hn))
    · rename_i q
      have nl : i ≠ lo := fun z => q (by rw [z, twlo])
      have := h_tw i nl
      simp only [h'] at this
      rw [if_neg q] at this
      rw [this]
      exact hn
  have mem_us : ∀ a b, (a, b) ∈ us ↔ ∃ i j, (i, j) ∈ l1 ++ l2 ∧ a = tw i ∧ b = tw j := fun a b => by
    rw [hu, List.mem_map]
    constructor
    · rintro ⟨⟨i, j⟩, hq, eq'⟩
      exact ⟨i, j, hq, (congrArg Prod.fst eq').symm, (congrArg Prod.snd eq').symm⟩
    · rintro ⟨i, j, hq, rfl, rfl⟩
      exact ⟨(i, j), hq, rfl⟩
  have mem_ts : ∀ q, q ∈ ts ↔ q = t ∨ q ∈ l1 ++ l2 := fun q => by
    rw [ht, List.mem_append, List.mem_cons, List.mem_append]
    constructor
    · rintro (z | z | z)
      · exact .inr (.inl z)
      · exact .inl z
      · exact .inr (.inr z)
    · rintro (z | z | z)
      · exact .inr (.inl z)
      · exact .inl z
      · exact .inr (.inr z)
  have t_out : t ∉ l1 ++ l2 := fun z => by
    have nd := tr.nd
    rw [ht] at nd
    obtain ⟨n1, n2, n3⟩ := List.nodup_append.1 nd
    rcases List.mem_append.1 z with z | z
    · exact n3 t z t List.mem_cons_self rfl
    · exact (List.nodup_cons.1 n2).1 z
  have tm : t ∈ ts := (mem_ts t).2 (.inl rfl)
  -- an edge but the one that is gone: its lower end is not lo
  have low : ∀ i j, ((i, j) ∈ l1 ++ l2 ∨ (j, i) ∈ l1 ++ l2) → i < Bs.length → i ≠ root → up i = j → i ≠ lo := fun i j hij hi' hr' hup z => by
    have ej : j = hi := by rw [← hup, z, uplo]
    rw [z, ej] at hij
    have rev : (t.2, t.1) ∉ ts := tr.one t tm
    have both : (lo, hi) = t ∨ (hi, lo) = t := by
      rcases hlh with ⟨a, b⟩ | ⟨a, b⟩ <;> rcases htt with c | c <;> rw [a, b, c]
      · exact .inr rfl
      · exact .inl rfl
      · exact .inl rfl
      · exact .inr rfl
    rcases both with c | c
    · rcases hij with z | z
      · rw [c] at z; exact t_out z
      · refine rev ?_
        rw [← c]
        exact (mem_ts _).2 (.inr z)
    · rcases hij with z | z
      · refine rev ?_
        rw [← c]
        exact (mem_ts _).2 (.inr z)
      · rw [c] at z; exact t_out z
  have lower : ∀ i j, (i, j) ∈ l1 ++ l2 → (i < Bs.length ∧ i ≠ root ∧ up i = j ∧ i ≠ lo) ∨ (j < Bs.length ∧ j ≠ root ∧ up j = i ∧ j ≠ lo) := fun i j hij => by
    rcases (tr.ed i j).1 (.inl ((mem_ts _).2 (.inr hij))) with ⟨a, b, c⟩ | ⟨a, b, c⟩
    · exact .inl ⟨a, b, c, low i j (.inl hij) a b c⟩
    · exact .inr ⟨a, b, c, low j i (.inr hij) a b c⟩
  have rk_up : ∀ i, i < Bs.length → i ≠ root → i ≠ lo → rk (h' (tw (up i))) < rk i := fun i h1 h2 h3 => by
    have z := tr.hup i h1 h2
    by_cases q : up i = lo
    · rw [q, twlo]
      have : h' one = hi := by simp only [h', if_true]
      rw [this]
      rw [q] at z
      omega
    · rw [h_tw _ q]
      exact z.2
  -- ties that tell the same are the same
  have inj : ∀ p q : Nat × Nat, p ∈ l1 ++ l2 → q ∈ l1 ++ l2 → ((tw p.1 = tw q.1 ∧ tw p.2 = tw q.2) ∨ (tw p.1 = tw q.2 ∧ tw p.2 = tw q.1)) → p = q ∨ (p.1, p.2) = (q.2, q.1) := fun p q hp hq hpq => by
    have core : ∀ i j k l, i < Bs.length → i ≠ root → up i = j → i ≠ lo → k < Bs.length → k ≠ root → up k = l → k ≠ lo → tw i = tw k ∧ tw j = tw l ∨ tw i = tw l ∧ tw j = tw k → i = k ∧ j = l := fun i j k l a1 a2 a3 a4 b1 b2 b3 b4 hc => by
      rcases hc with ⟨c1, c2⟩ | ⟨c1, c2⟩
      · have : i = k := by
          have := congrArg h' c1
          rwa [h_tw i a4, h_tw k b4] at this
        exact ⟨this, by rw [← a3, ← b3, this]⟩
      · exfalso
        have z1 := rk_up i a1 a2 a4
        have z2 := rk_up k b1 b2 b4
        rw [a3, c2, h_tw k b4] at z1
        rw [b3, ← c1, h_tw i a4] at z2
        omega
    obtain ⟨p1, p2⟩ := p
    obtain ⟨q1, q2⟩ := q
    simp only at hpq ⊢
    rcases lower p1 p2 hp with ⟨a1, a2, a3, a4⟩ | ⟨a1, a2, a3, a4⟩ <;> rcases lower q1 q2 hq with ⟨b1, b2, b3, b4⟩ | ⟨b1, b2, b3, b4⟩
    · obtain ⟨c1, c2⟩ := core p1 p2 q1 q2 a1 a2 a3 a4 b1 b2 b3 b4 hpq
      exact .inl (by rw [c1, c2])
    · obtain ⟨c1, c2⟩ := core p1 p2 q2 q1 a1 a2 a3 a4 b1 b2 b3 b4 hpq.symm
      exact .inr (by rw [c1, c2])
    · obtain ⟨c1, c2⟩ := core p2 p1 q1 q2 a1 a2 a3 a4 b1 b2 b3 b4 (hpq.elim (fun z => .inr ⟨z.2, z.1⟩) fun z => .inl ⟨z.2, z.1⟩)
      exact .inr (by rw [c1, c2])
    · obtain ⟨c1, c2⟩ := core p2 p1 q2 q1 a1 a2 a3 a4 b1 b2 b3 b4 (hpq.elim (fun z => .inl ⟨z.2, z.1⟩) fun z => .inr ⟨z.2, z.1⟩)
      exact .inl (by rw [c1, c2])
  refine ⟨tw root, fun x => tw (up (h' x)), fun x => rk (h' x), ⟨⟨⟨tw_lt root tr.rt, fun x hx hr' => ?_, fun a b => ?_, ?_, fun u hu' z => ?_⟩, fun B hB => ?_, fun n => ?_⟩, fun ns hns => ?_, fun n hn => ?_⟩⟩
  · obtain ⟨x1, x2, x3⟩ := h_lt x hx
    have xr : h' x ≠ root := fun z => hr' (by rw [← z, x3])
    exact ⟨tw_lt _ (tr.hup _ x1 xr).1, rk_up _ x1 xr x2⟩
  · have one_way : ∀ i j, i < Bs.length → i ≠ root → up i = j → i ≠ lo → tw i < Cs.length ∧ tw i ≠ tw root ∧ tw (up (h' (tw i))) = tw j := fun i j h1 h2 h3 h4 => by
      refine ⟨tw_lt i h1, fun z => h2 ?_, by rw [h_tw i h4, h3]⟩
      have := congrArg h' z
      rwa [h_tw i h4, h_root] at this
    have back : ∀ a b, a < Cs.length → a ≠ tw root → tw (up (h' a)) = b → ∃ i j, ((i, j) ∈ l1 ++ l2 ∨ (j, i) ∈ l1 ++ l2) ∧ a = tw i ∧ b = tw j := fun a b h1 h2 h3 => by
      obtain ⟨x1, x2, x3⟩ := h_lt a h1
      have xr : h' a ≠ root := fun z => h2 (by rw [← z, x3])
      refine ⟨h' a, up (h' a), ?_, x3.symm, h3.symm⟩
      have ne : ∀ q : Nat × Nat, (q = (h' a, up (h' a)) ∨ q = (up (h' a), h' a)) → q ≠ t := fun q hq z => by
        have : h' a = lo := by
          rcases hq with hq | hq <;> rw [z] at hq <;> rcases htt with c | c <;> rw [c] at hq <;> have q1 := congrArg Prod.fst hq <;> have q2 := congrArg Prod.snd hq <;> simp only at q1 q2 <;> rcases hlh with ⟨a1, a2⟩ | ⟨a1, a2⟩
          · exfalso
            have z1 := (tr.hup _ x1 xr).2
            first
              | (rw [← q2, ← q1, ← a1, ← a2] at z1; omega)
              | (rw [← q1, ← q2, ← a1, ← a2] at z1; omega)
          · rw [a1, q1]
          · rw [a1, q1]
          · exfalso
            have z1 := (tr.hup _ x1 xr).2
            first
              | (rw [← q2, ← q1, ← a1, ← a2] at z1; omega)
              | (rw [← q1, ← q2, ← a1, ← a2] at z1; omega)
          · rw [a1, q2]
          · exfalso
            have z1 := (tr.hup _ x1 xr).2
            first
              | (rw [← q2, ← q1, ← a1, ← a2] at z1; omega)
              | (rw [← q1, ← q2, ← a1, ← a2] at z1; omega)
          · exfalso
            have z1 := (tr.hup _ x1 xr).2
            first
              | (rw [← q2, ← q1, ← a1, ← a2] at z1; omega)
              | (rw [← q1, ← q2, ← a1, ← a2] at z1; omega)
          · rw [a1, q2]
        exact x2 this
      rcases (tr.ed (h' a) (up (h' a))).2 (.inl ⟨x1, xr, rfl⟩) with z | z
      · exact .inl (((mem_ts _).1 z).resolve_left (ne _ (.inl rfl)))
      · exact .inr (((mem_ts _).1 z).resolve_left (ne _ (.inr rfl)))
    rw [mem_us, mem_us]
    constructor
    · rintro (⟨i, j, hij, rfl, rfl⟩ | ⟨i, j, hij, rfl, rfl⟩)
      · rcases lower i j hij with ⟨a, b, c, d⟩ | ⟨a, b, c, d⟩
        · exact .inl (one_way i j a b c d)
        · exact .inr (one_way j i a b c d)
      · rcases lower i j hij with ⟨a, b, c, d⟩ | ⟨a, b, c, d⟩
        · exact .inr (one_way i j a b c d)
        · exact .inl (one_way j i a b c d)
    · rintro (⟨h1, h2, h3⟩ | ⟨h1, h2, h3⟩)
      · obtain ⟨i, j, z | z, p, q⟩ := back a b h1 h2 h3
        · exact .inl ⟨i, j, z, p, q⟩
        · exact .inr ⟨j, i, z, q, p⟩
      · obtain ⟨i, j, z | z, p, q⟩ := back b a h1 h2 h3
        · exact .inr ⟨i, j, z, p, q⟩
        · exact .inl ⟨j, i, z, q, p⟩
  · -- no two of the ties have become one
    rw [hu]
    refine List.pairwise_map.2 (List.Pairwise.imp_of_mem ?_ (show (l1 ++ l2).Nodup from ?_))
    · intro p q hp hq ne hpq
      have := inj p q hp hq (.inl ⟨congrArg Prod.fst hpq, congrArg Prod.snd hpq⟩)
      rcases this with z | z
      · exact ne z
      · refine tr.one q ((mem_ts _).2 (.inr hq)) ?_
        rw [← z]
        exact (mem_ts _).2 (.inr hp)
    · have nd := tr.nd
      rw [ht] at nd
      obtain ⟨n1, n2, n3⟩ := List.nodup_append.1 nd
      exact List.nodup_append.2 ⟨n1, (List.nodup_cons.1 n2).2, fun a ha b hb => n3 a ha b (List.mem_cons_of_mem _ hb)⟩
  · obtain ⟨i, j, hij, e1, e2⟩ := (mem_us u.1 u.2).1 hu'
    obtain ⟨k, l, hkl, e3, e4⟩ := (mem_us u.2 u.1).1 z
    rcases inj (i, j) (k, l) hij hkl (.inr ⟨by rw [← e1, e4], by rw [← e2, e3]⟩) with q | q
    · -- a tie with equal ends
      have q1 := congrArg Prod.fst q
      have q2 := congrArg Prod.snd q
      simp only at q1 q2
      rw [← q1] at e3
      rw [← q2] at e4
      rcases lower i j hij with ⟨a, b, c, d⟩ | ⟨a, b, c, d⟩
      · have z1 := rk_up i a b d
        rw [c, ← e2, e3, h_tw i d] at z1
        omega
      · have z1 := rk_up j a b d
        rw [c, ← e1, e4, h_tw j d] at z1
        omega
    · refine tr.one (k, l) ((mem_ts _).2 (.inr hkl)) ?_
      have q1 := congrArg Prod.fst q
      have q2 := congrArg Prod.snd q
      simp only at q1 q2
      have : (i, j) = (l, k) := by rw [q1, q2]
      rw [← this]
      exact (mem_ts _).2 (.inr hij)
  · obtain ⟨k, hk, rfl⟩ := List.getElem_of_mem hB
    have e1 : bg Cs k = Cs[k] := by
      show Cs.getD k [] = _
      rw [List.getD_eq_getElem?_getD, List.getElem?_eq_getElem hk]; rfl
    rw [← e1, hb k hk]
    split
    · exact ⟨hr, fun n hn => ((hC n).1 hn).elim h.rt.lt h.rt.lt⟩
    · exact ⟨h.rt.rise _, fun n hn => h.rt.lt hn⟩
  · obtain ⟨top, htop⟩ := h.rt.rip n
    -- upward from a bag that has n
    have upw : ∀ i, i < Bs.length → n ∈ bg Bs i → i ≠ lo → tw i = tw top ∨ (i ≠ root ∧ n ∈ bg Cs (tw (up i))) := fun i hi' hn hne => by
      rcases htop i hi' hn with z | ⟨z1, z2⟩
      · exact .inl (by rw [z])
      · exact .inr ⟨z1, mono _ _ (tr.hup i hi' z1).1 z2⟩
    refine ⟨tw top, fun b hb' hnb => ?_⟩
    obtain ⟨x1, x2, x3⟩ := h_lt b hb'
    have fin : n ∈ bg Bs (h' b) → b = tw top ∨ (b ≠ tw root ∧ n ∈ bg Cs (tw (up (h' b)))) := fun hn => by
      rcases upw _ x1 hn x2 with z | ⟨z1, z2⟩
      · exact .inl (by rw [← z, x3])
      · refine .inr ⟨fun q => z1 ?_, z2⟩
        have := congrArg h' q
        rwa [h_root] at this
    rw [hb b hb'] at hnb
    split at hnb
    · rename_i q
      have hh : h' b = hi := by simp only [h']; rw [if_pos q]
      have inhi : n ∈ bg Bs hi ∨ n ∈ bg Bs lo := by
        rcases (hC n).1 hnb with z | z <;> rcases hlh with ⟨a1, a2⟩ | ⟨a1, a2⟩ <;> rw [a1, a2]
        · exact .inl z
        · exact .inr z
        · exact .inr z
        · exact .inl z
      rcases inhi with z | z
      · exact fin (by rw [hh]; exact z)
      · rcases htop lo lolt z with y | ⟨_, y⟩
        · exact .inl (by rw [← y, twlo, q])
        · rw [uplo] at y
          exact fin (by rw [hh]; exact y)
    · rename_i q
      refine fin ?_
      simp only [h']
      rw [if_neg q]
      exact hnb
  · obtain ⟨k, hk, hn⟩ := h.part ns hns
    exact ⟨tw k, tw_lt k hk, fun n hn' => mono k n hk (hn n hn')⟩
  · obtain ⟨k, hk, hn⟩ := h.name n hn
    exact ⟨tw k, tw_lt k hk, mono k n hk hn⟩
end
end LS
namespace HD
open PySem PyProof.Rows L2
def fInD (neg : Bool) : D → D → (Sl → Prop) → Prop
  | d, .lst ds, Q => d.cmp ∧ (D.lst ds).cmp ∧ d.py.depth ≤ 60 ∧ Q (.ext (.bl (neg != ds.any fun z => D.eqv z d)))
  | d, .tup ds, Q => d.cmp ∧ (D.tup ds).cmp ∧ d.py.depth ≤ 60 ∧ Q (.ext (.bl (neg != ds.any fun z => D.eqv z d)))
  | _, _, _ => False
end HD
namespace HD
open PySem PyProof.Rows L2
section
variable {G : GG} {N : List Str} {sc : SC} {tpos : Pos}
def gLstD (n : Nat) (t : DTGs) : DTG := fun d env Q => match d with
  | .lst ds => ds.length = n ∧ t ds env Q
  | _ => False
theorem dg_lst {es : List Expr} {kk : Nat} {vs : List Nat} {t : DTGs} {n : Nat} (h : DGs G N sc es vs t) (hn : ∀ env, (assignEach es env).length = n := by intro _; rfl) (hst : ∀ env, (assignEach es env).findIdx? (·.1) = none := by intro _; rfl) : DG G N sc (.Tuple es kk tpos) vs (gLstD n t) := by
  obtain ⟨g, p1, i1⟩ := h.ex
  refine ⟨gUnl G.K n g, fun W k X S => ?_, fun en env T F σ H v d Q R hh rd ht hR => ?_⟩
  · rw [← S.K]
    exact pg_unl S.calm (p1 W k X S) (hn _) (hst _)
  · cases d with
    | lst ds =>
      obtain ⟨a, xs, rfl, hs, hr⟩ := rd
      obtain ⟨hl, ht⟩ := ht
      exact ⟨a, xs, rfl, SqL.of (hh.fh _ _ hs), by rw [← hr.length]; exact hl, i1 en env T F σ H xs ds Q R hh hr ht hR⟩
    | _ => exact ht.elim
end
end HD
namespace LS
open PM PM.Tr Classical
abbrev NP := Nat × Nat
def pLe (a b : NP) : Prop := a.1 < b.1 ∨ (a.1 = b.1 ∧ a.2 ≤ b.2)
end LS
namespace LS
namespace V2
open PySem L2 HD PM
local macro_rules | `(tactic| and_intros) => `(tactic| try simp -dsimp only [↓sIf, ↓sRet, ↓retD_ext, ↓retD_lst, ↓retD_al, ↓sSet, ↓sSetE, ↓sAsg, ↓sDrop, ↓sNext, ↓sFor, ↓sRetN, ↓sCont, ↓sBreak, ↓dTest, ↓dOp, ↓dC, ↓dCons, ↓dNil, ↓dTup, ↓dLst, ↓frzDs, ↓frzD_ext, ↓frzD_lst, ↓frzD_al, ↓wd_ext, ↓wd_lst, ↓wd_al, ↓wds, ↓AtS_ext, ↓AtS_lst, ↓AtL, ↓fAdd, ↓fSub, ↓fMul, ↓fDiv, ↓fMod, ↓fPow, ↓fCmp, ↓fIn, ↓fEq_ii, ↓fEq_ss, ↓fEq_bb, ↓fEq_tt, ↓fEq_ll, ↓fNe_ii, ↓fNe_ss, ↓fNe_bb, ↓fNe_tt, ↓fNe_ll, ↓fIx_l, ↓fIx_t, ↓fIx_k, ↓fIx_f, ↓GetS_some, ↓NatS_some, ↓fSl, ↓fIsN, ↓fNotN, ↓D.knN, ↓dNot, ↓dAnd, ↓dOr, ↓dAndV_w, ↓dOrV_w, ↓dNotV, ↓dIf, ↓dNeg, ↓dChain_w, ↓BlS_bl, ↓dCall_w, ↓dCallJ_w, ↓anyAl, ↓frozs, ↓froz, ↓gSet, ↓gTupD, ↓gsCons, ↓gsNil, ↓dSeq, ↓seqD_tup, ↓seqD_elst, ↓seqD_lst, ↓seqD_al, ↓dRange1, ↓dRange2, ↓dZip, ↓dCB, ↓dLc, ↓dYes, ↓dNoPart, ↓dPart, ↓dSl, ↓fLen, ↓fMin, ↓fMax, ↓fSum, ↓fAll, ↓fAny, ↓fSorted, ↓fTuple, ↓fList, ↓dRg1, ↓dRg2, ↓dLstRg, ↓dTupRg, ↓dIndex, ↓fIdx, ↓dAppend_w, ↓dExtend_w, ↓extD_lst, ↓dPopAt_w, ↓popD_int, ↓dPop_w, ↓mutD_w, ↓sSetItem_w, ↓setD_int, ↓dSortSet, ↓dTable_w, ↓wipeE, finals1, finals2, finals3, finals4, finals5, finals6, fin1_ext, fin1_lst, List.getElem?_cons_zero, List.getElem?_cons_succ, List.getElem?_nil, List.set_cons_zero, List.set_cons_succ, List.cons_append, List.nil_append, List.append_nil, List.replicate_succ, List.replicate_zero, List.map_cons, List.map_nil, List.length_cons, List.length_nil, true_and, and_true, ite_true, ite_false, if_true, if_false, Bool.false_eq_true, decide_eq_true_eq, Sl.plain, D.isSq, eq_self_iff_true, forall_const, reduceIte, true_or, or_true, atI_0, atI_1, atI_2, atI_3, ixN_0, ixN_1, ixN_2, AtS_ext, AtS_lst, FzS_lst, FzS_ext, GetS_some, NatS_some, ↓fIsi1, ↓fIsi2, BoolS_some, HD.kb_non_tuple, HD.kb_non_list, HD.kb_non_bool, HD.kb_non_int, HD.kb_non_str, HD.kb_bl_tuple, HD.kb_bl_list, HD.kb_bl_bool, HD.kb_bl_int, HD.kb_bl_str, HD.kb_int_tuple, HD.kb_int_list, HD.kb_int_bool, HD.kb_int_int, HD.kb_int_str, HD.kb_str_tuple, HD.kb_str_list, HD.kb_str_bool, HD.kb_str_int, HD.kb_str_str, HD.kb_lst_tuple, HD.kb_lst_list, HD.kb_lst_bool, HD.kb_lst_int, HD.kb_lst_str, HD.kb_tup_tuple, HD.kb_tup_list, HD.kb_tup_bool, HD.kb_tup_int, HD.kb_tup_str, ↓sFz_w, ↓FzS_lst, ↓FzS_ext, ↓dSortSetL, ↓fAbs, ↓fInt, ↓fRepr, ↓fLtT, ↓sRaise, ↓sTryKeep, ↓dCallV_w, ↓dMeth, ↓fCount, ↓fSplit, ↓seq_setE, ↓seq_set, ↓seq_drop, ↓seq_asg, ↓seq_if, ↓seq_for, ↓dStep, ↓fStep, ↓fMulT, ↓fIsB, ↓fNotB, ↓sPar, ↓dEnum, ↓dListZip, ↓dNest, ↓sSeal, ↓dNApp, ↓retD_reg, ↓dLenSet, ↓fSum2, ↓seq_putD, ↓seq_sealD, ↓dDIn, ↓dDGet, ↓sPutD, ↓dDNew, ↓dDOne, ↓sSealD, ↓dKeys, ↓keyS_dk, ↓dExtT, ↓fSortT, ↓fMinP, ↓dRemove, ↓dDInT, ↓dDGetT, ↓sPutDT, ↓dDNewT, ↓sSealDT, ↓dKeysT, ↓keyST_dt, ↓fSortK, ↓seq_putDT, ↓seq_sealDT, ↓dVarR_w, ↓dAttr, ↓dAppR, ↓dExtR_w, ↓dExtTR_w, ↓dClrR, ↓dPopR_w, ↓dIxR_w, ↓dDGetR, ↓dDInR, ↓dGet2R, ↓dPop1R, ↓dPop2R, ↓dDGetTR, ↓dDInTR, ↓dPop1TR, ↓dCallM, ↓dMethO, ↓dMake, ↓dMoveR, ↓dPtr, ↓sAttr, ↓sSetR, ↓sPutR, ↓sPutTR, ↓sSetA_w, ↓sSetG_w, ↓seq_setG, ↓seq_setA, ↓seq_attr, ↓seq_setR, ↓seq_putR, ↓seq_putTR, ↓RegS_reg, ↓CellS_some, ↓RefS_reg, ↓RefS_ar, ↓cellS_ar, ↓wd_ar, ↓seqD_ar, ↓lstO_lst, ↓insO_ins, ↓dkO_dk, ↓dkO_lk, ↓dtO_dt, ↓dtO_lk, ↓dkW_dk, ↓dtW_dt, ↓stoS_ext, ↓stoS_reg, ↓stoS_lstT, ↓stoS_lstF, ↓stoS_al, ↓ptrD_ref, ↓ptrD_int, ↓ptrD_str, ↓ptrD_bl, ↓ptrD_non, ↓ptrD_tup, ↓ptrD_tk, ↓ptrD_lst, ↓ptrD_fz, ↓setGS_lst, ↓setGS_reg, ↓setAS_ar, ↓setAS_ext, ↓intS_int, ↓tupS_tup, ↓lstS_lst, ↓lstK, ↓dkK, ↓dtK, ↓retD_reg, ↓dSortSetB, ↓fSortD, ↓gLstD, ↓fInD, ↓dCallD, ↓regC_reg, ↓dMoveL, ↓dMoveR_w, ↓dDictP, ↓froz_lst, ↓froz_ext, ↓dUpdTR, ↓dv0, ↓dw0, ↓dv1, ↓dw1, ↓dv2, ↓dw2, ↓dv3, ↓dw3, ↓dv4, ↓dw4, ↓dv5, ↓dw5, ↓dv6, ↓dw6, ↓dv7, ↓dw7, ↓dv8, ↓dw8, ↓dv9, ↓dw9, ↓dv10, ↓dw10, ↓dv11, ↓dw11, ↓dv12, ↓dw12, ↓dv13, ↓dw13, ↓dv14, ↓dw14, ↓dv15, ↓dw15, ↓dv16, ↓dw16, ↓dv17, ↓dw17, ↓dv18, ↓dw18, ↓dv19, ↓dw19])
theorem enF (Bs : List (List Nat)) : enD (fD Bs) = (List.range Bs.length).map fun i : Nat => D.tk [.int (i : Nat), .tup (nD (bg Bs i))] := by
  unfold enD fD
  rw [List.zipIdx_map, List.map_map]
  refine List.ext_getElem? fun i => ?_
  rw [List.getElem?_map, List.getElem?_map, List.getElem?_zipIdx]
  by_cases h : i < Bs.length
  · rw [List.getElem?_eq_getElem h, List.getElem?_range h]
    show some (D.tk [.int ((0 + i : Nat) : Int), .tup (nD Bs[i])]) = some (D.tk [.int (i : Nat), .tup (nD (Bs.getD i []))])
    rw [Nat.zero_add, List.getD_eq_getElem?_getD, List.getElem?_eq_getElem h]
    rfl
  · rw [List.getElem?_eq_none (by omega), List.getElem?_eq_none (by rw [List.length_range]; omega)]
    rfl
theorem range_but {o : Nat} : ∀ {n : Nat}, o < n → (List.range n).filter (fun i => decide (i ≠ o)) = (List.range (n - 1)).map (frN o)
  | 0, h => by omega
  | n + 1, h => by
    rw [List.range_succ, List.filter_append]
    by_cases e : o = n
    · subst e
      rw [List.filter_cons_of_neg (by simp), List.filter_nil, List.append_nil, Nat.add_sub_cancel, List.filter_eq_self.2 (fun i hi => by have := List.mem_range.1 hi; simp; omega)]
      refine (List.map_id _).symm.trans (List.map_congr_left fun i hi => ?_)
      have := List.mem_range.1 hi
      unfold frN
      rw [if_pos this]
      rfl
    · rw [range_but (by omega : o < n), List.filter_cons_of_pos (by simp; omega), List.filter_nil, Nat.add_sub_cancel]
      obtain ⟨m, rfl⟩ : ∃ m, n = m + 1 := ⟨n - 1, by omega⟩
      rw [Nat.add_sub_cancel, List.range_succ, List.map_append]
      congr 1
      show [m + 1] = [frN o m]
      unfold frN
      rw [if_neg (by omega)]
theorem cut_dr (xs : List D) (m : Nat) : cutD xs (some (m : Int)) none = xs.drop m := by
  unfold cutD
  rw [HT.sIx_none, HT.sIx_nat]
  by_cases h : m ≤ xs.length
  · rw [Nat.min_eq_left h, List.take_of_length_le (by rw [List.length_drop]; exact Nat.le_refl _)]
  · rw [Nat.min_eq_right (by omega), Nat.sub_self, List.take_zero, List.drop_of_length_le (by omega)]
def sp_law_gone_bag : DSpec := fun args Q _ => ∃ (S : List Nat) (ps : List Part) (Bs : List (List Nat)) (ts : List (Nat × Nat)) (k : Nat), args = [.ext (.lst (fD Bs)), .ext (.lst (ts.map tieD)), dI (k : Nat)] ∧ TrSt S ps Bs ts ∧ S.length ≤ 12 ∧ Bs.length ≤ 60 ∧ ts.length ≤ 60 ∧ k < ts.length ∧
  ∀ Cs us fin, TrSt S ps Cs us → Cs.length + 1 = Bs.length → us.length + 1 = ts.length → Q (.ext (.tup [.lst (fD Cs), .lst (us.map tieD)])) fin
def e1_law_gone_bag : DT :=
    (dIf (dTest (dOp fEq (dVar 7) (dVar 3))) (dVar 5) (dVar 8))
def e2_law_gone_bag : DT :=
    (dIf (dTest (dOp fEq (dVar 7) (dVar 4))) (dVar 3) (dOp fSub (dVar 7) (dCB fInt (dCons (dOp (fCmp fun i j => decide (j < i)) (dVar 7) (dVar 4)) dNil))))
def e3_law_gone_bag : DT :=
    (dTup (dCons (dOp fIx (dVar 9) (dVar 7)) (dCons (dOp fIx (dVar 9) (dVar 10)) dNil)))
def t_law_gone_bag : DTS :=
    (sSeq (sAsg (dCB fSortT (dCons (dOp fIx (dVar 1) (dVar 2)) dNil)) (gLstD 2 (gsCons (gSet 3) (gsCons (gSet 4) gsNil))))
    (sSeq (sSetE 5 (dCB fTuple (dCons (dSortSet (dOp fAdd (dOp fIx (dVar 0) (dVar 3)) (dOp fIx (dVar 0) (dVar 4)))) dNil)))
    (sSeq (sSetE 6 (dLc (dEnum (dVar 0)) (gTupD 2 (gsCons (gSet 7) (gsCons (gSet 8) gsNil))) (dTest (dOp fNe (dVar 7) (dVar 4))) e1_law_gone_bag [7, 8]))
    (sSeq (sSetE 9 (dLc (dRange1 (dCons (dCB fLen (dCons (dVar 0) dNil)) dNil)) (gSet 7) dYes e2_law_gone_bag [7]))
    (sRet (dTup (dCons (dVar 6) (dCons (dLc (dSeq (dOp fAdd (dSl (dVar 1) dNoPart (dPart (dVar 2))) (dSl (dVar 1) (dPart (dOp fAdd (dVar 2) (dC (.int 1)))) dNoPart))) (gTupD 2 (gsCons (gSet 7) (gsCons (gSet 10) gsNil))) dYes e3_law_gone_bag [7, 10]) dNil))))))))
theorem m_law_gone_bag : Meets t_law_gone_bag 3 8 sp_law_gone_bag := by
  rintro args Qd Xd ⟨S, ps, Bs, ts, k, rfl, hT, hS, hb, htl, hk, hQ⟩
  show t_law_gone_bag _ _ [_, _, _, .un, .un, .un, .un, .un, .un, .un, .un]
  unfold t_law_gone_bag
  have ht := List.getElem_mem hk
  have ets : ts = ts.take k ++ ts[k] :: ts.drop (k + 1) := by rw [← List.drop_eq_getElem_cons hk, List.take_append_drop]
  and_intros
  rw [show atI (ts.map tieD) ((k : Nat) : Int) = some (.tup [.int (ts[k].1 : Nat), .int (ts[k].2 : Nat)]) from atN (by rw [List.getElem?_map, List.getElem?_eq_getElem hk]; rfl)]
  generalize ts[k] = t at *
  obtain ⟨l1, l2⟩ := hT.lt t ht
  and_intros
  refine ⟨[(t.1 : Int), (t.2 : Int)], rfl, fun ns' hp' hs' => ?_⟩
  have e := srt_pair hp' hs'
  subst e
  and_intros
  obtain ⟨root, up, rk, hR⟩ := id hT
  have hne : t.1 ≠ t.2 := (hR.rt.tr.ed_lt (hR.rt.tr.ed_ts.2 (.inl ht) : PM.Tr.Ed Bs.length root up t.1 t.2)).2.2
  have hlt := srtT_lt hne
  have hor : t = ((srtT t.1 t.2).1, (srtT t.1 t.2).2) ∨ t = ((srtT t.1 t.2).2, (srtT t.1 t.2).1) := by
    rcases srtT_or t.1 t.2 with z | z <;> rw [z]
    · exact .inl rfl
    · exact .inr rfl
  generalize (srtT t.1 t.2).1 = one at *
  generalize (srtT t.1 t.2).2 = other at *
  have lone : one < Bs.length := by rcases hor with rfl | rfl <;> assumption
  have loth : other < Bs.length := by rcases hor with rfl | rfl <;> assumption
  have hed : PM.Tr.Ed Bs.length root up one other := by
    rcases hor with rfl | rfl
    · exact hR.rt.tr.ed_ts.2 (.inl ht)
    · exact hR.rt.tr.ed_ts.2 (.inr ht)
  rw [show atI (fD Bs) ((one : Nat) : Int) = some (D.tup (nD (bg Bs one))) from atN (getD_bg lone)]
  and_intros
  rw [show atI (fD Bs) ((other : Nat) : Int) = some (D.tup (nD (bg Bs other))) from atN (getD_bg loth)]
  and_intros
  rw [← nD_app]
  obtain ⟨_, _, b3⟩ := hT.bag one
  obtain ⟨_, _, b4⟩ := hT.bag other
  refine ⟨by rw [nD_len, nD_len]; exact Nat.le_trans (by omega : _ ≤ 100) (by decide), (bg Bs one ++ bg Bs other).map (fun m : Nat => (m : Int)), by rw [List.map_map]; rfl, by rw [List.length_map, List.length_append]; omega, fun ns' hp hm => ?_⟩
  obtain ⟨C, rfl, hr, hC⟩ := nat_of_set hp hm
  rw [show (C.map (fun n : Nat => (n : Int))).map D.int = nD C by rw [List.map_map]; rfl, enF]
  refine lc_filter (fun i : Nat => D.tk [.int (i : Nat), .tup (nD (bg Bs i))]) (fun i : Nat => D.tup (nD (if i = one then C else bg Bs i))) (fun i => decide (i ≠ other)) True.intro (List.range Bs.length) (by rw [List.length_range]; exact Nat.le_trans hb (by decide)) (fun i hi R hR => ?_) fun b => ?_
  · and_intros
    split
    · rename_i h
      have e : i ≠ other := fun z => by rw [z] at h; simp at h
      rw [if_pos (decide_eq_true e)] at hR
      unfold e1_law_gone_bag
      and_intros
      split
      · rename_i h2
        have e2 : i = one := by
          have := beq_iff_eq.1 h2
          omega
        rw [if_pos e2] at hR
        exact hR
      · rename_i h2
        have e2 : i ≠ one := fun z => h2 (by rw [z]; exact beq_self_eq_true _)
        rw [if_neg e2] at hR
        exact hR
    · rename_i h
      have e : i = other := by
        rw [Bool.not_eq_true, Bool.not_eq_false'] at h
        have := beq_iff_eq.1 h
        omega
      rw [if_neg (by rw [e]; simp)] at hR
      exact hR
  rw [range_but loth, List.map_map]
  generalize hCs : ((List.range (Bs.length - 1)).map fun x => if frN other x = one then C else bg Bs (frN other x)) = Cs
  have eCs : ((List.range (Bs.length - 1)).map ((fun i : Nat => D.tup (nD (if i = one then C else bg Bs i))) ∘ frN other)) = fD Cs := by
    rw [← hCs]
    unfold fD
    rw [List.map_map]
    rfl
  rw [eCs]
  and_intros
  rw [fD_len, rgD_nat]
  refine ⟨⟨by omega, by omega⟩, ?_⟩
  refine lc_map (fun i : Nat => D.int (i : Nat)) (fun i : Nat => D.int (twN one other i : Nat)) True.intro (List.range Bs.length) (by rw [List.length_range]; exact Nat.le_trans hb (by decide)) (fun i hi R hR => ?_) fun b => ?_
  · unfold e2_law_gone_bag
    and_intros
    split
    · rename_i h
      have e : i = other := by
        have := beq_iff_eq.1 h
        omega
      rw [show twN one other i = one by unfold twN; rw [if_pos e]] at hR
      exact hR
    · rename_i h
      have e : i ≠ other := fun z => h (by rw [z]; exact beq_self_eq_true _)
      rw [show ((i : Int) - if (other : Int) < (i : Int) then 1 else 0) = ((twN one other i : Nat) : Int) by
        unfold twN
        rw [if_neg e]
        by_cases h2 : other < i
        · rw [if_pos h2, if_pos (by omega)]; omega
        · rw [if_neg h2, if_neg (by omega)]; omega]
      exact hR
  and_intros
  rw [cut_tk _ _ (by rw [List.length_map]; omega), show ((k : Int) + 1) = ((k + 1 : Nat) : Int) by omega, cut_dr, ← List.map_take, ← List.map_drop, ← List.map_append]
  have hll : (ts.take k ++ ts.drop (k + 1)).length + 1 = ts.length := by
    have := congrArg List.length ets
    rw [List.length_append, List.length_cons] at this
    rw [List.length_append]
    omega
  refine ⟨by rw [List.length_map, List.length_map, ← List.length_append]; exact Nat.le_trans (by omega : _ ≤ 100) (by decide), ?_⟩
  refine lc_map tieD (fun t : NP => tieD (twN one other t.1, twN one other t.2)) True.intro (ts.take k ++ ts.drop (k + 1)) (Nat.le_trans (by omega : _ ≤ 100) (by decide)) (fun q hq R hR => ?_) fun b => ?_
  · have hq' : q ∈ ts := by
      rcases List.mem_append.1 hq with z | z
      · exact List.mem_of_mem_take z
      · exact List.mem_of_mem_drop z
    obtain ⟨q1, q2⟩ := hT.lt q hq'
    unfold e3_law_gone_bag
    rw [show tieD q = D.tup [D.int (q.1 : Nat), D.int (q.2 : Nat)] from rfl]
    and_intros
    have ix : ∀ x, x < Bs.length → atI ((List.range Bs.length).map fun i : Nat => D.int (twN one other i : Nat)) ((x : Nat) : Int) = some (D.int (twN one other x : Nat)) := fun x hx => atN (by rw [List.getElem?_map, List.getElem?_range hx]; rfl)
    rw [ix _ q1]
    and_intros
    rw [ix _ q2]
    and_intros
    exact ⟨by decide, hR⟩
  and_intros
  refine ⟨by decide, ?_⟩
  rw [show ((ts.take k ++ ts.drop (k + 1)).map fun t : NP => tieD (twN one other t.1, twN one other t.2)) = ((ts.take k ++ ts.drop (k + 1)).map fun q => (twN one other q.1, twN one other q.2)).map tieD by rw [List.map_map]; rfl]
  have hCl : Cs.length + 1 = Bs.length := by
    rw [← hCs, List.length_map, List.length_range]
    omega
  refine hQ Cs _ _ ?_ hCl (by rw [List.length_map]; exact hll)
  have hbg : ∀ x, x < Cs.length → bg Cs x = if x = one then C else bg Bs (frN other x) := fun x hx => by
    have e1 : bg Cs x = if frN other x = one then C else bg Bs (frN other x) := by
      show Cs.getD x [] = _
      rw [← hCs, List.getD_eq_getElem?_getD, List.getElem?_map, List.getElem?_range (by omega)]
      rfl
    rw [e1]
    have e2 : frN other x = one ↔ x = one := by
      unfold frN
      split <;> omega
    by_cases z : x = one
    · rw [if_pos z, if_pos (e2.2 z)]
    · rw [if_neg z, if_neg (mt e2.1 z)]
  exact hR.contract hed hlt hCl hr (fun n => by rw [hC n, List.mem_append]) hbg ets hor rfl
end V2
end LS
namespace LS
namespace V2
open PySem L2 HD PM
def sp_law_gtree : DSpec := LS.sp_law_gtree
def e1_law_gtree : DT :=
    (dVar 7)
def b2_law_gtree : DTS :=
    (sSeq (sSetE 6 (dLc (dRange2 (dCons (dOp fAdd (dVar 5) (dC (.int 1))) (dCons (dCB fLen (dCons (dVar 2) dNil)) dNil))) (gSet 7) (dTest (dOp (fIn false) (dOp fIx (dVar 2) (dVar 7)) (dOp fIx (dVar 3) (dVar 5)))) e1_law_gtree [7]))
    (sDrop (dAppend 4 (dTup (dCons (dVar 5) (dCons (dOp fIx (dOp fAdd (dVar 6) (dLst (dCons (dOp fAdd (dVar 5) (dC (.int 1))) dNil))) (dC (.int 0))) dNil))))))
def e3_law_gtree : DT :=
    (dVar 10)
def b4_law_gtree : DTS :=
    (sSeq (sSetE 9 (dCallJ sp_law_gdraw 0 (dCons (dCB fLen (dCons (dVar 3) dNil)) dNil)))
    (sSeq (sDrop (dAppend 4 (dTup (dCons (dVar 9) (dCons (dCB fLen (dCons (dVar 3) dNil)) dNil)))))
    (sDrop (dAppend 3 (dCB fTuple (dCons (dLc (dSeq (dOp fIx (dVar 3) (dVar 9))) (gSet 10) (dTest (dOp fEq (dCallJ sp_law_gdraw 0 (dCons (dC (.int 2)) dNil)) (dC (.int 0)))) e3_law_gtree [10]) dNil))))))
def b5_law_gtree : DTS :=
    (sIf (dTest (dOp fNe (dVar 4) (dLst dNil))) (sAsg (dCall sp_law_gone_bag (dCons (dVar 3) (dCons (dVar 4) (dCons (dCallJ sp_law_gdraw 0 (dCons (dCB fLen (dCons (dVar 4) dNil)) dNil)) dNil)))) (gTupD 2 (gsCons (gSet 3) (gsCons (gSet 4) gsNil)))) sNext)
def e6_law_gtree : DT :=
    (dOp fIx (dVar 3) (dIndex (dVar 12) (dVar 5)))
def e7_law_gtree : DT :=
    (dCB fTuple (dCons (dCB fSortT (dCons (dTup (dCons (dOp fIx (dVar 12) (dVar 11)) (dCons (dOp fIx (dVar 12) (dVar 7)) dNil))) dNil)) dNil))
def k8_law_gtree : DTS :=
    (sSeq (sSetE 12 (dCallJ sp_law_gorder 0 (dCons (dCB fLen (dCons (dVar 3) dNil)) dNil)))
    (sSeq (sSetE 13 (dCB fTuple (dCons (dLc (dRange1 (dCons (dCB fLen (dCons (dVar 3) dNil)) dNil)) (gSet 5) dYes e6_law_gtree [5]) dNil)))
    (sRet (dTup (dCons (dVar 13) (dCons (dCB fTuple (dCons (dCB fSortD (dCons (dLc (dSeq (dVar 4)) (gTupD 2 (gsCons (gSet 11) (gsCons (gSet 7) gsNil))) dYes e7_law_gtree [11, 7]) dNil)) dNil)) dNil))))))
def k9_law_gtree : DTS :=
    (sSeq (sIf (dTest (dOp fEq (dCallJ sp_law_gdraw 0 (dCons (dC (.int 4)) dNil)) (dC (.int 0)))) (sAsg (dTup (dCons (dLst (dCons (dTupRg (dRg1 (dCB fLen (dCons (dOp fIx (dVar 1) (dC (.int 0))) dNil)))) dNil)) (dCons (dLst dNil) dNil))) (gTupD 2 (gsCons (gSet 3) (gsCons (gSet 4) gsNil)))) sNext)
    k8_law_gtree)
def k10_law_gtree : DTS :=
    (sSeq (sFz 3 (sFz 4 (sFor (dRange1 (dCons (dCallJ sp_law_gdraw 0 (dCons (dC (.int 4)) dNil)) dNil)) (gSet 8) b5_law_gtree)))
    k9_law_gtree)
def k11_law_gtree : DTS :=
    (sSeq (sIf (dAnd (dTest (dOp fNe (dVar 4) (dLst dNil))) (dTest (dOp fEq (dCallJ sp_law_gdraw 0 (dCons (dC (.int 2)) dNil)) (dC (.int 0))))) (sSeq (sAsg (dOp fIx (dVar 4) (dCallJ sp_law_gdraw 0 (dCons (dCB fLen (dCons (dVar 4) dNil)) dNil))) (gTupD 2 (gsCons (gSet 11) (gsCons (gSet 7) gsNil))))
    (sSetItem 3 (dVar 11) (dCB fTuple (dCons (dSortSet (dOp fAdd (dOp fIx (dVar 3) (dVar 11)) (dSl (dOp fIx (dVar 3) (dVar 7)) dNoPart (dPart (dC (.int 1)))))) dNil)))) sNext)
    k10_law_gtree)
def k12_law_gtree : DTS :=
    (sSeq (sFor (dRange1 (dCons (dCallJ sp_law_gdraw 0 (dCons (dC (.int 3)) dNil)) dNil)) (gSet 8) b4_law_gtree)
    k11_law_gtree)
def t_law_gtree : DTS :=
    (sSeq (sSetE 2 (dCallJ sp_law_gorder 0 (dCons (dCB fLen (dCons (dOp fIx (dVar 1) (dC (.int 0))) dNil)) dNil)))
    (sSeq (sSet 3 (dCall sp_law_gbags (dCons (dVar 1) (dCons (dVar 2) dNil))))
    (sSeq (sSet 4 (dLst dNil))
    (sSeq (sFor (dRange1 (dCons (dOp fSub (dCB fLen (dCons (dVar 2) dNil)) (dC (.int 1))) dNil)) (gSet 5) b2_law_gtree)
    k12_law_gtree))))
theorem TrSt.all {S : List Nat} {ps : List Part} (h0 : 0 < S.length) (ok : NsOk S ps) : TrSt S ps [List.range S.length] [] := by
  have hb : ∀ b, b < 1 → bg [List.range S.length] b = List.range S.length := fun b hb => by
    have e : b = 0 := by omega
    subst e
    rfl
  refine ⟨0, id, fun _ => 0, ⟨⟨Nat.one_pos, fun x hx hr => ?_, fun i j => ?_, List.nodup_nil, fun t ht => nomatch ht⟩, fun B hB => ?_, fun n => ⟨0, fun b hb hn => ?_⟩⟩, fun ns hns => ?_, fun n hn => ⟨0, Nat.one_pos, List.mem_range.2 hn⟩⟩
  · have : x < 1 := hx
    omega
  · constructor
    · rintro (h | h) <;> cases h
    · rintro (⟨h1, h2, _⟩ | ⟨h1, h2, _⟩)
      · have : i < 1 := h1
        omega
      · have : j < 1 := h1
        omega
  · have e : B = List.range S.length := List.mem_singleton.1 hB
    subst e
    exact ⟨List.pairwise_lt_range, fun n h => List.mem_range.1 h⟩
  · have h1 : b < 1 := hb
    exact .inl (by omega)
  · obtain ⟨p, hp, rfl⟩ := List.mem_map.1 hns
    exact ⟨0, Nat.one_pos, fun n hn => List.mem_range.2 ((ok.ok p hp).2 n hn)⟩
end V2
end LS
namespace LS
open PM PM.Tr Classical
section
variable {w : Wd} {S : List Nat} {Bs : List (List Nat)} {ts : List (Nat × Nat)} {root : Nat} {up rk : Nat → Nat} {ps : List Part} {ly : Part → Nat} {nr : Nat → List Nat}
structure PBd (S : List Nat) (ps : List Part) : Prop where
  s4 : ∀ s ∈ S, s ≤ 4
  few : S.length ≤ 24
  bd : ∃ b, 0 < b ∧ b * ps.length ≤ 2400 ∧ ∀ p ∈ ps, Bd b p
  many : ps.length ≤ 60
end
end LS
namespace LS
open PySem L2 HD PM
local macro_rules | `(tactic| and_intros) => `(tactic| try simp -dsimp only [↓sIf, ↓sRet, ↓retD_ext, ↓retD_lst, ↓retD_al, ↓sSet, ↓sSetE, ↓sAsg, ↓sDrop, ↓sNext, ↓sFor, ↓sRetN, ↓sCont, ↓sBreak, ↓dTest, ↓dOp, ↓dC, ↓dCons, ↓dNil, ↓dTup, ↓dLst, ↓frzDs, ↓frzD_ext, ↓frzD_lst, ↓frzD_al, ↓wd_ext, ↓wd_lst, ↓wd_al, ↓wds, ↓AtS_ext, ↓AtS_lst, ↓AtL, ↓fAdd, ↓fSub, ↓fMul, ↓fDiv, ↓fMod, ↓fPow, ↓fCmp, ↓fIn, ↓fEq_ii, ↓fEq_ss, ↓fEq_bb, ↓fEq_tt, ↓fEq_ll, ↓fNe_ii, ↓fNe_ss, ↓fNe_bb, ↓fNe_tt, ↓fNe_ll, ↓fIx_l, ↓fIx_t, ↓fIx_k, ↓fIx_f, ↓GetS_some, ↓NatS_some, ↓fSl, ↓fIsN, ↓fNotN, ↓D.knN, ↓dNot, ↓dAnd, ↓dOr, ↓dAndV_w, ↓dOrV_w, ↓dNotV, ↓dIf, ↓dNeg, ↓dChain_w, ↓BlS_bl, ↓dCall_w, ↓dCallJ_w, ↓anyAl, ↓frozs, ↓froz, ↓gSet, ↓gTupD, ↓gsCons, ↓gsNil, ↓dSeq, ↓seqD_tup, ↓seqD_elst, ↓seqD_lst, ↓seqD_al, ↓dRange1, ↓dRange2, ↓dZip, ↓dCB, ↓dLc, ↓dYes, ↓dNoPart, ↓dPart, ↓dSl, ↓fLen, ↓fMin, ↓fMax, ↓fSum, ↓fAll, ↓fAny, ↓fSorted, ↓fTuple, ↓fList, ↓dRg1, ↓dRg2, ↓dLstRg, ↓dTupRg, ↓dIndex, ↓fIdx, ↓dAppend_w, ↓dExtend_w, ↓extD_lst, ↓dPopAt_w, ↓popD_int, ↓dPop_w, ↓mutD_w, ↓sSetItem_w, ↓setD_int, ↓dSortSet, ↓dTable_w, ↓wipeE, finals1, finals2, finals3, finals4, finals5, finals6, fin1_ext, fin1_lst, List.getElem?_cons_zero, List.getElem?_cons_succ, List.getElem?_nil, List.set_cons_zero, List.set_cons_succ, List.cons_append, List.nil_append, List.append_nil, List.replicate_succ, List.replicate_zero, List.map_cons, List.map_nil, List.length_cons, List.length_nil, true_and, and_true, ite_true, ite_false, if_true, if_false, Bool.false_eq_true, decide_eq_true_eq, Sl.plain, D.isSq, eq_self_iff_true, forall_const, reduceIte, true_or, or_true, atI_0, atI_1, atI_2, atI_3, ixN_0, ixN_1, ixN_2, AtS_ext, AtS_lst, FzS_lst, FzS_ext, GetS_some, NatS_some, ↓fIsi1, ↓fIsi2, BoolS_some, HD.kb_non_tuple, HD.kb_non_list, HD.kb_non_bool, HD.kb_non_int, HD.kb_non_str, HD.kb_bl_tuple, HD.kb_bl_list, HD.kb_bl_bool, HD.kb_bl_int, HD.kb_bl_str, HD.kb_int_tuple, HD.kb_int_list, HD.kb_int_bool, HD.kb_int_int, HD.kb_int_str, HD.kb_str_tuple, HD.kb_str_list, HD.kb_str_bool, HD.kb_str_int, HD.kb_str_str, HD.kb_lst_tuple, HD.kb_lst_list, HD.kb_lst_bool, HD.kb_lst_int, HD.kb_lst_str, HD.kb_tup_tuple, HD.kb_tup_list, HD.kb_tup_bool, HD.kb_tup_int, HD.kb_tup_str, ↓sFz_w, ↓FzS_lst, ↓FzS_ext, ↓dSortSetL, ↓fAbs, ↓fInt, ↓fRepr, ↓fLtT, ↓sRaise, ↓sTryKeep, ↓dCallV_w, ↓dMeth, ↓fCount, ↓fSplit, ↓seq_setE, ↓seq_set, ↓seq_drop, ↓seq_asg, ↓seq_if, ↓seq_for, ↓dStep, ↓fStep, ↓fMulT, ↓fIsB, ↓fNotB, ↓sPar, ↓dEnum, ↓dListZip, ↓dNest, ↓sSeal, ↓dNApp, ↓retD_reg, ↓dLenSet, ↓fSum2, ↓seq_putD, ↓seq_sealD, ↓dDIn, ↓dDGet, ↓sPutD, ↓dDNew, ↓dDOne, ↓sSealD, ↓dKeys, ↓keyS_dk, ↓dExtT, ↓fSortT, ↓fMinP, ↓dRemove, ↓dDInT, ↓dDGetT, ↓sPutDT, ↓dDNewT, ↓sSealDT, ↓dKeysT, ↓keyST_dt, ↓fSortK, ↓seq_putDT, ↓seq_sealDT, ↓dVarR_w, ↓dAttr, ↓dAppR, ↓dExtR_w, ↓dExtTR_w, ↓dClrR, ↓dPopR_w, ↓dIxR_w, ↓dDGetR, ↓dDInR, ↓dGet2R, ↓dPop1R, ↓dPop2R, ↓dDGetTR, ↓dDInTR, ↓dPop1TR, ↓dCallM, ↓dMethO, ↓dMake, ↓dMoveR, ↓dPtr, ↓sAttr, ↓sSetR, ↓sPutR, ↓sPutTR, ↓sSetA_w, ↓sSetG_w, ↓seq_setG, ↓seq_setA, ↓seq_attr, ↓seq_setR, ↓seq_putR, ↓seq_putTR, ↓RegS_reg, ↓CellS_some, ↓RefS_reg, ↓RefS_ar, ↓cellS_ar, ↓wd_ar, ↓seqD_ar, ↓lstO_lst, ↓insO_ins, ↓dkO_dk, ↓dkO_lk, ↓dtO_dt, ↓dtO_lk, ↓dkW_dk, ↓dtW_dt, ↓stoS_ext, ↓stoS_reg, ↓stoS_lstT, ↓stoS_lstF, ↓stoS_al, ↓ptrD_ref, ↓ptrD_int, ↓ptrD_str, ↓ptrD_bl, ↓ptrD_non, ↓ptrD_tup, ↓ptrD_tk, ↓ptrD_lst, ↓ptrD_fz, ↓setGS_lst, ↓setGS_reg, ↓setAS_ar, ↓setAS_ext, ↓intS_int, ↓tupS_tup, ↓lstS_lst, ↓lstK, ↓dkK, ↓dtK, ↓retD_reg, ↓dSortSetB, ↓fSortD, ↓gLstD, ↓fInD, ↓dCallD, ↓regC_reg, ↓dMoveL, ↓dMoveR_w, ↓dDictP, ↓froz_lst, ↓froz_ext, ↓dUpdTR, ↓dv0, ↓dw0, ↓dv1, ↓dw1, ↓dv2, ↓dw2, ↓dv3, ↓dw3, ↓dv4, ↓dw4, ↓dv5, ↓dw5, ↓dv6, ↓dw6, ↓dv7, ↓dw7, ↓dv8, ↓dw8, ↓dv9, ↓dw9, ↓dv10, ↓dw10, ↓dv11, ↓dw11, ↓dv12, ↓dw12, ↓dv13, ↓dw13, ↓dv14, ↓dw14, ↓dv15, ↓dw15, ↓dv16, ↓dw16, ↓dv17, ↓dw17, ↓dv18, ↓dw18, ↓dv19, ↓dw19])
def layN (Bs : List (List Nat)) (ns : List Nat) : Nat := (Bs.map fun B => ns.all fun n => decide (n ∈ B)).idxOf true
theorem at_true (bs : List Bool) (h : true ∈ bs) : D.at? (.bl true) (bs.map D.bl) = some (bs.idxOf true) := by
  unfold D.at?
  induction bs with
  | nil => cases h
  | cons b bs ih =>
    rw [List.map_cons, List.findIdx?_cons, List.idxOf_cons]
    cases b with
    | true => rfl
    | false =>
      have h' : true ∈ bs := by
        rcases List.mem_cons.1 h with e | e
        · cases e
        · exact e
      rw [if_neg (by decide), ih h']
      rfl
def sp_bag_of : DSpec := fun args Q _ => ∃ (Bs : List (List Nat)) (d : D) (ns : List Nat), args = [.ext (.tup [.tup (fD Bs), d]), .ext (.tup (nD ns))] ∧ Bs.length ≤ 100 ∧ ns.length ≤ 100 ∧ (∃ B ∈ Bs, ∀ n ∈ ns, n ∈ B) ∧ ∀ fin, Q (dI (layN Bs ns : Nat)) fin
def e1_bag_of : DT :=
    (dOp (fIn false) (dVar 3) (dVar 2))
def e2_bag_of : DT :=
    (dCB fAll (dCons (dLc (dSeq (dVar 1)) (gSet 3) dYes e1_bag_of [3]) dNil))
def t_bag_of : DTS :=
    (sRet (dIndex (dLc (dSeq (dOp fIx (dVar 0) (dC (.int 0)))) (gSet 2) dYes e2_bag_of [2]) (dC (.bl true))))
theorem m_bag_of : Meets t_bag_of 2 2 sp_bag_of := by
  rintro args Qd Xd ⟨Bs, d, ns, rfl, hb, hn, hex, hQ⟩
  show t_bag_of _ _ [_, _, .un, .un]
  unfold t_bag_of
  and_intros
  refine lc_map (fun B : List Nat => D.tup (nD B)) (fun B => .bl (ns.all fun n => decide (n ∈ B))) True.intro Bs (Nat.le_trans hb (by decide)) (fun B hB R hR => ?_) fun b => ?_
  · unfold e2_bag_of
    and_intros
    refine lc_map (fun n : Nat => D.int (n : Nat)) (fun n => .bl (decide (n ∈ B))) True.intro ns (Nat.le_trans hn (by decide)) (fun n hn R hR => ?_) fun b => ?_
    · unfold e1_bag_of
      and_intros
      rw [isIn_nat]
      exact ⟨rfl, flat_nD _, hR⟩
    and_intros
    refine ⟨ns.map fun n => decide (n ∈ B), by rw [List.map_map]; rfl, ?_⟩
    rw [List.all_map]
    exact hR
  and_intros
  refine ⟨rfl, by rw [List.all_map, List.all_eq_true]; intro B _; rfl, layN Bs ns, ?_, hQ _⟩
  have e : (Bs.map fun B => D.bl (ns.all fun n => decide (n ∈ B))) = (Bs.map fun B => ns.all fun n => decide (n ∈ B)).map D.bl := by rw [List.map_map]; rfl
  rw [e]
  refine at_true _ ?_
  obtain ⟨B, hB, h⟩ := hex
  exact List.mem_map.2 ⟨B, hB, by rw [List.all_eq_true]; intro n hn; exact decide_eq_true (h n hn)⟩
structure PostOk (S : List Nat) (ps : List Part) (Bs : List (List Nat)) (ts : List (Nat × Nat)) (nrs : List (List Nat)) (root : Nat) (up rk : Nat → Nat) : Prop where
  rt : Rt S.length Bs ts root up rk
  la : Laid S Bs ps (fun p => layN Bs p.ns) (fun i => nrs.getD i []) root up
  bd : PBd S ps
  sz : SzOk S
  nl : nrs.length = Bs.length
  nb : Bs.length ≤ 14
  tl : ts.length ≤ 100
end LS
namespace LS
open PySem L2 HD
def hP (i j : Nat) : Int := hT [(i : Int), (j : Int)]
end LS
namespace LS
open PySem L2 HD PM
theorem lt_tie (a b : NP) : W.dataLt (tieD a).py (tieD b).py = false → pLe b a := fun h => by
  have h' : W.dataLt (.tuple [.int (a.1 : Nat), .int (a.2 : Nat)]) (.tuple [.int (b.1 : Nat), .int (b.2 : Nat)]) = false := h
  rw [lt_pair, decide_eq_false_iff_not] at h'
  unfold pLe
  omega
end LS
namespace LS
open PySem L2 HD PM
theorem putFD_app {f : Str} {d : D} : ∀ {fs : List (Str × D)}, (fs.map (·.1)).contains f = false → putFD f d fs = fs ++ [(f, d)]
  | [], _ => rfl
  | (g, e) :: r, h => by
    rw [List.map_cons, List.contains_cons, Bool.or_eq_false_iff] at h
    have hne : ¬ g = f := fun z => by
      have := h.1
      rw [z, beq_self_eq_true] at this
      cases this
    show (if g = f then _ else _) = _
    rw [if_neg hne, putFD_app h.2]
    rfl
def kvL (LT : Nat → Nat → Part) (md : List (Nat × Nat)) : List (List Int × D) := md.map fun p => ([(p.1 : Int), (p.2 : Int)], dP (LT p.1 p.2))
def butV : Option Nat → D
  | some j => .int (j : Nat)
  | none => .non
end LS
namespace LS
open PM PM.Tr Classical
def ov (σ : Nat → Option Nat) (g : Nat → Nat) : Nat → Nat := fun n => (σ n).getD (g n)
def fr (σ : Nat → Option Nat) (l : List Nat) : List Nat := l.filter fun n => (σ n).isNone
section
variable {w : Wd} {S : List Nat} {σ : Nat → Option Nat}
def setA (S : List Nat) (σ : Nat → Option Nat) (p : Part) : Part := mkP S (fr σ p.ns) fun g => PM.val S p (ov σ g)
end
abbrev KP := Part × Nat
def kOwn (w : Wd) (S : List Nat) (σ : Nat → Option Nat) (Bs : List (List Nat)) (ks : List KP) (i : Nat) : Part := widP S (setA S σ (joinA w S ((ks.filter fun a => a.2 == i).map (·.1)))) (fr σ (bg Bs i))
def kLet (w : Wd) (S : List Nat) (σ : Nat → Option Nat) (Bs : List (List Nat)) (ks : List KP) (nr : Nat → List Nat) : Nat → Nat → Nat → Part
  | 0, _, _ => unitP w
  | f + 1, i, j => leftP w S (joinA w S (kOwn w S σ Bs ks i :: ((nr i).filter fun k => k != j).map fun k => kLet w S σ Bs ks nr f k i)) (bg Bs j)
def kLt (w : Wd) (S : List Nat) (σ : Nat → Option Nat) (Bs : List (List Nat)) (ks : List KP) (nr : Nat → List Nat) (i j : Nat) : Part := kLet w S σ Bs ks nr Bs.length i j
end LS
namespace LS
open PM PM.Tr Classical
theorem TR.few {m root : Nat} {ts : List NP} {up rk : Nat → Nat} (h : TR m ts root up rk) : ts.length ≤ m := by
  have hc : ∀ t ∈ ts, ∃ c, c < m ∧ (t = (c, up c) ∨ t = (up c, c)) := fun t ht => by
    rcases (h.ed_ts.2 (.inl ht) : Ed m root up t.1 t.2) with ⟨a, _, b⟩ | ⟨a, _, b⟩
    · exact ⟨t.1, a, .inl (Prod.ext rfl b.symm)⟩
    · exact ⟨t.2, a, .inr (Prod.ext b.symm rfl)⟩
  let ch : NP → Nat := fun t => if ht : t ∈ ts then (hc t ht).choose else 0
  have hch : ∀ t ∈ ts, ch t < m ∧ (t = (ch t, up (ch t)) ∨ t = (up (ch t), ch t)) := fun t ht => by
    have e : ch t = (hc t ht).choose := dif_pos ht
    rw [e]
    exact (hc t ht).choose_spec
  have nd : (ts.map ch).Nodup := by
    unfold List.Nodup
    rw [List.pairwise_map]
    refine List.Pairwise.imp_of_mem (fun {t q} ht hq ne e => ?_) h.nd
    obtain ⟨_, h1⟩ := hch t ht
    obtain ⟨_, h2⟩ := hch q hq
    rw [e] at h1
    rcases h1 with h1 | h1 <;> rcases h2 with h2 | h2
    · exact ne (h1.trans h2.symm)
    · refine h.one t ht ?_
      have : (t.2, t.1) = q := Prod.ext ((congrArg Prod.snd h1).trans (congrArg Prod.fst h2).symm) ((congrArg Prod.fst h1).trans (congrArg Prod.snd h2).symm)
      rw [this]
      exact hq
    · refine h.one t ht ?_
      have : (t.2, t.1) = q := Prod.ext ((congrArg Prod.snd h1).trans (congrArg Prod.fst h2).symm) ((congrArg Prod.fst h1).trans (congrArg Prod.snd h2).symm)
      rw [this]
      exact hq
    · exact ne (h1.trans h2.symm)
  have := nd_sub_len (b := List.range m) nd fun x hx => by
    obtain ⟨t, ht, rfl⟩ := List.mem_map.1 hx
    exact List.mem_range.2 (hch t ht).1
  rwa [List.length_map, List.length_range] at this
end LS
namespace LS
open PM PM.Tr Classical
open HD (luK ptK drK)
section
variable {m root : Nat} {ts : List NP} {up rk : Nat → Nat}
def Clo (m root : Nat) (up : Nat → Nat) (md : List NP) : Prop := ∀ p ∈ md, ∀ k, Ed m root up k p.1 → k ≠ p.2 → (k, p.1) ∈ md
end
inductive Chg where
  | part (k : Nat) (ws : List Int)
  | name (n : Nat) (o : Option Nat)
structure KC where
  w : Wd
  S : List Nat
  Bs : List (List Nat)
  ts : List NP
  nrs : List (List Nat)
  nss : List (List Nat)
  lay : List Nat
  root : Nat
  up : Nat → Nat
  rk : Nat → Nat
  b : Nat
structure KM where
  ps : List Part
  st : List NP
  md : List NP
  many : Nat
  ch : List Chg
abbrev KC.nr (C : KC) (i : Nat) : List Nat := C.nrs.getD i []
abbrev KC.ks (C : KC) (ps : List Part) : List KP := ps.zip C.lay
abbrev KC.own (C : KC) (ps : List Part) (st : List NP) (i : Nat) : Part := kOwn C.w C.S (luK st) C.Bs (C.ks ps) i
abbrev KC.lt (C : KC) (ps : List Part) (st : List NP) (i j : Nat) : Part := kLt C.w C.S (luK st) C.Bs (C.ks ps) C.nr i j
abbrev KC.ed (C : KC) (i j : Nat) : Prop := Ed C.Bs.length C.root C.up i j
def Und (C : KC) : (Nat → Prop) → List Chg → Prop
  | _, [] => True
  | K, .part k ws :: r => (∃ ns, C.nss[k]? = some ns ∧ (⟨ns, ws⟩ : Part).Ok C.S ∧ Bd C.b ⟨ns, ws⟩) ∧ Und C K r
  | K, .name n (some v) :: r => (n < C.S.length ∧ v < sz C.S n) ∧ Und C (fun m => m = n ∨ K m) r
  | K, .name n none :: r => (n < C.S.length ∧ K n) ∧ Und C (fun m => m ≠ n ∧ K m) r
abbrev keysP (st : List NP) : Nat → Prop := fun n => n ∈ st.map (·.1)
structure KFix (C : KC) : Prop where
  rt : Rt C.S.length C.Bs C.ts C.root C.up C.rk
  sz : SzOk C.S
  nb : C.Bs.length ≤ 14
  tl : C.ts.length ≤ 100
  nl : C.nrs.length = C.Bs.length
  nrs : ∀ i k, k ∈ C.nr i ↔ C.ed k i
  nrd : ∀ i, (C.nr i).Nodup
  ll : C.lay.length = C.nss.length
  lay : ∀ q ∈ C.nss.zip C.lay, q.2 < C.Bs.length ∧ ∀ n ∈ q.1, n ∈ bg C.Bs q.2
  b0 : 0 < C.b
  bl : C.b * C.nss.length ≤ 2400
  few : C.nss.length ≤ 60
structure KCore (C : KC) (ps : List Part) (st : List NP) (md : List NP) : Prop where
  nss : ps.map (·.ns) = C.nss
  ok : ∀ p ∈ ps, p.Ok C.S ∧ Bd C.b p
  nd : (st.map (·.1)).Nodup
  sg : ∀ p ∈ st, p.1 < C.S.length ∧ p.2 < sz C.S p.1
  mdn : md.Nodup
  mde : ∀ p ∈ md, C.ed p.1 p.2
  cl : Clo C.Bs.length C.root C.up md
structure KInv (C : KC) (M : KM) : Prop where
  fx : KFix C
  co : KCore C M.ps M.st M.md
  chl : M.ch.length ≤ 10000
  und : Und C (keysP M.st) M.ch.reverse
end LS
namespace LS
open PySem L2 HD PM
structure KA where
  a : Addr
  dx : Addr
  pa : Addr
  wa : Addr
  ka : Addr
  ca : Addr
abbrev KA.l (A : KA) : List Addr := [A.a, A.dx, A.pa, A.wa, A.ka, A.ca]
def kvS (st : List NP) : List (Key × D) := st.map fun p => ((.inl (p.1 : Int) : Key), D.int (p.2 : Nat))
def chD : Chg → D
  | .part k ws => .tup [.str "part", .int (k : Nat), .tup (iD ws)]
  | .name n o => .tup [.str "name", .int (n : Nat), butV o]
def keepF (A : KA) (C : KC) (many : Nat) : List (Str × D) :=
  [("word", .str C.w.s), ("sizes", .tup (nD C.S)), ("parts", .val (.ref A.pa)), ("bags", .tup (fD C.Bs)), ("near", .lst (C.nrs.map fun l => D.lst (nD l))), ("laid", .lst (nD C.lay)), ("worths", .val (.ref A.wa)), ("known", .val (.ref A.ka)), ("many", .int (many : Nat)), ("changes", .val (.ref A.ca))]
def keepC (A : KA) (C : KC) (ps : List Part) (st : List NP) (kvs : List (List Int × D)) (many : Nat) (ch : List Chg) : Cells :=
  [(A.a, .ins "Keeper" A.dx (keepF A C many)), (A.dx, .own A.a), (A.pa, .lst (ps.map dP)), (A.wa, .dk (kvS st)), (A.ka, .dt kvs), (A.ca, .lst (ch.map chD))]
abbrev keepQ (A : KA) (C : KC) (ps : List Part) (st : List NP) (kvs : List (List Int × D)) (many : Nat) (ch : List Chg) : Sl := .reg (.val (.ref A.a)) (keepC A C ps st kvs many ch)
abbrev keepS (A : KA) (C : KC) (M : KM) : Sl := keepQ A C M.ps M.st (kvL (C.lt M.ps M.st) M.md) M.many M.ch
end LS
namespace LS
open PySem L2 HD PM
abbrev KM.grow (M : KM) (md' : List NP) (many' : Nat) : KM := { M with md := md', many := many' }
end LS
namespace LS
open PySem L2 HD PM
def PostAll (S : List Nat) (ps : List Part) (Bs : List (List Nat)) (ts : List (Nat × Nat)) (root : Nat) (up rk : Nat → Nat) : Prop := ∀ nrs : List (List Nat), nrs.length = Bs.length → (∀ i, i < Bs.length → (nrs.getD i []).Perm (nearN ts i)) → PostOk S ps Bs ts nrs root up rk
end LS
namespace LS
namespace V2
open PySem L2 HD PM
local macro_rules | `(tactic| trivial) => `(tactic| try simp -dsimp only [↓sIf, ↓sRet, ↓retD_ext, ↓retD_lst, ↓retD_al, ↓sSet, ↓sSetE, ↓sAsg, ↓sDrop, ↓sNext, ↓sFor, ↓sRetN, ↓sCont, ↓sBreak, ↓dTest, ↓dOp, ↓dVar_w, ↓dC, ↓dCons, ↓dNil, ↓dTup, ↓dLst, ↓frzDs, ↓frzD_ext, ↓frzD_lst, ↓frzD_al, ↓wd_ext, ↓wd_lst, ↓wd_al, ↓wds, ↓AtS_ext, ↓AtS_lst, ↓AtL, ↓fAdd, ↓fSub, ↓fMul, ↓fDiv, ↓fMod, ↓fPow, ↓fCmp, ↓fIn, ↓fEq_ii, ↓fEq_ss, ↓fEq_bb, ↓fEq_tt, ↓fEq_ll, ↓fNe_ii, ↓fNe_ss, ↓fNe_bb, ↓fNe_tt, ↓fNe_ll, ↓fIx_l, ↓fIx_t, ↓fIx_k, ↓fIx_f, ↓GetS_some, ↓NatS_some, ↓fSl, ↓fIsN, ↓fNotN, ↓D.knN, ↓dNot, ↓dAnd, ↓dOr, ↓dAndV_w, ↓dOrV_w, ↓dNotV, ↓dIf, ↓dNeg, ↓dChain_w, ↓BlS_bl, ↓dCall_w, ↓dCallJ_w, ↓anyAl, ↓frozs, ↓froz, ↓gSet, ↓gTupD, ↓gsCons, ↓gsNil, ↓dSeq, ↓seqD_tup, ↓seqD_elst, ↓seqD_lst, ↓seqD_al, ↓dRange1, ↓dRange2, ↓dZip, ↓dCB, ↓dLc, ↓dYes, ↓dNoPart, ↓dPart, ↓dSl, ↓fLen, ↓fMin, ↓fMax, ↓fSum, ↓fAll, ↓fAny, ↓fSorted, ↓fTuple, ↓fList, ↓dRg1, ↓dRg2, ↓dLstRg, ↓dTupRg, ↓dIndex, ↓fIdx, ↓dAppend_w, ↓dExtend_w, ↓extD_lst, ↓dPopAt_w, ↓popD_int, ↓dPop_w, ↓mutD_w, ↓sSetItem_w, ↓setD_int, ↓dSortSet, ↓dTable_w, ↓wipeE, finals1, finals2, finals3, finals4, finals5, finals6, fin1_ext, fin1_lst, List.getElem?_cons_zero, List.getElem?_cons_succ, List.getElem?_nil, List.set_cons_zero, List.set_cons_succ, List.cons_append, List.nil_append, List.append_nil, List.replicate_succ, List.replicate_zero, List.map_cons, List.map_nil, List.length_cons, List.length_nil, true_and, and_true, ite_true, ite_false, if_true, if_false, Bool.false_eq_true, decide_eq_true_eq, Sl.plain, D.isSq, eq_self_iff_true, forall_const, reduceIte, true_or, or_true, atI_0, atI_1, atI_2, atI_3, ixN_0, ixN_1, ixN_2, AtS_ext, AtS_lst, FzS_lst, FzS_ext, GetS_some, NatS_some, ↓fIsi1, ↓fIsi2, BoolS_some, HD.kb_non_tuple, HD.kb_non_list, HD.kb_non_bool, HD.kb_non_int, HD.kb_non_str, HD.kb_bl_tuple, HD.kb_bl_list, HD.kb_bl_bool, HD.kb_bl_int, HD.kb_bl_str, HD.kb_int_tuple, HD.kb_int_list, HD.kb_int_bool, HD.kb_int_int, HD.kb_int_str, HD.kb_str_tuple, HD.kb_str_list, HD.kb_str_bool, HD.kb_str_int, HD.kb_str_str, HD.kb_lst_tuple, HD.kb_lst_list, HD.kb_lst_bool, HD.kb_lst_int, HD.kb_lst_str, HD.kb_tup_tuple, HD.kb_tup_list, HD.kb_tup_bool, HD.kb_tup_int, HD.kb_tup_str, ↓sFz_w, ↓FzS_lst, ↓FzS_ext, ↓dSortSetL, ↓fAbs, ↓fInt, ↓fRepr, ↓fLtT, ↓sRaise, ↓sTryKeep, ↓dCallV_w, ↓dMeth, ↓fCount, ↓fSplit, ↓seq_setE, ↓seq_set, ↓seq_drop, ↓seq_asg, ↓seq_if, ↓seq_for, ↓dStep, ↓fStep, ↓fMulT, ↓fIsB, ↓fNotB, ↓sPar, ↓dEnum, ↓dListZip, ↓dNest, ↓sSeal, ↓dNApp, ↓retD_reg, ↓dLenSet, ↓fSum2, ↓seq_putD, ↓seq_sealD, ↓dDIn, ↓dDGet, ↓sPutD, ↓dDNew, ↓dDOne, ↓sSealD, ↓dKeys, ↓keyS_dk, ↓dExtT, ↓fSortT, ↓fMinP, ↓dRemove, ↓dDInT, ↓dDGetT, ↓sPutDT, ↓dDNewT, ↓sSealDT, ↓dKeysT, ↓keyST_dt, ↓fSortK, ↓seq_putDT, ↓seq_sealDT, ↓dVarR_w, ↓dAttr, ↓dAppR, ↓dExtR_w, ↓dExtTR_w, ↓dClrR, ↓dPopR_w, ↓dIxR_w, ↓dDGetR, ↓dDInR, ↓dGet2R, ↓dPop1R, ↓dPop2R, ↓dDGetTR, ↓dDInTR, ↓dPop1TR, ↓dCallM, ↓dMethO, ↓dMake, ↓dMoveR, ↓dPtr, ↓sAttr, ↓sSetR, ↓sPutR, ↓sPutTR, ↓sSetA_w, ↓sSetG_w, ↓seq_setG, ↓seq_setA, ↓seq_attr, ↓seq_setR, ↓seq_putR, ↓seq_putTR, ↓RegS_reg, ↓CellS_some, ↓RefS_reg, ↓RefS_ar, ↓cellS_ar, ↓wd_ar, ↓seqD_ar, ↓lstO_lst, ↓insO_ins, ↓dkO_dk, ↓dkO_lk, ↓dtO_dt, ↓dtO_lk, ↓dkW_dk, ↓dtW_dt, ↓stoS_ext, ↓stoS_reg, ↓stoS_lstT, ↓stoS_lstF, ↓stoS_al, ↓ptrD_ref, ↓ptrD_int, ↓ptrD_str, ↓ptrD_bl, ↓ptrD_non, ↓ptrD_tup, ↓ptrD_tk, ↓ptrD_lst, ↓ptrD_fz, ↓setGS_lst, ↓setGS_reg, ↓setAS_ar, ↓setAS_ext, ↓intS_int, ↓tupS_tup, ↓lstS_lst, ↓lstK, ↓dkK, ↓dtK, ↓retD_reg, ↓dSortSetB, ↓fSortD, ↓fInD, ↓dCallD, ↓regC_reg, ↓dMoveL, ↓dMoveR_w, ↓dDictP, ↓froz_lst, ↓froz_ext, ↓dUpdTR, ↓dUpdKR, ↓dDictZipK, ↓dDictC, ↓gLstD])
theorem lay_lt {Bs : List (List Nat)} {ns : List Nat} (h : ∃ i, i < Bs.length ∧ ∀ n ∈ ns, n ∈ bg Bs i) : layN Bs ns < Bs.length ∧ ∀ n ∈ ns, n ∈ bg Bs (layN Bs ns) := by
  obtain ⟨i, hi, hn⟩ := h
  unfold layN
  generalize hq : (Bs.map fun B => ns.all fun n => decide (n ∈ B)) = q
  have hl : q.length = Bs.length := by rw [← hq, List.length_map]
  have ht : true ∈ q := by
    rw [← hq]
    exact List.mem_map.2 ⟨bg Bs i, bg_mem hi, by rw [List.all_eq_true]; intro n h; exact decide_eq_true (hn n h)⟩
  have h1 : q.idxOf true < q.length := List.idxOf_lt_length_of_mem ht
  refine ⟨by omega, fun n h => ?_⟩
  have h2 : q[q.idxOf true]? = some true := by rw [List.getElem?_eq_getElem h1, List.getElem_idxOf]
  rw [← hq, List.getElem?_map] at h2
  rw [hq] at h2
  cases h3 : Bs[q.idxOf true]? with
  | none => rw [h3] at h2; cases h2
  | some B =>
    rw [h3] at h2
    have h4 : (ns.all fun n => decide (n ∈ B)) = true := Option.some.inj h2
    have h5 := of_decide_eq_true (List.all_eq_true.1 h4 n h)
    have e : bg Bs (q.idxOf true) = B := by
      show Bs.getD _ [] = B
      rw [List.getD_eq_getElem?_getD, h3]
      rfl
    rw [e]
    exact h5
theorem post_all' {S : List Nat} {ps : List Part} {Bs : List (List Nat)} {ts : List (Nat × Nat)} {root : Nat} {up rk : Nat → Nat} (h : RTree S.length (gsOf ps) Bs ts root up rk) (hS : SzOk S) (ok : ∀ p ∈ ps, p.Ok S) (bd : ∃ b, 0 < b ∧ b * ps.length ≤ 2400 ∧ ∀ p ∈ ps, Bd b p) (many : ps.length ≤ 60)
    (hb : Bs.length ≤ 14) (tl : ts.length ≤ 100) (hlt : ∀ t ∈ ts, t.1 < t.2) : PostAll S ps Bs ts root up rk := fun nrs hl hp => by
  refine ⟨h.rt, ⟨fun n hn => ?_, ok, fun p hp => lay_lt (h.part p.ns (List.mem_map.2 ⟨p, hp, rfl⟩)), fun i k => ?_, fun i => ?_⟩, ⟨hS.small, hS.few, bd, many⟩, hS, hl, hb, tl⟩
  · exact hS.pos _ (by unfold sz; rw [List.getD_eq_getElem?_getD, List.getElem?_eq_getElem hn]; exact List.getElem_mem hn)
  · show k ∈ nrs.getD i [] ↔ _
    by_cases c : i < Bs.length
    · rw [(hp i c).mem_iff, h.rt.tr.near]
      exact ⟨PM.Tr.Ed.symm, PM.Tr.Ed.symm⟩
    · rw [List.getD_eq_getElem?_getD, List.getElem?_eq_none (by omega)]
      exact ⟨fun z => (nomatch z), fun z => absurd (h.rt.tr.ed_lt z).2.1 c⟩
  · show (nrs.getD i []).Nodup
    by_cases c : i < Bs.length
    · exact (hp i c).nodup_iff.2 (near_nodup h.rt.tr.nd hlt)
    · rw [List.getD_eq_getElem?_getD, List.getElem?_eq_none (by omega)]
      exact List.nodup_nil
theorem post_all {S : List Nat} {ps : List Part} {Bs : List (List Nat)} {ts : List (Nat × Nat)} {root : Nat} {up rk : Nat → Nat} (h : RTree S.length (gsOf ps) Bs ts root up rk) (hS : SzOk S) (ok : ∀ p ∈ ps, p.Ok S) (bd : ∀ p ∈ ps, Bd 40 p) (many : ps.length ≤ 60)
    (hb : Bs.length ≤ 14) (tl : ts.length ≤ 100) (hlt : ∀ t ∈ ts, t.1 < t.2) : PostAll S ps Bs ts root up rk := post_all' h hS ok ⟨40, by decide, by omega, bd⟩ many hb tl hlt
def sp_law_gword : DSpec := sp_law_word
def t_law_gword : DTS :=
    (sRet (dOp fIx (dLst (dCons (dC (.str (Str.ofString "sum"))) (dCons (dC (.str (Str.ofString "most"))) (dCons (dC (.str (Str.ofString "least"))) (dCons (dC (.str (Str.ofString "wide"))) (dCons (dC (.str (Str.ofString "any"))) dNil)))))) (dCallJ sp_law_gdraw 0 (dCons (dC (.int 5)) dNil))))
theorem m_law_gword : Meets t_law_gword 1 0 sp_law_gword := by
  rintro args Qd Xd ⟨n, a, ds, rfl, hj, hn, hQ⟩
  show t_law_gword _ _ [_]
  unfold t_law_gword
  trivial
  refine ⟨by decide, fun a' => ⟨n, a, ds, 5, rfl, hj, hn, gdok (by decide) (by decide), fun r ds' fin r0 r1 hj' => ?_⟩⟩
  trivial
  have h : r = 0 ∨ r = 1 ∨ r = 2 ∨ r = 3 ∨ r = 4 := by omega
  rcases h with rfl | rfl | rfl | rfl | rfl
  · refine ⟨_, rfl, ?_⟩
    trivial
    exact hQ .sum _ _ hj'
  · refine ⟨_, rfl, ?_⟩
    trivial
    exact hQ .most _ _ hj'
  · refine ⟨_, rfl, ?_⟩
    trivial
    exact hQ .least _ _ hj'
  · refine ⟨_, rfl, ?_⟩
    trivial
    exact hQ .wide _ _ hj'
  · refine ⟨_, rfl, ?_⟩
    trivial
    exact hQ .any _ _ hj'
end V2
end LS
namespace LS
open PySem L2 HD PM
abbrev kC0 (w : Wd) (S : List Nat) (ps : List Part) (Bs : List (List Nat)) (ts : List NP) (nrs : List (List Nat)) (root : Nat) (up rk : Nat → Nat) (b : Nat) : KC :=
  { w := w, S := S, Bs := Bs, ts := ts, nrs := nrs, nss := ps.map (·.ns), lay := ps.map fun p => layN Bs p.ns, root := root, up := up, rk := rk, b := b }
abbrev kM0 (ps : List Part) : KM := { ps := ps, st := [], md := [], many := 0, ch := [] }
theorem kInv0 {w : Wd} {S : List Nat} {ps : List Part} {Bs : List (List Nat)} {ts : List NP} {nrs : List (List Nat)} {root : Nat} {up rk : Nat → Nat} {b : Nat} (P : PostOk S ps Bs ts nrs root up rk) (hok : ∀ p ∈ ps, p.Ok S) (b0 : 0 < b) (bl : b * ps.length ≤ 2400) (hb : ∀ p ∈ ps, Bd b p) : KInv (kC0 w S ps Bs ts nrs root up rk b) (kM0 ps) := by
  refine ⟨⟨P.rt, P.sz, P.nb, P.tl, P.nl, P.la.nrs, P.la.nrd, by rw [List.length_map, List.length_map], fun q hq => ?_, b0, by rw [List.length_map]; exact bl, by rw [List.length_map]; exact P.bd.many⟩, ⟨rfl, fun p hp => ⟨hok p hp, hb p hp⟩, List.nodup_nil, (fun p hp => nomatch hp), List.nodup_nil, (fun p hp => nomatch hp), fun p hp => nomatch hp⟩, Nat.zero_le _, True.intro⟩
  have hq : q ∈ (ps.map (·.ns)).zip (ps.map fun p => layN Bs p.ns) := hq
  rw [List.zip_map'] at hq
  obtain ⟨p, hp, rfl⟩ := List.mem_map.1 hq
  exact P.la.lay p hp
def kf4 (w : Wd) (S : List Nat) (Bs : List (List Nat)) (pa : Addr) : List (Str × D) := [("word", .str w.s), ("sizes", .tup (nD S)), ("parts", .val (.ref pa)), ("bags", .tup (fD Bs))]
theorem putA {a : Addr} {x y : OC} {rest : Cells} (h : a ∉ rest.map (·.1)) : putC ((a, x) :: rest) a y = (a, y) :: rest := by
  show (if a = a then (a, y) else (a, x)) :: putC rest a y = _
  rw [if_pos rfl, putC_out h]
def sp_Keeper_init : DSpec := fun args Q _ => ∃ (a dx : Addr) (w : Wd) (S : List Nat) (ps : List Part) (Bs : List (List Nat)) (ts : List NP) (root : Nat) (up rk : Nat → Nat) (b : Nat), args = [newS "Keeper" a dx, dW w, .ext (dSh S ps), .ext (dTree Bs ts)] ∧ a ≠ dx ∧
  NsOk S ps ∧ BTree S.length (gsOf ps) Bs ts ∧ PostAll S ps Bs ts root up rk ∧ ts.length ≤ 100 ∧ Bs.length ≤ 14 ∧ (∀ p ∈ ps, p.Ok S) ∧ 0 < b ∧ b * ps.length ≤ 2400 ∧ (∀ p ∈ ps, Bd b p) ∧
  ∀ (A : KA) nrs, A.a = a → A.dx = dx → A.l.Nodup → PostOk S ps Bs ts nrs root up rk → KInv (kC0 w S ps Bs ts nrs root up rk b) (kM0 ps) → Q (.ext .non) [keepS A (kC0 w S ps Bs ts nrs root up rk b) (kM0 ps), dW w, .ext (dSh S ps), .ext (dTree Bs ts)]
end LS
namespace LS
namespace V2
open PySem L2 HD PM
def D.nm : Nat → D → Bool
  | _, .int _ => true
  | k + 1, .lst ds => decide (ds.length ≤ 100000) && ds.all (D.nm k)
  | k + 1, .tup ds => decide (ds.length ≤ 100000) && ds.all (D.nm k)
  | _, _ => false
end V2
end LS
namespace LS
open PM PM.Tr Classical
open HD (luK ptK drK)
inductive Deed where
  | put (k : Nat) (ws : List Int)
  | free (n : Nat)
  | back
  | settle (n v : Nat)
abbrev Tri := List Part × (Nat → Option Nat) × List Chg
def updS (σ : Nat → Option Nat) (n : Nat) (o : Option Nat) : Nat → Option Nat := fun m => if m = n then o else σ m
def setP2 (C : KC) (ps : List Part) (k : Nat) (ws : List Int) : List Part := ps.set k ⟨C.nss.getD k [], ws⟩
def dUndo (C : KC) (t : Tri) : Tri := match t.2.2.getLast? with
  | some (.part k ws) => (setP2 C t.1 k ws, t.2.1, t.2.2.dropLast)
  | some (.name n o) => (t.1, updS t.2.1 n o, t.2.2.dropLast)
  | none => t
def dStep (C : KC) (t : Tri) : Deed → Tri
  | .put k ws => (setP2 C t.1 k ws, t.2.1, t.2.2 ++ [.part k (t.1.getD k ⟨[], []⟩).ws])
  | .settle n v => (t.1, updS t.2.1 n (some v), t.2.2 ++ [.name n (t.2.1 n)])
  | .free n => (t.1, updS t.2.1 n none, t.2.2 ++ [.name n (t.2.1 n)])
  | .back => dUndo C t
end LS
namespace LS
namespace V2
open PySem L2 HD PM
structure MA where
  p : Addr
  pa : Addr
  wa : Addr
  ca : Addr
  ka : Addr
abbrev MA.l (A : MA) : List Addr := [A.p, A.pa, A.wa, A.ca, A.ka]
end V2
end LS
namespace LS
namespace V2
open PySem L2 HD PM
def WsNum (C : KC) (ws : List Int) : Prop := (∀ x ∈ ws, -1000000000000 ≤ x ∧ x ≤ 1000000000000) ∧ (C.w = .any → ∀ x ∈ ws, x = 0 ∨ x = 1)
structure MInv (C : KC) (M : KM) : Prop where
  inv : KInv C M
  lt : ∀ t ∈ C.ts, t.1 < t.2
  lay : ∀ k, k < C.nss.length → C.lay.getD k 0 = layN C.Bs (C.nss.getD k [])
  wk : ∀ c ∈ M.ch, ∀ k ws, c = .part k ws → k < C.nss.length ∧ WsNum C ws
  pw : ∀ p ∈ M.ps, WsNum C p.ws
end V2
end LS
namespace LS
namespace V2
open PySem L2 HD PM
def AllN (C : KC) : Prop := ∀ n, n < C.S.length → ∃ x, x < C.Bs.length ∧ n ∈ bg C.Bs x
end V2
end LS
namespace LS
open PM PM.Tr Classical
theorem hang_up {ts : List (Nat × Nat)} {sm : List Nat} {top : Nat} {up rk : Nat → Nat} (hup : ∀ i ∈ sm, i = top ∨ (up i ∈ sm ∧ rk (up i) < rk i ∧ up i ∈ nearN ts i ∧ i ∈ nearN ts (up i))) : HangN ts sm := by
  intro h hh y hy
  have hm : h ∈ sm := List.mem_of_mem_head? hh
  have toT : ∀ k i, rk i ≤ k → i ∈ sm → Lnk ts sm h i → Lnk ts sm h top := by
    intro k
    induction k with
    | zero =>
      intro i hk hi hL
      rcases hup i hi with rfl | ⟨h1, h2, _⟩
      · exact hL
      · omega
    | succ k ih =>
      intro i hk hi hL
      rcases hup i hi with rfl | ⟨h1, h2, h3, _⟩
      · exact hL
      · exact ih (up i) (by omega) h1 (.step hL h3 h1)
  have hT : Lnk ts sm h top := toT _ h (Nat.le_refl _) hm .base
  have down : ∀ k y, rk y ≤ k → y ∈ sm → Lnk ts sm h y := by
    intro k
    induction k with
    | zero =>
      intro y hk hy
      rcases hup y hy with rfl | ⟨h1, h2, _⟩
      · exact hT
      · omega
    | succ k ih =>
      intro y hk hy
      rcases hup y hy with rfl | ⟨h1, h2, _, h4⟩
      · exact hT
      · exact .step (ih (up y) (by omega) h1) h4 hy
  exact down _ y (Nat.le_refl _) hy
theorem TR.hang {m root : Nat} {ts : List (Nat × Nat)} {up rk : Nat → Nat} (h : TR m ts root up rk) : HangN ts (List.range m) := by
  refine hang_up (top := root) (up := up) (rk := rk) fun i hi => ?_
  have hi := List.mem_range.1 hi
  by_cases e : i = root
  · exact .inl e
  · obtain ⟨h1, h2⟩ := h.hup i hi e
    have ed : Ed m root up i (up i) := .inl ⟨hi, e, rfl⟩
    exact .inr ⟨List.mem_range.2 h1, h2, h.near.2 ed, h.near.2 ed.symm⟩
theorem Rt.hang {N root : Nat} {Bs : List (List Nat)} {ts : List (Nat × Nat)} {up rk : Nat → Nat} (h : Rt N Bs ts root up rk) (n : Nat) : HangN ts ((List.range Bs.length).filter fun i => decide (n ∈ bg Bs i)) := by
  obtain ⟨top, ht⟩ := h.rip n
  refine hang_up (top := top) (up := up) (rk := rk) fun i hi => ?_
  obtain ⟨hi, hn⟩ := List.mem_filter.1 hi
  have hi := List.mem_range.1 hi
  have hn : n ∈ bg Bs i := by simpa using hn
  rcases ht i hi hn with e | ⟨e, hu⟩
  · exact .inl e
  · obtain ⟨h1, h2⟩ := h.tr.hup i hi e
    have ed : Ed Bs.length root up i (up i) := .inl ⟨hi, e, rfl⟩
    exact .inr ⟨List.mem_filter.2 ⟨List.mem_range.2 h1, by simpa using hu⟩, h2, h.tr.near.2 ed, h.tr.near.2 ed.symm⟩
theorem TR.count {m root : Nat} {ts : List (Nat × Nat)} {up rk : Nat → Nat} (h : TR m ts root up rk) : ts.length + 1 = m := by
  classical
  have hc : ∀ t ∈ ts, ∃ c, c < m ∧ c ≠ root ∧ (t = (c, up c) ∨ t = (up c, c)) := fun t ht => by
    rcases (h.ed_ts.2 (.inl ht) : Ed m root up t.1 t.2) with ⟨a, a', b⟩ | ⟨a, a', b⟩
    · exact ⟨t.1, a, a', .inl (Prod.ext rfl b.symm)⟩
    · exact ⟨t.2, a, a', .inr (Prod.ext b.symm rfl)⟩
  let ch : Nat × Nat → Nat := fun t => if ht : t ∈ ts then (hc t ht).choose else 0
  have hch : ∀ t ∈ ts, ch t < m ∧ ch t ≠ root ∧ (t = (ch t, up (ch t)) ∨ t = (up (ch t), ch t)) := fun t ht => by
    have e : ch t = (hc t ht).choose := dif_pos ht
    rw [e]
    exact (hc t ht).choose_spec
  have nd : (ts.map ch).Nodup := by
    unfold List.Nodup
    rw [List.pairwise_map]
    refine List.Pairwise.imp_of_mem (fun {t q} ht hq ne e => ?_) h.nd
    obtain ⟨_, _, h1⟩ := hch t ht
    obtain ⟨_, _, h2⟩ := hch q hq
    rw [e] at h1
    rcases h1 with h1 | h1 <;> rcases h2 with h2 | h2
    · exact ne (h1.trans h2.symm)
    · refine h.one t ht ?_
      have : (t.2, t.1) = q := Prod.ext ((congrArg Prod.snd h1).trans (congrArg Prod.fst h2).symm) ((congrArg Prod.fst h1).trans (congrArg Prod.snd h2).symm)
      rw [this]
      exact hq
    · refine h.one t ht ?_
      have : (t.2, t.1) = q := Prod.ext ((congrArg Prod.snd h1).trans (congrArg Prod.fst h2).symm) ((congrArg Prod.fst h1).trans (congrArg Prod.snd h2).symm)
      rw [this]
      exact hq
    · exact ne (h1.trans h2.symm)
  have l1 := nd_sub_len (a := root :: ts.map ch) (b := List.range m) (List.nodup_cons.2 ⟨fun z => by
    obtain ⟨t, ht, e⟩ := List.mem_map.1 z
    exact (hch t ht).2.1 e, nd⟩) fun x hx => by
    rcases List.mem_cons.1 hx with rfl | hx
    · exact List.mem_range.2 h.rt
    · obtain ⟨t, ht, rfl⟩ := List.mem_map.1 hx
      exact List.mem_range.2 (hch t ht).1
  have l2 := nd_sub_len (a := List.range m) (b := root :: ts.map ch) List.nodup_range fun x hx => by
    have hx := List.mem_range.1 hx
    by_cases e : x = root
    · rw [e]; exact List.mem_cons_self
    · refine List.mem_cons_of_mem _ ?_
      have r1 := (h.hup x hx e).2
      have key : ∀ t ∈ ts, t = (x, up x) ∨ t = (up x, x) → x ∈ ts.map ch := fun t ht ht2 => by
        obtain ⟨c1, c2, c3⟩ := hch t ht
        have r2 := (h.hup _ c1 c2).2
        refine List.mem_map.2 ⟨t, ht, ?_⟩
        generalize ch t = c at *
        rcases ht2 with rfl | rfl <;> rcases c3 with c3 | c3
        · exact (Prod.mk.inj c3).1.symm
        · obtain ⟨q1, q2⟩ := Prod.mk.inj c3
          rw [q2] at r1; rw [← q1] at r2; omega
        · obtain ⟨q1, q2⟩ := Prod.mk.inj c3
          rw [q1] at r1; rw [← q2] at r2; omega
        · exact (Prod.mk.inj c3).2.symm
      rcases h.ed_ts.1 (.inl ⟨hx, e, rfl⟩ : Ed m root up x (up x)) with z | z
      · exact key _ z (.inl rfl)
      · exact key _ z (.inr rfl)
  rw [List.length_cons, List.length_map, List.length_range] at l1 l2
  omega
end LS
namespace LS
namespace V2
namespace GYT
open PySem L2 HD PM
local macro_rules | `(tactic| trivial) => `(tactic| try simp -dsimp only [↓sIf, ↓sRet, ↓retD_ext, ↓retD_lst, ↓retD_al, ↓sSet, ↓sSetE, ↓sAsg, ↓sDrop, ↓sNext, ↓sFor, ↓sRetN, ↓sCont, ↓sBreak, ↓dTest, ↓dOp, ↓dVar_w, ↓dC, ↓dCons, ↓dNil, ↓dTup, ↓dLst, ↓frzDs, ↓frzD_ext, ↓frzD_lst, ↓frzD_al, ↓wd_ext, ↓wd_lst, ↓wd_al, ↓wds, ↓AtS_ext, ↓AtS_lst, ↓AtL, ↓fAdd, ↓fSub, ↓fMul, ↓fDiv, ↓fMod, ↓fPow, ↓fCmp, ↓fIn, ↓fEq_ii, ↓fEq_ss, ↓fEq_bb, ↓fEq_tt, ↓fEq_ll, ↓fNe_ii, ↓fNe_ss, ↓fNe_bb, ↓fNe_tt, ↓fNe_ll, ↓fIx_l, ↓fIx_t, ↓fIx_k, ↓fIx_f, ↓GetS_some, ↓NatS_some, ↓fSl, ↓fIsN, ↓fNotN, ↓D.knN, ↓dNot, ↓dAnd, ↓dOr, ↓dAndV_w, ↓dOrV_w, ↓dNotV, ↓dIf, ↓dNeg, ↓dChain_w, ↓BlS_bl, ↓dCall_w, ↓dCallJ_w, ↓anyAl, ↓frozs, ↓froz, ↓gSet, ↓gTupD, ↓gsCons, ↓gsNil, ↓dSeq, ↓seqD_tup, ↓seqD_elst, ↓seqD_lst, ↓seqD_al, ↓dRange1, ↓dRange2, ↓dZip, ↓dCB, ↓dLc, ↓dYes, ↓dNoPart, ↓dPart, ↓dSl, ↓fLen, ↓fMin, ↓fMax, ↓fSum, ↓fAll, ↓fAny, ↓fSorted, ↓fTuple, ↓fList, ↓dRg1, ↓dRg2, ↓dLstRg, ↓dTupRg, ↓dIndex, ↓fIdx, ↓dAppend_w, ↓dExtend_w, ↓extD_lst, ↓dPopAt_w, ↓popD_int, ↓dPop_w, ↓mutD_w, ↓sSetItem_w, ↓setD_int, ↓dSortSet, ↓dTable_w, ↓wipeE, finals1, finals2, finals3, finals4, finals5, finals6, fin1_ext, fin1_lst, List.getElem?_cons_zero, List.getElem?_cons_succ, List.getElem?_nil, List.set_cons_zero, List.set_cons_succ, List.cons_append, List.nil_append, List.append_nil, List.replicate_succ, List.replicate_zero, List.map_cons, List.map_nil, List.length_cons, List.length_nil, true_and, and_true, ite_true, ite_false, if_true, if_false, Bool.false_eq_true, decide_eq_true_eq, Sl.plain, D.isSq, eq_self_iff_true, forall_const, reduceIte, true_or, or_true, atI_0, atI_1, atI_2, atI_3, ixN_0, ixN_1, ixN_2, AtS_ext, AtS_lst, FzS_lst, FzS_ext, GetS_some, NatS_some, ↓fIsi1, ↓fIsi2, BoolS_some, HD.kb_non_tuple, HD.kb_non_list, HD.kb_non_bool, HD.kb_non_int, HD.kb_non_str, HD.kb_bl_tuple, HD.kb_bl_list, HD.kb_bl_bool, HD.kb_bl_int, HD.kb_bl_str, HD.kb_int_tuple, HD.kb_int_list, HD.kb_int_bool, HD.kb_int_int, HD.kb_int_str, HD.kb_str_tuple, HD.kb_str_list, HD.kb_str_bool, HD.kb_str_int, HD.kb_str_str, HD.kb_lst_tuple, HD.kb_lst_list, HD.kb_lst_bool, HD.kb_lst_int, HD.kb_lst_str, HD.kb_tup_tuple, HD.kb_tup_list, HD.kb_tup_bool, HD.kb_tup_int, HD.kb_tup_str, ↓sFz_w, ↓FzS_lst, ↓FzS_ext, ↓dSortSetL, ↓fAbs, ↓fInt, ↓fRepr, ↓fLtT, ↓sRaise, ↓sTryKeep, ↓dCallV_w, ↓dMeth, ↓fCount, ↓fSplit, ↓seq_setE, ↓seq_set, ↓seq_drop, ↓seq_asg, ↓seq_if, ↓seq_for, ↓dStep, ↓fStep, ↓fMulT, ↓fIsB, ↓fNotB, ↓sPar, ↓dEnum, ↓dListZip, ↓dNest, ↓sSeal, ↓dNApp, ↓retD_reg, ↓dLenSet, ↓fSum2, ↓seq_putD, ↓seq_sealD, ↓dDIn, ↓dDGet, ↓sPutD, ↓dDNew, ↓dDOne, ↓sSealD, ↓dKeys, ↓keyS_dk, ↓dExtT, ↓fSortT, ↓fMinP, ↓dRemove, ↓dDInT, ↓dDGetT, ↓sPutDT, ↓dDNewT, ↓sSealDT, ↓dKeysT, ↓keyST_dt, ↓fSortK, ↓seq_putDT, ↓seq_sealDT, ↓dVarR_w, ↓dAttr, ↓dAppR, ↓dExtR_w, ↓dExtTR_w, ↓dClrR, ↓dPopR_w, ↓dIxR_w, ↓dDGetR, ↓dDInR, ↓dGet2R, ↓dPop1R, ↓dPop2R, ↓dDGetTR, ↓dDInTR, ↓dPop1TR, ↓dCallM, ↓dMethO, ↓dMake, ↓dMoveR, ↓dPtr, ↓sAttr, ↓sSetR, ↓sPutR, ↓sPutTR, ↓sSetA_w, ↓sSetG_w, ↓seq_setG, ↓seq_setA, ↓seq_attr, ↓seq_setR, ↓seq_putR, ↓seq_putTR, ↓RegS_reg, ↓CellS_some, ↓RefS_reg, ↓RefS_ar, ↓cellS_ar, ↓wd_ar, ↓seqD_ar, ↓lstO_lst, ↓insO_ins, ↓dkO_dk, ↓dkO_lk, ↓dtO_dt, ↓dtO_lk, ↓dkW_dk, ↓dtW_dt, ↓stoS_ext, ↓stoS_reg, ↓stoS_lstT, ↓stoS_lstF, ↓stoS_al, ↓ptrD_ref, ↓ptrD_int, ↓ptrD_str, ↓ptrD_bl, ↓ptrD_non, ↓ptrD_tup, ↓ptrD_tk, ↓ptrD_lst, ↓ptrD_fz, ↓setGS_lst, ↓setGS_reg, ↓setAS_ar, ↓setAS_ext, ↓intS_int, ↓tupS_tup, ↓lstS_lst, ↓lstK, ↓dkK, ↓dtK, ↓retD_reg, ↓dSortSetB, ↓fSortD, ↓fInD, ↓dCallD, ↓regC_reg, ↓dMoveL, ↓dMoveR_w, ↓dDictP, ↓froz_lst, ↓froz_ext, ↓dUpdTR, ↓gLstD])
local macro_rules | `(tactic| and_intros) => `(tactic| try simp -dsimp only [↓sIf, ↓sRet, ↓retD_ext, ↓retD_lst, ↓retD_al, ↓sSet, ↓sSetE, ↓sAsg, ↓sDrop, ↓sNext, ↓sFor, ↓sRetN, ↓sCont, ↓sBreak, ↓dTest, ↓dOp, ↓dC, ↓dCons, ↓dNil, ↓dTup, ↓dLst, ↓frzDs, ↓frzD_ext, ↓frzD_lst, ↓frzD_al, ↓wd_ext, ↓wd_lst, ↓wd_al, ↓wds, ↓AtS_ext, ↓AtS_lst, ↓AtL, ↓fAdd, ↓fSub, ↓fMul, ↓fDiv, ↓fMod, ↓fPow, ↓fCmp, ↓fIn, ↓fEq_ii, ↓fEq_ss, ↓fEq_bb, ↓fEq_tt, ↓fEq_ll, ↓fNe_ii, ↓fNe_ss, ↓fNe_bb, ↓fNe_tt, ↓fNe_ll, ↓fIx_l, ↓fIx_t, ↓fIx_k, ↓fIx_f, ↓GetS_some, ↓NatS_some, ↓fSl, ↓fIsN, ↓fNotN, ↓D.knN, ↓dNot, ↓dAnd, ↓dOr, ↓dAndV_w, ↓dOrV_w, ↓dNotV, ↓dIf, ↓dNeg, ↓dChain_w, ↓BlS_bl, ↓dCall_w, ↓dCallJ_w, ↓anyAl, ↓frozs, ↓froz, ↓gSet, ↓gTupD, ↓gsCons, ↓gsNil, ↓dSeq, ↓seqD_tup, ↓seqD_elst, ↓seqD_lst, ↓seqD_al, ↓dRange1, ↓dRange2, ↓dZip, ↓dCB, ↓dLc, ↓dYes, ↓dNoPart, ↓dPart, ↓dSl, ↓fLen, ↓fMin, ↓fMax, ↓fSum, ↓fAll, ↓fAny, ↓fSorted, ↓fTuple, ↓fList, ↓dRg1, ↓dRg2, ↓dLstRg, ↓dTupRg, ↓dIndex, ↓fIdx, ↓dAppend_w, ↓dExtend_w, ↓extD_lst, ↓dPopAt_w, ↓popD_int, ↓dPop_w, ↓mutD_w, ↓sSetItem_w, ↓setD_int, ↓dSortSet, ↓dTable_w, ↓wipeE, finals1, finals2, finals3, finals4, finals5, finals6, fin1_ext, fin1_lst, List.getElem?_cons_zero, List.getElem?_cons_succ, List.getElem?_nil, List.set_cons_zero, List.set_cons_succ, List.cons_append, List.nil_append, List.append_nil, List.replicate_succ, List.replicate_zero, List.map_cons, List.map_nil, List.length_cons, List.length_nil, true_and, and_true, ite_true, ite_false, if_true, if_false, Bool.false_eq_true, decide_eq_true_eq, Sl.plain, D.isSq, eq_self_iff_true, forall_const, reduceIte, true_or, or_true, atI_0, atI_1, atI_2, atI_3, ixN_0, ixN_1, ixN_2, AtS_ext, AtS_lst, FzS_lst, FzS_ext, GetS_some, NatS_some, ↓fIsi1, ↓fIsi2, BoolS_some, HD.kb_non_tuple, HD.kb_non_list, HD.kb_non_bool, HD.kb_non_int, HD.kb_non_str, HD.kb_bl_tuple, HD.kb_bl_list, HD.kb_bl_bool, HD.kb_bl_int, HD.kb_bl_str, HD.kb_int_tuple, HD.kb_int_list, HD.kb_int_bool, HD.kb_int_int, HD.kb_int_str, HD.kb_str_tuple, HD.kb_str_list, HD.kb_str_bool, HD.kb_str_int, HD.kb_str_str, HD.kb_lst_tuple, HD.kb_lst_list, HD.kb_lst_bool, HD.kb_lst_int, HD.kb_lst_str, HD.kb_tup_tuple, HD.kb_tup_list, HD.kb_tup_bool, HD.kb_tup_int, HD.kb_tup_str, ↓sFz_w, ↓FzS_lst, ↓FzS_ext, ↓dSortSetL, ↓fAbs, ↓fInt, ↓fRepr, ↓fLtT, ↓sRaise, ↓sTryKeep, ↓dCallV_w, ↓dMeth, ↓fCount, ↓fSplit, ↓seq_setE, ↓seq_set, ↓seq_drop, ↓seq_asg, ↓seq_if, ↓seq_for, ↓dStep, ↓fStep, ↓fMulT, ↓fIsB, ↓fNotB, ↓sPar, ↓dEnum, ↓dListZip, ↓dNest, ↓sSeal, ↓dNApp, ↓retD_reg, ↓dLenSet, ↓fSum2, ↓seq_putD, ↓seq_sealD, ↓dDIn, ↓dDGet, ↓sPutD, ↓dDNew, ↓dDOne, ↓sSealD, ↓dKeys, ↓keyS_dk, ↓dExtT, ↓fSortT, ↓fMinP, ↓dRemove, ↓dDInT, ↓dDGetT, ↓sPutDT, ↓dDNewT, ↓sSealDT, ↓dKeysT, ↓keyST_dt, ↓fSortK, ↓seq_putDT, ↓seq_sealDT, ↓dVarR_w, ↓dAttr, ↓dAppR, ↓dExtR_w, ↓dExtTR_w, ↓dClrR, ↓dPopR_w, ↓dIxR_w, ↓dDGetR, ↓dDInR, ↓dGet2R, ↓dPop1R, ↓dPop2R, ↓dDGetTR, ↓dDInTR, ↓dPop1TR, ↓dCallM, ↓dMethO, ↓dMake, ↓dMoveR, ↓dPtr, ↓sAttr, ↓sSetR, ↓sPutR, ↓sPutTR, ↓sSetA_w, ↓sSetG_w, ↓seq_setG, ↓seq_setA, ↓seq_attr, ↓seq_setR, ↓seq_putR, ↓seq_putTR, ↓RegS_reg, ↓CellS_some, ↓RefS_reg, ↓RefS_ar, ↓cellS_ar, ↓wd_ar, ↓seqD_ar, ↓lstO_lst, ↓insO_ins, ↓dkO_dk, ↓dkO_lk, ↓dtO_dt, ↓dtO_lk, ↓dkW_dk, ↓dtW_dt, ↓stoS_ext, ↓stoS_reg, ↓stoS_lstT, ↓stoS_lstF, ↓stoS_al, ↓ptrD_ref, ↓ptrD_int, ↓ptrD_str, ↓ptrD_bl, ↓ptrD_non, ↓ptrD_tup, ↓ptrD_tk, ↓ptrD_lst, ↓ptrD_fz, ↓setGS_lst, ↓setGS_reg, ↓setAS_ar, ↓setAS_ext, ↓intS_int, ↓tupS_tup, ↓lstS_lst, ↓lstK, ↓dkK, ↓dtK, ↓retD_reg, ↓dSortSetB, ↓fSortD, ↓fInD, ↓dCallD, ↓regC_reg, ↓dMoveL, ↓dMoveR_w, ↓dDictP, ↓froz_lst, ↓froz_ext, ↓dUpdTR, ↓gLstD, ↓dv0, ↓dw0, ↓dv1, ↓dw1, ↓dv2, ↓dw2, ↓dv3, ↓dw3, ↓dv4, ↓dw4, ↓dv5, ↓dw5, ↓dv6, ↓dw6, ↓dv7, ↓dw7, ↓dv8, ↓dw8, ↓dv9, ↓dw9, ↓dv10, ↓dw10, ↓dv11, ↓dw11, ↓dv12, ↓dw12, ↓dv13, ↓dw13, ↓dv14, ↓dw14, ↓dv15, ↓dw15, ↓dv16, ↓dw16, ↓dv17, ↓dw17, ↓dv18, ↓dw18, ↓dv19, ↓dw19])
def sp_law_gtree : DSpec := fun args Q _ => ∃ (n : Nat) (a : Addr) (ds : List D) (S : List Nat) (ps : List Part), args = [.lst a ds, .ext (dSh S ps)] ∧ JarOk n ds ∧ n + 300 < 4294967296 ∧ NsOk S ps ∧ 0 < S.length ∧ S.length ≤ 12 ∧ ps.length ≤ 40 ∧ (∀ p ∈ ps, p.ns.length ≤ 12) ∧
  ∀ Bs ts ds' fin, TrSt S ps Bs ts → Bs.length ≤ S.length + 2 → (∀ t ∈ ts, t.1 < t.2) → ts.Pairwise pLe → JarOk (n + 300) ds' → Q (.ext (dTree Bs ts)) (.lst a ds' :: fin)
theorem q8_law_gtree {Ex : DX} {E : DEnds} {n : Nat} {a : Addr} {ds : List D} {S : List Nat} {ps : List Part} {Bs : List (List Nat)} {ts : List (Nat × Nat)} {u2 u5 u6 u7 u8 u9 u10 u11 : Sl} (hj : JarOk n ds) (hn : n + 64 < 4294967296) (hb : Bs.length ≤ 60) (htl : ts.length ≤ 60) (h : TrSt S ps Bs ts)
    (hE : ∀ Cs us ds' fin, TrSt S ps Cs us → Cs.length = Bs.length → (∀ t ∈ us, t.1 < t.2) → us.Pairwise pLe → JarOk (n + 64) ds' → E.rt (.ext (dTree Cs us)) (.lst a ds' :: .ext (dSh S ps) :: fin)) :
    k8_law_gtree Ex E [.lst a ds, .ext (dSh S ps), u2, .ext (.lst (fD Bs)), .ext (.lst (ts.map tieD)), u5, u6, u7, u8, u9, u10, u11, .un, .un] := by
  unfold k8_law_gtree
  trivial
  refine ⟨n, a, ds, Bs.length, by rw [fD_len], hj, hn, hb, fun o b ds' fin hp hj' => ?_⟩
  trivial
  rw [fD_len, rgD_nat]
  have hol := hp.length_eq
  rw [List.length_range] at hol
  have nd : o.Nodup := hp.nodup_iff.2 List.nodup_range
  have hmem : ∀ x, x ∈ o ↔ x < Bs.length := fun x => by rw [hp.mem_iff, List.mem_range]
  obtain ⟨root, up, rk, hR⟩ := h
  have hlt : ∀ t ∈ ts, t.1 < Bs.length ∧ t.2 < Bs.length := fun t ht => by
    have := hR.rt.tr.ed_lt (hR.rt.tr.ed_ts.2 (.inl ht) : PM.Tr.Ed Bs.length root up t.1 t.2)
    exact ⟨this.1, this.2.1⟩
  refine ⟨⟨by omega, by omega⟩, ?_⟩
  refine lc_map (fun k : Nat => D.int (k : Int)) (fun k => .tup (nD (bg Bs (o.idxOf k)))) True.intro (List.range Bs.length) (by rw [List.length_range]; exact Nat.le_trans hb (by decide)) (fun k hk R hR => ?_) fun b => ?_
  · have hk := List.mem_range.1 hk
    unfold e6_law_gtree
    trivial
    refine ⟨rfl, flat_nD o, _, idx_at ((hmem k).2 hk), ?_⟩
    rw [show atI (fD Bs) ((o.idxOf k : Nat) : Int) = some (D.tup (nD (bg Bs (o.idxOf k)))) from atN (getD_bg (by rw [← hol]; exact List.idxOf_lt_length_iff.2 ((hmem k).2 hk)))]
    trivial
    exact hR
  trivial
  refine lc_map tieD (fun t : Nat × Nat => tieD (srtT (o.getD t.1 0) (o.getD t.2 0))) True.intro ts (Nat.le_trans htl (by decide)) (fun t ht R hR => ?_) fun b2 => ?_
  · obtain ⟨h1, h2⟩ := hlt t ht
    unfold e7_law_gtree tieD
    trivial
    refine ⟨_, atN (getD_at (by omega)), ?_⟩
    trivial
    refine ⟨_, atN (getD_at (by omega)), ?_⟩
    trivial
    refine ⟨by decide, [(o.getD t.1 0 : Int), (o.getD t.2 0 : Int)], rfl, fun ns' hp' hs' => ?_⟩
    have e := srt_pair hp' hs'
    subst e
    trivial
    exact hR
  trivial
  have em : (ts.map fun t => tieD (srtT (o.getD t.1 0) (o.getD t.2 0))) = (ts.map fun t => srtT (o.getD t.1 0) (o.getD t.2 0)).map tieD := by rw [List.map_map]; rfl
  rw [em]
  refine ⟨srt_ties _, fun ds2 hp2 hs2 => ?_⟩
  obtain ⟨us, hus, rfl⟩ := perm_map_inv hp2
  obtain ⟨r1, r2⟩ := hR.turned hp hus
  trivial
  refine ⟨by decide, ?_⟩
  have eb : ((List.range Bs.length).map fun k => D.tup (nD (bg Bs (o.idxOf k)))) = fD ((List.range Bs.length).map fun k => bg Bs (o.idxOf k)) := by
    unfold fD
    rw [List.map_map]
    rfl
  rw [eb]
  exact hE ((List.range Bs.length).map fun k => bg Bs (o.idxOf k)) us ds' _ r1 (by simp) r2 ((List.pairwise_map.1 hs2).imp fun h => lt_tie _ _ h) hj'
theorem q9_law_gtree {Ex : DX} {E : DEnds} {n : Nat} {a : Addr} {ds : List D} {S : List Nat} {ps : List Part} {Bs : List (List Nat)} {ts : List (Nat × Nat)} {u2 u5 u6 u7 u8 u9 u10 u11 : Sl} (hj : JarOk n ds) (hn : n + 70 < 4294967296) (hS : S.length ≤ 12) (hS0 : 0 < S.length) (hb0 : 0 < Bs.length) (hb : Bs.length ≤ 60) (htl : ts.length ≤ 60) (ok : NsOk S ps) (h : TrSt S ps Bs ts)
    (hE : ∀ Cs us ds' fin, TrSt S ps Cs us → Cs.length ≤ Bs.length → (∀ t ∈ us, t.1 < t.2) → us.Pairwise pLe → JarOk (n + 70) ds' → E.rt (.ext (dTree Cs us)) (.lst a ds' :: .ext (dSh S ps) :: fin)) :
    k9_law_gtree Ex E [.lst a ds, .ext (dSh S ps), u2, .ext (.lst (fD Bs)), .ext (.lst (ts.map tieD)), u5, u6, u7, u8, u9, u10, u11, .un, .un] := by
  unfold k9_law_gtree
  and_intros
  refine ⟨n, a, ds, _, rfl, hj, by omega, gdok (by decide) (by decide), fun r ds1 fin r0 r1 hj1 => ?_⟩
  and_intros
  split
  · have er : rgD 0 ((nD S).length : Int) = nD (List.range S.length) := by rw [nD_len, rgD_nat]
    rw [er]
    refine ⟨by rw [nD_len]; exact RgOk.of_le (by omega) (by omega) (by omega) (by omega), by decide, Nat.zero_le _, by decide, ?_⟩
    exact q8_law_gtree (Bs := [List.range S.length]) (ts := []) hj1 (by omega) (by simp) (Nat.zero_le _) (TrSt.all hS0 ok) fun Cs us ds' fin h1 h2 h3 h5 h4 => hE Cs us ds' fin h1 (by rw [h2]; exact hb0) h3 h5 (h4.up (by omega))
  · exact q8_law_gtree hj1 (by omega) hb htl h fun Cs us ds' fin h1 h2 h3 h5 h4 => hE Cs us ds' fin h1 (by omega) h3 h5 (h4.up (by omega))
theorem q10_law_gtree {Ex : DX} {E : DEnds} {n : Nat} {a a3 a4 : Addr} {ds : List D} {S : List Nat} {ps : List Part} {Bs : List (List Nat)} {ts : List (Nat × Nat)} {u2 u5 u6 u7 u8 u9 u10 u11 : Sl} (hj : JarOk n ds) (hn : n + 90 < 4294967296) (hS : S.length ≤ 12) (hS0 : 0 < S.length) (hb : Bs.length ≤ 60) (htl : ts.length ≤ 60) (ok : NsOk S ps) (h : TrSt S ps Bs ts)
    (hE : ∀ Cs us ds' fin, TrSt S ps Cs us → Cs.length ≤ Bs.length → (∀ t ∈ us, t.1 < t.2) → us.Pairwise pLe → JarOk (n + 90) ds' → E.rt (.ext (dTree Cs us)) (.lst a ds' :: .ext (dSh S ps) :: fin)) :
    k10_law_gtree Ex E [.lst a ds, .ext (dSh S ps), u2, .lst a3 (fD Bs), .lst a4 (ts.map tieD), u5, u6, u7, u8, u9, u10, u11, .un, .un] := by
  unfold k10_law_gtree
  unfold sSeq
  and_intros
  refine ⟨n, a, ds, _, rfl, hj, by omega, gdok (by decide) (by decide), fun r ds1 fin r0 r1 hj1 => ?_⟩
  and_intros
  refine ⟨⟨by omega, by omega⟩, ?_⟩
  obtain ⟨r, rfl⟩ := Int.eq_ofNat_of_zero_le r0
  rw [rgD_nat]
  refine for_ind (fun k : Nat => D.int (k : Nat)) (fun xs env => ∃ (m : Nat) (ds : List D) (Cs : List (List Nat)) (us : List (Nat × Nat)) (u8 : Sl), env = [.lst a ds, .ext (dSh S ps), u2, .ext (.lst (fD Cs)), .ext (.lst (us.map tieD)), u5, u6, u7, u8, u9, u10, u11, .un, .un] ∧ JarOk m ds ∧ m + xs.length ≤ n + 5 ∧ TrSt S ps Cs us ∧ Cs.length ≤ Bs.length ∧ us.length ≤ 60) ?_ ?_ (List.range r) _ ⟨n + 1, ds1, Bs, ts, _, rfl, hj1, by rw [List.length_range]; omega, h, Nat.le_refl _, htl⟩
  · rintro env ⟨m, ds2, Cs, us, u8, rfl, hj2, hm, hT, hl1, hl2⟩
    rw [List.length_nil] at hm
    refine ⟨True.intro, ?_⟩
    have hC0 : 0 < Cs.length := by
      obtain ⟨root, up, rk, hR⟩ := hT
      exact Nat.lt_of_le_of_lt (Nat.zero_le _) hR.rt.tr.rt
    exact q9_law_gtree hj2 (by omega) hS hS0 hC0 (by omega) hl2 ok hT fun Ds vs ds' fin h1 h2 h3 h5 h4 => hE Ds vs ds' fin h1 (by omega) h3 h5 (h4.up (by omega))
  · rintro k xs env N ⟨m, ds2, Cs, us, u8, rfl, hj2, hm, hT, hl1, hl2⟩ hN
    rw [List.length_cons] at hm
    refine ⟨True.intro, ?_⟩
    unfold b5_law_gtree
    and_intros
    refine ⟨Nat.zero_le _, cmp_ties us, cmp_ties [], ?_⟩
    cases us with
    | nil =>
      rw [if_neg (by rw [show D.eqv (.lst (([] : List (Nat × Nat)).map tieD)) (.lst []) = true from eqv_refl (cmp_ties [])]; decide)]
      exact hN _ ⟨m, ds2, Cs, [], _, rfl, hj2, by omega, hT, hl1, hl2⟩
    | cons t0 tr =>
      rw [if_pos (by rw [eqv_tiesnil]; rfl)]
      generalize hus : t0 :: tr = us at *
      have h0 : 0 < us.length := by rw [← hus]; exact Nat.succ_pos _
      rw [List.length_map]
      refine ⟨m, a, ds2, _, rfl, hj2, by omega, gdok (by omega) (by omega), fun q ds3 fin q0 q1 hj3 => ?_⟩
      and_intros
      obtain ⟨q, rfl⟩ := Int.eq_ofNat_of_zero_le q0
      refine ⟨S, ps, Cs, us, q, rfl, hT, hS, by omega, hl2, by omega, fun Ds vs fin hT2 e1 e2 => ?_⟩
      and_intros
      exact hN _ ⟨m + 1, ds3, Ds, vs, _, rfl, hj3, by omega, hT2, by omega, by omega⟩
theorem q11_law_gtree {Ex : DX} {E : DEnds} {n : Nat} {a a3 a4 : Addr} {ds : List D} {S : List Nat} {ps : List Part} {Bs : List (List Nat)} {ts : List (Nat × Nat)} {u2 u5 u6 u7 u8 u9 u10 u11 : Sl} (hj : JarOk n ds) (hn : n + 100 < 4294967296) (hS : S.length ≤ 12) (hS0 : 0 < S.length) (ok : NsOk S ps) (hb : Bs.length ≤ 60) (htl : ts.length ≤ 60) (h : TrSt S ps Bs ts)
    (hE : ∀ Cs us ds' fin, TrSt S ps Cs us → Cs.length ≤ Bs.length → (∀ t ∈ us, t.1 < t.2) → us.Pairwise pLe → JarOk (n + 100) ds' → E.rt (.ext (dTree Cs us)) (.lst a ds' :: .ext (dSh S ps) :: fin)) :
    k11_law_gtree Ex E [.lst a ds, .ext (dSh S ps), u2, .lst a3 (fD Bs), .lst a4 (ts.map tieD), u5, u6, u7, u8, u9, u10, u11, .un, .un] := by
  have goon : ∀ {m : Nat} {ds : List D} {Cs : List (List Nat)} {u7 u11 : Sl}, JarOk m ds → m ≤ n + 2 → Cs.length = Bs.length → TrSt S ps Cs ts → k10_law_gtree Ex E [.lst a ds, .ext (dSh S ps), u2, .lst a3 (fD Cs), .lst a4 (ts.map tieD), u5, u6, u7, u8, u9, u10, u11, .un, .un] := fun {m ds Cs _ _} hj hm hl hT =>
    q10_law_gtree hj (by omega) hS hS0 (by omega) htl ok hT fun Ds us ds' fin h1 h2 h3 h5 h4 => hE Ds us ds' fin h1 (by omega) h3 h5 (h4.up (by omega))
  unfold k11_law_gtree
  trivial
  refine ⟨Nat.zero_le _, cmp_ties ts, cmp_ties [], ?_⟩
  cases ts with
  | nil =>
    rw [if_neg (by rw [show D.eqv (.lst (([] : List (Nat × Nat)).map tieD)) (.lst []) = true from eqv_refl (cmp_ties [])]; decide)]
    exact goon hj (by omega) rfl h
  | cons t0 tr =>
    rw [if_pos (by rw [eqv_tiesnil]; rfl)]
    generalize hts : t0 :: tr = ts at *
    have h0 : 0 < ts.length := by rw [← hts]; exact Nat.succ_pos _
    refine ⟨n, a, ds, _, rfl, hj, by omega, gdok (by decide) (by decide), fun r ds1 fin r0 r1 hj1 => ?_⟩
    trivial
    split
    · trivial
      rw [List.length_map]
      refine ⟨n + 1, a, ds1, _, rfl, hj1, by omega, gdok (by omega) (by omega), fun r ds2 fin r0 r1 hj2 => ?_⟩
      trivial
      obtain ⟨k, rfl⟩ := Int.eq_ofNat_of_zero_le r0
      have hk : k < ts.length := by omega
      have ht := List.getElem_mem hk
      refine ⟨_, atN (show (ts.map tieD)[k]? = some (.tup [.int (ts[k].1 : Nat), .int (ts[k].2 : Nat)]) by rw [List.getElem?_map, List.getElem?_eq_getElem hk]; rfl), ?_⟩
      generalize ts[k] = t at *
      obtain ⟨l1, l2⟩ := h.lt t ht
      trivial
      rw [show atI (fD Bs) ((t.1 : Nat) : Int) = some (D.tup (nD (bg Bs t.1))) from atN (getD_bg l1)]
      trivial
      rw [show atI (fD Bs) ((t.2 : Nat) : Int) = some (D.tup (nD (bg Bs t.2))) from atN (getD_bg l2)]
      trivial
      rw [cutt_1, ← nD_app]
      obtain ⟨b1, b2, b3⟩ := h.bag t.1
      refine ⟨?_, (bg Bs t.1 ++ (bg Bs t.2).take 1).map (fun m : Nat => (m : Int)), by rw [List.map_map]; rfl, ?_, fun ns' hp hm => ?_⟩
      · rw [nD_len, nD_len, List.length_take]
        exact Nat.le_trans (by omega : _ ≤ 100) (by decide)
      · rw [List.length_map, List.length_append, List.length_take]
        omega
      obtain ⟨C, rfl, hr, hC⟩ := nat_of_set hp hm
      trivial
      rw [show ixN (fD Bs).length ((t.1 : Nat) : Int) = some t.1 from ixN_nat (by rw [fD_len]; exact l1)]
      trivial
      rw [show (C.map (fun n : Nat => (n : Int))).map D.int = nD C by rw [List.map_map]; rfl, fD_set]
      exact goon hj2 (by omega) (List.length_set ..) (h.widen ht hr hC)
    · exact goon hj1 (by omega) rfl h
theorem q12_law_gtree {Ex : DX} {E : DEnds} {n : Nat} {a a3 a4 : Addr} {ds : List D} {S : List Nat} {ps : List Part} {Bs : List (List Nat)} {ts : List (Nat × Nat)} {u2 u5 u6 u7 u8 u9 u10 u11 : Sl} (hj : JarOk n ds) (hn : n + 170 < 4294967296) (hS : S.length ≤ 12) (hS0 : 0 < S.length) (ok : NsOk S ps) (hb : Bs.length ≤ 50) (hb0 : 0 < Bs.length) (htl : ts.length ≤ 50) (h : TrSt S ps Bs ts)
    (hE : ∀ Cs us ds' fin, TrSt S ps Cs us → Cs.length ≤ Bs.length + 2 → (∀ t ∈ us, t.1 < t.2) → us.Pairwise pLe → JarOk (n + 170) ds' → E.rt (.ext (dTree Cs us)) (.lst a ds' :: .ext (dSh S ps) :: fin)) :
    k12_law_gtree Ex E [.lst a ds, .ext (dSh S ps), u2, .lst a3 (fD Bs), .lst a4 (ts.map tieD), u5, u6, u7, u8, u9, u10, u11, .un, .un] := by
  unfold k12_law_gtree
  trivial
  refine ⟨n, a, ds, _, rfl, hj, by omega, gdok (by decide) (by decide), fun r ds1 fin r0 r1 hj1 => ?_⟩
  trivial
  refine ⟨⟨by omega, by omega⟩, ?_⟩
  obtain ⟨r, rfl⟩ := Int.eq_ofNat_of_zero_le r0
  rw [rgD_nat]
  refine for_ind (fun k : Nat => D.int (k : Nat)) (fun xs env => ∃ (m : Nat) (ds : List D) (Cs : List (List Nat)) (us : List (Nat × Nat)) (u8 u9 u10 : Sl), env = [.lst a ds, .ext (dSh S ps), u2, .lst a3 (fD Cs), .lst a4 (us.map tieD), u5, u6, u7, u8, u9, u10, u11, .un, .un] ∧ JarOk m ds ∧ m + 20 * xs.length ≤ n + 1 + 40 ∧ TrSt S ps Cs us ∧ Cs.length + xs.length = Bs.length + r ∧ us.length + xs.length = ts.length + r ∧ xs.length ≤ r) ?_ ?_ (List.range r) _ ⟨n + 1, ds1, Bs, ts, _, _, _, rfl, hj1, by rw [List.length_range]; omega, h, by rw [List.length_range], by rw [List.length_range], by rw [List.length_range]; exact Nat.le_refl _⟩
  · rintro env ⟨m, ds2, Cs, us, u8, u9, u10, rfl, hj2, hm, hT, hl1, hl2, hl3⟩
    rw [List.length_nil] at hm hl1 hl2 hl3
    refine ⟨True.intro, ?_⟩
    exact q11_law_gtree hj2 (by omega) hS hS0 ok (by omega) (by omega) hT fun Ds vs ds' fin h1 h2 h3 h5 h4 => hE Ds vs ds' fin h1 (by omega) h3 h5 (h4.up (by omega))
  · rintro k xs env N ⟨m, ds2, Cs, us, u8, u9, u10, rfl, hj2, hm, hT, hl1, hl2, hl3⟩ hN
    rw [List.length_cons] at hm hl1 hl2 hl3
    refine ⟨True.intro, ?_⟩
    unfold b4_law_gtree
    trivial
    rw [fD_len]
    refine ⟨m, a, ds2, _, rfl, hj2, by omega, gdok (by omega) (by omega), fun q ds3 fin q0 q1 hj3 => ?_⟩
    trivial
    obtain ⟨q, rfl⟩ := Int.eq_ofNat_of_zero_le q0
    have hq : q < Cs.length := by omega
    obtain ⟨b1, b2, b3⟩ := hT.bag q
    refine ⟨by decide, by rw [List.length_map]; exact Nat.lt_of_le_of_lt (by omega : _ ≤ 100) (by decide), ?_⟩
    rw [show atI (fD Cs) ((q : Nat) : Int) = some (D.tup (nD (bg Cs q))) from atN (getD_bg hq)]
    trivial
    refine lc_ind (fun k : Nat => D.int (k : Nat)) (fun xs acc env => ∃ (m2 : Nat) (ds : List D) (C pre : List Nat) (u10 : Sl), env = [.lst a ds, .ext (dSh S ps), u2, .lst a3 (fD Cs), .lst a4 ((us ++ [(q, Cs.length)]).map tieD), u5, u6, u7, dI (k : Nat), dI (q : Nat), u10, u11, .un, .un] ∧ acc = nD C ∧ JarOk m2 ds ∧ m2 + xs.length ≤ m + 13 ∧ C.Sublist pre ∧ bg Cs q = pre ++ xs) ?_ ?_ (bg Cs q) [] _
      ⟨m + 1, ds3, [], [], _, by rw [List.map_append, fD_len]; rfl, rfl, hj3, by omega, List.Sublist.refl _, rfl⟩
    · rintro acc env ⟨m2, ds4, C, pre, u10', rfl, rfl, hj4, hm4, hsub, he⟩
      rw [List.append_nil] at he
      subst he
      refine ⟨True.intro, fun b => ?_⟩
      trivial
      refine ⟨by rw [fD_len]; exact Nat.lt_of_le_of_lt (by omega : _ ≤ 100) (by decide), ?_⟩
      rw [show fD Cs ++ [D.tup (nD C)] = fD (Cs ++ [C]) by rw [fD_app]; rfl]
      rw [List.length_nil] at hm4
      exact hN _ ⟨m2, ds4, Cs ++ [C], us ++ [(q, Cs.length)], _, _, _, rfl, hj4, by omega, hT.hang hq hsub, by rw [List.length_append]; simp only [List.length_cons, List.length_nil]; omega, by rw [List.length_append]; simp only [List.length_cons, List.length_nil]; omega, by omega⟩
    · rintro y ys acc env N2 ⟨m2, ds4, C, pre, u10', rfl, rfl, hj4, hm4, hsub, he⟩ hN2
      rw [List.length_cons] at hm4
      have hC : C.length ≤ S.length := by
        have h1 := hsub.length_le
        have h2 := congrArg List.length he
        rw [List.length_append] at h2
        omega
      refine ⟨True.intro, by rw [nD_len]; exact Nat.lt_of_le_of_lt (by omega : _ ≤ 100) (by decide), ?_⟩
      trivial
      refine ⟨m2, a, ds4, _, rfl, hj4, by omega, gdok (by decide) (by decide), fun r2 ds5 fin r20 r21 hj5 => ?_⟩
      trivial
      split
      · unfold e3_law_gtree
        trivial
        rw [show nD C ++ [D.int (y : Nat)] = nD (C ++ [y]) by rw [nD_app]; rfl]
        exact hN2 _ _ ⟨m2 + 1, ds5, C ++ [y], pre ++ [y], _, rfl, rfl, hj5, by omega, hsub.append (List.Sublist.refl _), by rw [he, List.append_assoc]; rfl⟩
      · exact hN2 _ _ ⟨m2 + 1, ds5, C, pre ++ [y], _, rfl, rfl, hj5, by omega, hsub.trans (List.sublist_append_left _ _), by rw [he, List.append_assoc]; rfl⟩
theorem m_law_gtree : Meets t_law_gtree 2 12 sp_law_gtree := by
  rintro args Qd Xd ⟨n, a, ds, S, ps, rfl, hj, hn, ok, hS0, hS, hps, hpl, hQ⟩
  show t_law_gtree _ _ [_, _, .un, .un, .un, .un, .un, .un, .un, .un, .un, .un, .un, .un]
  unfold t_law_gtree
  trivial
  rw [nD_len]
  refine ⟨n, a, ds, S.length, rfl, hj, by omega, by omega, fun o b ds1 fin hp hj1 => ?_⟩
  trivial
  have hol := hp.length_eq
  rw [List.length_range] at hol
  have nd : o.Nodup := hp.nodup_iff.2 List.nodup_range
  have hmem : ∀ x, x ∈ o ↔ x < S.length := fun x => by rw [hp.mem_iff, List.mem_range]
  refine ⟨S, ps, o, rfl, ok, hS, hps, hpl, nd, fun x hx => (hmem x).1 hx, fun b3 fin => ?_⟩
  trivial
  rw [nD_len, rgD_pred]
  rw [show ((List.range o.length).map fun k => bagN S.length (gsOf ps) (o.take k) (o.getD k 0)) = elimB S.length (gsOf ps) o from rfl]
  refine ⟨Nat.zero_le _, fun a4 => ⟨⟨by omega, by omega⟩, ?_⟩⟩
  refine for_ind (fun i : Nat => D.int (i : Nat)) (fun xs env => ∃ (ys : List Nat) (u5 u6 u7 : Sl), env = [.lst a ds1, .ext (dSh S ps), .ext (.lst (nD o)), .lst b3 (fD (elimB S.length (gsOf ps) o)), .lst a4 ((ys.map fun k => LS.tieAt S.length (gsOf ps) o k).map tieD), u5, u6, u7, .un, .un, .un, .un, .un, .un] ∧ ys ++ xs = List.range (o.length - 1)) ?_ ?_ (List.range (o.length - 1)) _ ⟨[], _, _, _, rfl, rfl⟩
  · rintro env ⟨ys, u5, u6, u7, rfl, hys⟩
    rw [List.append_nil] at hys
    subst hys
    refine ⟨True.intro, ?_⟩
    have hT : TrSt S ps (elimB S.length (gsOf ps) o) ((List.range (o.length - 1)).map fun k => LS.tieAt S.length (gsOf ps) o k) :=
      ⟨_, _, _, RTree.base nd (fun m hm => (hmem m).1 hm) (fun m hm => (hmem m).2 hm) (by omega) fun ns hns m hm => by
        obtain ⟨p, hp, rfl⟩ := List.mem_map.1 hns
        exact (ok.ok p hp).2 m hm⟩
    refine q12_law_gtree hj1 (by omega) hS hS0 ok (by rw [elimB_len]; omega) (by rw [elimB_len]; omega) (by rw [List.length_map, List.length_range]; omega) hT fun Cs us ds' fin h1 h2 h3 h5 h4 => by trivial; exact hQ Cs us ds' _ h1 (by rw [elimB_len] at h2; omega) h3 h5 (h4.up (by omega))
  · rintro k xs env N ⟨ys, u5, u6, u7, rfl, hys⟩ hN
    have hk : k < o.length - 1 := List.mem_range.1 (by rw [← hys]; simp)
    have hyl : ys.length ≤ o.length := by
      have := congrArg List.length hys
      rw [List.length_append, List.length_range] at this
      omega
    refine ⟨True.intro, ?_⟩
    unfold b2_law_gtree
    trivial
    rw [nD_len, rgD_later]
    refine ⟨⟨by omega, by omega⟩, ⟨by omega, by omega⟩, ?_⟩
    refine lc_filter (fun i : Nat => D.int (i : Nat)) (fun i : Nat => D.int (i : Nat)) (fun j => decide (o.getD j 0 ∈ bagN S.length (gsOf ps) (o.take k) (o.getD k 0))) True.intro _ (by rw [List.length_map, List.length_range]; exact Nat.le_trans (by omega : _ ≤ 100) (by decide)) (fun j hj R hR => ?_) fun b => ?_
    · obtain ⟨i, hi, rfl⟩ := List.mem_map.1 hj
      have hi := List.mem_range.1 hi
      unfold e1_law_gtree
      trivial
      refine ⟨_, atN (getD_at (by omega)), ?_⟩
      trivial
      refine ⟨_, atN (bagsN_at (by omega)), ?_⟩
      trivial
      rw [isIn_nat]
      refine ⟨rfl, flat_nD _, ?_⟩
      split
      · rename_i h0
        rw [if_pos h0] at hR
        exact hR
      · rename_i h0
        rw [if_neg h0] at hR
        exact hR
    trivial
    have next : ∀ u5 u6 u7 : Sl, N [.lst a ds1, .ext (dSh S ps), .ext (.lst (nD o)), .lst b3 (fD (elimB S.length (gsOf ps) o)), .lst a4 ((ys.map fun k => LS.tieAt S.length (gsOf ps) o k).map tieD ++ [tieD (LS.tieAt S.length (gsOf ps) o k)]), u5, u6, u7, .un, .un, .un, .un, .un, .un] := fun u5 u6 u7 => hN _ ⟨ys ++ [k], u5, u6, u7, by rw [List.map_append, List.map_append]; rfl, by rw [List.append_assoc]; exact hys⟩
    have eup : tieD (LS.tieAt S.length (gsOf ps) o k) = .tup [.int (k : Nat), .int (upN o (bagN S.length (gsOf ps) (o.take k) (o.getD k 0)) k : Nat)] := rfl
    rw [eup] at next
    unfold upN at next
    rw [show ((List.range (o.length - (k + 1))).map fun i => k + 1 + i).filter (fun j => decide (o.getD j 0 ∈ bagN S.length (gsOf ps) (o.take k) (o.getD k 0))) = laterN o (bagN S.length (gsOf ps) (o.take k) (o.getD k 0)) k from rfl]
    have hml : ((ys.map fun k => LS.tieAt S.length (gsOf ps) o k).map tieD).length < sizeLine := by
      rw [List.length_map, List.length_map]
      exact Nat.lt_of_le_of_lt (by omega : _ ≤ 100) (by decide)
    have hLl : (laterN o (bagN S.length (gsOf ps) (o.take k) (o.getD k 0)) k).length ≤ 12 := by
      unfold laterN
      refine Nat.le_trans (List.length_filter_le _ _) ?_
      rw [List.length_map, List.length_range]
      omega
    generalize laterN o (bagN S.length (gsOf ps) (o.take k) (o.getD k 0)) k = L at *
    cases L with
    | nil =>
      trivial
      exact ⟨by decide, by decide, by decide, hml, next _ _ _⟩
    | cons y L =>
      trivial
      rw [List.length_cons] at hLl
      exact ⟨by decide, by rw [List.length_map]; exact Nat.le_trans (by omega : _ ≤ 100) (by decide), by decide, hml, next _ _ _⟩
theorem trst_btree {S : List Nat} {ps : List Part} {Bs : List (List Nat)} {ts : List NP} (h : TrSt S ps Bs ts) (hlt : ∀ t ∈ ts, t.1 < t.2) (hs : ts.Pairwise pLe) (hb : Bs.length ≤ 12) (h24 : S.length ≤ 24) : BTree S.length (gsOf ps) Bs ts := by
  have hbag := fun k => LS.TrSt.bag h k
  have hl := LS.TrSt.lt h
  obtain ⟨root, up, rk, hR⟩ := h
  have tr := hR.rt.tr
  refine ⟨hb, fun B hB => ?_, ⟨TR.count tr, by omega, fun t ht => ⟨hlt t ht, (hl t ht).2⟩, ?_, TR.hang tr⟩, fun ns hns => ?_, fun x hx => ⟨?_, Rt.hang hR.rt x⟩⟩
  · obtain ⟨k, hk, rfl⟩ := List.getElem_of_mem hB
    have e : bg Bs k = Bs[k] := by
      show Bs.getD k [] = _
      rw [List.getD_eq_getElem?_getD, List.getElem?_eq_getElem hk]
      rfl
    obtain ⟨b1, b2, b3⟩ := hbag k
    rw [e] at b1 b2 b3
    exact ⟨b1, by omega, b2⟩
  · refine List.Pairwise.imp_of_mem (fun {a b} ha hb hab => ?_) (hs.and tr.nd)
    obtain ⟨h1, h2⟩ := hab
    rcases h1 with h1 | ⟨h1, h3⟩
    · exact .inl h1
    · refine .inr ⟨h1, Nat.lt_of_le_of_ne h3 fun e => h2 (Prod.ext h1 e)⟩
  · obtain ⟨i, hi, hm⟩ := hR.part ns hns
    exact ⟨_, bg_mem hi, hm⟩
  · obtain ⟨i, hi, hm⟩ := hR.name x hx
    exact ⟨i, List.mem_range.2 hi, hm⟩
end GYT
end V2
end LS
namespace LS
namespace V2
open PySem L2 HD PM
theorem numsok_num {w : Wd} {p : Part} (h : NumsOk w p) : (∀ x ∈ p.ws, -1000000000000 ≤ x ∧ x ≤ 1000000000000) ∧ (w = .any → ∀ x ∈ p.ws, x = 0 ∨ x = 1) :=
  ⟨fun x hx => ⟨(h x hx).1, (h x hx).2.1⟩, fun e x hx => by have := (h x hx).2.2 e; omega⟩
structure Pre (w : Wd) (S : List Nat) (ps : List Part) (Bs : List (List Nat)) (ts : List NP) (root : Nat) (up rk : Nat → Nat) : Prop where
  sz : SzOk S
  h0 : 0 < S.length
  h12 : S.length ≤ 10
  hp : PsOk w S ps
  hl : ps.length ≤ 40
  nok : NsOk S ps
  bt : BTree S.length (gsOf ps) Bs ts
  pa : PostAll S ps Bs ts root up rk
  tl : ts.length ≤ 100
  bl : Bs.length ≤ 12
  rt : RTree S.length (gsOf ps) Bs ts root up rk
  lt : ∀ t ∈ ts, t.1 < t.2
theorem nsok_of {w : Wd} {S : List Nat} {ps : List Part} (hS : SzOk S) (hp : PsOk w S ps) (hl : ps.length ≤ 40) : NsOk S ps :=
  ⟨hS.few, by omega, fun p h => ⟨(hp p h).1.rise, (hp p h).1.lt⟩⟩
theorem pns_of {w : Wd} {S : List Nat} {ps : List Part} (h12 : S.length ≤ 12) (hp : PsOk w S ps) : ∀ p ∈ ps, p.ns.length ≤ 12 := fun p h => by
  have o := (hp p h).1
  have := nd_sub_len (b := List.range S.length) (o.rise.imp fun h => Nat.ne_of_lt h) fun x hx => List.mem_range.2 (o.lt x hx)
  rw [List.length_range] at this
  omega
theorem pre_of {w : Wd} {S : List Nat} {ps : List Part} {Bs : List (List Nat)} {ts : List NP} (hS : SzOk S) (h0 : 0 < S.length) (h10 : S.length ≤ 10) (hp : PsOk w S ps) (hl : ps.length ≤ 40) (hT : TrSt S ps Bs ts) (hb : Bs.length ≤ S.length + 2) (hlt : ∀ t ∈ ts, t.1 < t.2) (hs : ts.Pairwise pLe) : ∃ root up rk, Pre w S ps Bs ts root up rk := by
  have bt := GYT.trst_btree hT hlt hs (by omega) (by omega)
  obtain ⟨root, up, rk, hR⟩ := hT
  have htl : ts.length ≤ Bs.length := TR.few hR.rt.tr
  exact ⟨root, up, rk, hS, h0, h10, hp, hl, nsok_of hS hp hl, bt, post_all hR hS (fun p h => (hp p h).1) (fun p h => (hp p h).2.bd) (by omega) (by omega) (by omega) hlt, by omega, by omega, hR, hlt⟩
section
variable {w : Wd} {S : List Nat} {ps : List Part} {Bs : List (List Nat)} {ts : List NP} {root : Nat} {up rk : Nat → Nat} (P : Pre w S ps Bs ts root up rk)
include P
theorem Pre.alln {nrs : List (List Nat)} : AllN (kC0 w S ps Bs ts nrs root up rk 40) := fun n hn => P.rt.name n hn
theorem Pre.minv {nrs : List (List Nat)} (I : KInv (kC0 w S ps Bs ts nrs root up rk 40) (kM0 ps)) : MInv (kC0 w S ps Bs ts nrs root up rk 40) (kM0 ps) := by
  refine ⟨I, P.lt, fun k hk => ?_, (fun c hc => nomatch hc), fun p hp => numsok_num (P.hp p hp).2⟩
  have hk : k < (ps.map (·.ns)).length := hk
  rw [List.length_map] at hk
  show (ps.map fun p => layN Bs p.ns).getD k 0 = layN Bs ((ps.map (·.ns)).getD k [])
  rw [List.getD_eq_getElem?_getD, List.getD_eq_getElem?_getD, List.getElem?_map, List.getElem?_map, List.getElem?_eq_getElem hk]
  rfl
theorem Pre.init {a dx : Addr} {Q : Sl → List Sl → Prop} {X : Str → List Sl → Prop} (hne : a ≠ dx)
    (h : ∀ (A : KA) nrs, A.a = a → A.l.Nodup → PostOk S ps Bs ts nrs root up rk → KInv (kC0 w S ps Bs ts nrs root up rk 40) (kM0 ps) → MInv (kC0 w S ps Bs ts nrs root up rk 40) (kM0 ps) → AllN (kC0 w S ps Bs ts nrs root up rk 40) → Q (.ext .non) [keepS A (kC0 w S ps Bs ts nrs root up rk 40) (kM0 ps), dW w, .ext (dSh S ps), .ext (dTree Bs ts)]) :
    sp_Keeper_init [newS "Keeper" a dx, dW w, .ext (dSh S ps), .ext (dTree Bs ts)] Q X :=
  ⟨a, dx, w, S, ps, Bs, ts, root, up, rk, 40, rfl, hne, P.nok, P.bt, P.pa, P.tl, by have := P.bl; omega, fun p hp => (P.hp p hp).1, by decide, by have := P.hl; omega, fun p hp => (P.hp p hp).2.bd, fun A nrs e _ nd hP I => h A nrs e nd hP I (P.minv I) P.alln⟩
end
end V2
end LS
namespace HD
open PySem L2
section
variable {G : GG} {N : List Str} {sc : SC} {k : Nat} {a b : Expr} {pos : Pos}
def sParO (i j : Nat) (t : DTA) : DTS := fun Ex E env => t Ex env fun xs env1 => match xs with
  | [x, y] => x.plain ∧ y.plain ∧ E.nx ((env1.set i x).set j y)
  | _ => False
end
theorem seq_parO (i j : Nat) (t : DTA) (u : DTS) (Ex : DX) (E : DEnds) (env : Env') : sSeq (sParO i j t) u Ex E env = t Ex env fun xs env1 => match xs with
  | [x, y] => x.plain ∧ y.plain ∧ u Ex E ((env1.set i x).set j y)
  | _ => False := rfl
end HD
namespace LS
namespace V2
namespace Y5
open PySem L2 HD PM BT
local macro_rules | `(tactic| and_intros) => `(tactic| try simp -dsimp only [↓sIf, ↓sRet, ↓retD_ext, ↓retD_lst, ↓retD_al, ↓sSet, ↓sSetE, ↓sAsg, ↓sDrop, ↓sNext, ↓sFor, ↓sRetN, ↓sCont, ↓sBreak, ↓dTest, ↓dOp, ↓dC, ↓dCons, ↓dNil, ↓dTup, ↓dLst, ↓frzDs, ↓frzD_ext, ↓frzD_lst, ↓frzD_al, ↓wd_ext, ↓wd_lst, ↓wd_al, ↓wds, ↓AtS_ext, ↓AtS_lst, ↓AtL, ↓fAdd, ↓fSub, ↓fMul, ↓fDiv, ↓fMod, ↓fPow, ↓fCmp, ↓fIn, ↓fEq_ii, ↓fEq_ss, ↓fEq_bb, ↓fEq_tt, ↓fEq_ll, ↓fNe_ii, ↓fNe_ss, ↓fNe_bb, ↓fNe_tt, ↓fNe_ll, ↓fIx_l, ↓fIx_t, ↓fIx_k, ↓fIx_f, ↓GetS_some, ↓NatS_some, ↓fSl, ↓fIsN, ↓fNotN, ↓D.knN, ↓dNot, ↓dAnd, ↓dOr, ↓dAndV_w, ↓dOrV_w, ↓dNotV, ↓dIf, ↓dNeg, ↓dChain_w, ↓BlS_bl, ↓dCall_w, ↓dCallJ_w, ↓anyAl, ↓frozs, ↓froz, ↓gSet, ↓gTupD, ↓gsCons, ↓gsNil, ↓dSeq, ↓seqD_tup, ↓seqD_elst, ↓seqD_lst, ↓seqD_al, ↓dRange1, ↓dRange2, ↓dZip, ↓dCB, ↓dLc, ↓dYes, ↓dNoPart, ↓dPart, ↓dSl, ↓fLen, ↓fMin, ↓fMax, ↓fSum, ↓fAll, ↓fAny, ↓fSorted, ↓fTuple, ↓fList, ↓dRg1, ↓dRg2, ↓dLstRg, ↓dTupRg, ↓dIndex, ↓fIdx, ↓dAppend_w, ↓dExtend_w, ↓extD_lst, ↓dPopAt_w, ↓popD_int, ↓dPop_w, ↓mutD_w, ↓sSetItem_w, ↓setD_int, ↓dSortSet, ↓dTable_w, ↓wipeE, finals1, finals2, finals3, finals4, finals5, finals6, fin1_ext, fin1_lst, List.getElem?_cons_zero, List.getElem?_cons_succ, List.getElem?_nil, List.set_cons_zero, List.set_cons_succ, List.cons_append, List.nil_append, List.append_nil, List.replicate_succ, List.replicate_zero, List.map_cons, List.map_nil, List.length_cons, List.length_nil, true_and, and_true, ite_true, ite_false, if_true, if_false, Bool.false_eq_true, decide_eq_true_eq, Sl.plain, D.isSq, eq_self_iff_true, forall_const, reduceIte, true_or, or_true, atI_0, atI_1, atI_2, atI_3, ixN_0, ixN_1, ixN_2, AtS_ext, AtS_lst, FzS_lst, FzS_ext, GetS_some, NatS_some, ↓fIsi1, ↓fIsi2, BoolS_some, HD.kb_non_tuple, HD.kb_non_list, HD.kb_non_bool, HD.kb_non_int, HD.kb_non_str, HD.kb_bl_tuple, HD.kb_bl_list, HD.kb_bl_bool, HD.kb_bl_int, HD.kb_bl_str, HD.kb_int_tuple, HD.kb_int_list, HD.kb_int_bool, HD.kb_int_int, HD.kb_int_str, HD.kb_str_tuple, HD.kb_str_list, HD.kb_str_bool, HD.kb_str_int, HD.kb_str_str, HD.kb_lst_tuple, HD.kb_lst_list, HD.kb_lst_bool, HD.kb_lst_int, HD.kb_lst_str, HD.kb_tup_tuple, HD.kb_tup_list, HD.kb_tup_bool, HD.kb_tup_int, HD.kb_tup_str, ↓sFz_w, ↓FzS_lst, ↓FzS_ext, ↓dSortSetL, ↓fAbs, ↓fInt, ↓fRepr, ↓fLtT, ↓sRaise, ↓sTryKeep, ↓dCallV_w, ↓dMeth, ↓fCount, ↓fSplit, ↓seq_setE, ↓seq_set, ↓seq_drop, ↓seq_asg, ↓seq_if, ↓seq_for, ↓dStep, ↓fStep, ↓fMulT, ↓fIsB, ↓fNotB, ↓sPar, ↓dEnum, ↓dListZip, ↓dNest, ↓sSeal, ↓dNApp, ↓retD_reg, ↓dLenSet, ↓fSum2, ↓seq_putD, ↓seq_sealD, ↓dDIn, ↓dDGet, ↓sPutD, ↓dDNew, ↓dDOne, ↓sSealD, ↓dKeys, ↓keyS_dk, ↓dExtT, ↓fSortT, ↓fMinP, ↓dRemove, ↓dDInT, ↓dDGetT, ↓sPutDT, ↓dDNewT, ↓sSealDT, ↓dKeysT, ↓keyST_dt, ↓fSortK, ↓seq_putDT, ↓seq_sealDT, ↓dVarR_w, ↓dAttr, ↓dAppR, ↓dExtR_w, ↓dExtTR_w, ↓dClrR, ↓dPopR_w, ↓dIxR_w, ↓dDGetR, ↓dDInR, ↓dGet2R, ↓dPop1R, ↓dPop2R, ↓dDGetTR, ↓dDInTR, ↓dPop1TR, ↓dCallM, ↓dMethO, ↓dMake, ↓dMoveR, ↓dPtr, ↓sAttr, ↓sSetR, ↓sPutR, ↓sPutTR, ↓sSetA_w, ↓sSetG_w, ↓seq_setG, ↓seq_setA, ↓seq_attr, ↓seq_setR, ↓seq_putR, ↓seq_putTR, ↓RegS_reg, ↓CellS_some, ↓RefS_reg, ↓RefS_ar, ↓cellS_ar, ↓wd_ar, ↓seqD_ar, ↓lstO_lst, ↓insO_ins, ↓dkO_dk, ↓dkO_lk, ↓dtO_dt, ↓dtO_lk, ↓dkW_dk, ↓dtW_dt, ↓stoS_ext, ↓stoS_reg, ↓stoS_lstT, ↓stoS_lstF, ↓stoS_al, ↓ptrD_ref, ↓ptrD_int, ↓ptrD_str, ↓ptrD_bl, ↓ptrD_non, ↓ptrD_tup, ↓ptrD_tk, ↓ptrD_lst, ↓ptrD_fz, ↓setGS_lst, ↓setGS_reg, ↓setAS_ar, ↓setAS_ext, ↓intS_int, ↓tupS_tup, ↓lstS_lst, ↓lstK, ↓dkK, ↓dtK, ↓retD_reg, ↓dSortSetB, ↓fSortD, ↓fInD, ↓dCallD, ↓regC_reg, ↓dMoveL, ↓dMoveR_w, ↓dDictP, ↓froz_lst, ↓froz_ext, ↓dUpdTR, ↓dUpdKR, ↓dDictZipK, ↓dDictC, ↓gLstD, ↓dClear, ↓fStr, ↓dListItems, ↓dLenK, ↓dSortKI, ↓dInC, ↓fMinT, ↓fMaxT, ↓dListKT, ↓seq_parO, ↓sParO, ↓dDisp, ↓dispF, ↓dv0, ↓dw0, ↓dv1, ↓dw1, ↓dv2, ↓dw2, ↓dv3, ↓dw3, ↓dv4, ↓dw4, ↓dv5, ↓dw5, ↓dv6, ↓dw6, ↓dv7, ↓dw7, ↓dv8, ↓dw8, ↓dv9, ↓dw9, ↓dv10, ↓dw10, ↓dv11, ↓dw11, ↓dv12, ↓dw12, ↓dv13, ↓dw13, ↓dv14, ↓dw14, ↓dv15, ↓dw15, ↓dv16, ↓dw16, ↓dv17, ↓dw17, ↓dv18, ↓dw18, ↓dv19, ↓dw19])
abbrev sp_law_gtree := GYT.sp_law_gtree
abbrev t_law_gtree := V2.t_law_gtree
theorem m_law_gtree : Meets t_law_gtree 2 12 sp_law_gtree := GYT.m_law_gtree
abbrev sp_is_tie := BT.sp_is_tie
abbrev t_is_tie := BT.t_is_tie
theorem m_is_tie : Meets t_is_tie 2 0 sp_is_tie := BT.m_is_tie
abbrev sp_are_bags := BT.sp_are_bags
abbrev t_are_bags := BT.t_are_bags
theorem m_are_bags : Meets t_are_bags 2 1 sp_are_bags := BT.m_are_bags
abbrev sp_is_tree := BT.sp_is_tree
abbrev t_is_tree := BT.t_is_tree
theorem m_is_tree : Meets t_is_tree 3 2 sp_is_tree := BT.m_is_tree
abbrev sp_is_bag_tree := BT.sp_is_bag_tree
abbrev t_is_bag_tree := BT.t_is_bag_tree
theorem m_is_bag_tree : Meets t_is_bag_tree 2 8 sp_is_bag_tree := BT.m_is_bag_tree
def cs75 : List Str := ["NoTree"]
def sp_Keeper_init : DSpec := fun args Q X => (∃ (a dx : Addr) (w : Wd) (S : List Nat) (ps : List Part) (d : D) (k : Nat), args = [newS "Keeper" a dx, dW w, .ext (dSh S ps), .ext d] ∧ a ≠ dx ∧ NsOk S ps ∧ D.pl k d = true ∧ ¬ BtD S ps d ∧ X "NoTree" [newS "Keeper" a dx, dW w, .ext (dSh S ps), .ext d]) ∨ LS.sp_Keeper_init args Q X
def e1_Keeper_init : DT :=
    (dCall sp_near_of (dCons (dOp fIx (dVar 3) (dC (.int 1))) (dCons (dVar 4) dNil)))
def e2_Keeper_init : DT :=
    (dCall sp_bag_of (dCons (dVar 3) (dCons (dOp fIx (dVar 5) (dC (.int 0))) dNil)))
def t_Keeper_init : DTS :=
    (sSeq (sIf (dNot (dTest (dCall sp_is_bag_tree (dCons (dVar 2) (dCons (dVar 3) dNil))))) (sRaise "NoTree") sNext)
    (sSeq (sAttr "Keeper" "word" true (dVarR 0) (dVar 1))
    (sSeq (sAttr "Keeper" "sizes" true (dVarR 0) (dOp fIx (dVar 2) (dC (.int 0))))
    (sSeq (sAttr "Keeper" "parts" false (dVarR 0) (dCB fList (dCons (dOp fIx (dVar 2) (dC (.int 1))) dNil)))
    (sSeq (sAttr "Keeper" "bags" true (dVarR 0) (dOp fIx (dVar 3) (dC (.int 0))))
    (sSeq (sAttr "Keeper" "near" true (dVarR 0) (dLc (dRange1 (dCons (dCB fLen (dCons (dOp fIx (dVar 3) (dC (.int 0))) dNil)) dNil)) (gSet 4) dYes e1_Keeper_init [4]))
    (sSeq (sAttr "Keeper" "laid" true (dVarR 0) (dLc (dSeq (dOp fIx (dVar 2) (dC (.int 1)))) (gSet 5) dYes e2_Keeper_init [5]))
    (sSeq (sAttr "Keeper" "worths" false (dVarR 0) dDNew)
    (sSeq (sAttr "Keeper" "known" false (dVarR 0) dDNewT)
    (sSeq (sAttr "Keeper" "many" true (dVarR 0) (dC (.int 0)))
    (sAttr "Keeper" "changes" false (dVarR 0) (dLst dNil))))))))))))
theorem m_Keeper_init : Meets t_Keeper_init 4 2 sp_Keeper_init := by
  rintro args Qd Xd (⟨a, dx, w, S, ps, d, k, rfl, nad, hns, hpl, hbd, hX⟩ | ⟨a, dx, w, S, ps, Bs, ts, root, up, rk, b, rfl, nad, hns, hbt, hP, htl, hb, hok, b0, bl, hbd, hQ⟩)
  · show t_Keeper_init _ _ [_, _, _, _, .un, .un]
    unfold t_Keeper_init
    and_intros
    refine ⟨S, ps, d, k, rfl, hns, hpl, fun b fin hb => ?_⟩
    and_intros
    have eb : b = false := by
      rw [Bool.eq_false_iff]
      exact fun z => hbd (hb.1 z)
    rw [eb, if_pos (by decide)]
    show Xd _ [fin1 (newS "Keeper" a dx) (some (newS "Keeper" a dx)), _, _, _]
    rw [show fin1 (newS "Keeper" a dx) (some (newS "Keeper" a dx)) = newS "Keeper" a dx from if_pos ⟨rfl, rfl⟩]
    exact hX
  show t_Keeper_init _ _ [_, _, _, _, .un, .un]
  unfold t_Keeper_init
  and_intros
  refine ⟨S, ps, dTree Bs ts, 3, rfl, hns, pl_tree Bs ts (by omega) (fun B hb => Nat.le_trans (hbt.bag B hb).2.1 (by decide)) (by omega), fun bb fin hbb => ?_⟩
  and_intros
  rw [hbb.2 ⟨Bs, ts, rfl, hbt⟩, if_neg (by decide)]
  unfold dTree dSh
  have n1 : a ∉ [dx] := fun z => nad (List.mem_singleton.1 z)
  refine cellS_i (if_pos rfl) ?_
  and_intros
  refine ⟨by decide, fun _ => ?_⟩
  rw [putA n1, putFD_app (by rfl), List.nil_append]
  refine cellS_i (if_pos rfl) ?_
  and_intros
  refine ⟨show (1 : Nat) < 1000 by decide, fun _ => ?_⟩
  rw [putA n1, putFD_app (by rfl)]
  intro pa
  refine cellS_i (if_pos rfl) ?_
  and_intros
  refine ⟨show (2 : Nat) < 1000 by decide, fun hpa => ?_⟩
  have p1 : a ≠ pa := fun z => hpa a List.mem_cons_self (by rw [z]; exact List.mem_cons_self)
  have p2 : dx ≠ pa := fun z => hpa dx (List.mem_cons_of_mem _ List.mem_cons_self) (by rw [z]; exact List.mem_cons_self)
  rw [putA n1, putFD_app (by rfl)]
  have n2 : a ∉ [dx, pa] := fun z => (List.mem_cons.1 z).elim nad fun z => p1 (List.mem_singleton.1 z)
  and_intros
  refine cellS_i (if_pos rfl) ?_
  and_intros
  refine ⟨show (3 : Nat) < 1000 by decide, fun _ => ?_⟩
  rw [putA (by exact n2), putFD_app (by rfl)]
  and_intros
  rw [fD_len, rgD_nat]
  refine ⟨⟨by omega, by omega⟩, ?_⟩
  refine lc_ind (fun k : Nat => D.int (k : Nat)) (fun xs acc env => ∃ nrs : List (List Nat), env = [.reg (.val (.ref a)) [(a, .ins "Keeper" dx (kf4 w S Bs pa)), (dx, .own a), (pa, .lst (ps.map dP))], dW w, .ext (.tup [.tup (nD S), dPs ps]), .ext (.tup [.tup (fD Bs), .tup (ts.map tieD)]), .un, .un] ∧ acc = nrs.map (fun l => D.lst (nD l)) ∧ List.range Bs.length = List.range nrs.length ++ xs ∧ ∀ i, i < nrs.length → (nrs.getD i []).Perm (nearN ts i)) ?_ ?_ (List.range Bs.length) [] _ ⟨[], rfl, rfl, rfl, fun i hi => absurd hi (Nat.not_lt_zero _)⟩
  rotate_left
  · rintro i xs acc env N ⟨nrs, rfl, rfl, hr, hp⟩ hN
    have hlen := congrArg List.length hr
    rw [List.length_append, List.length_range, List.length_range, List.length_cons] at hlen
    have ei : i = nrs.length := by
      have h1 : (List.range Bs.length)[nrs.length]? = some i := by rw [hr, List.getElem?_append_right (by rw [List.length_range]; exact Nat.le_refl _), List.length_range, Nat.sub_self]; rfl
      rw [List.getElem?_range (by omega)] at h1
      exact (Option.some.inj h1).symm
    refine ⟨True.intro, by rw [List.length_map]; exact Nat.lt_of_le_of_lt (by omega : _ ≤ 100) (by decide), ?_⟩
    unfold e1_Keeper_init
    and_intros
    refine ⟨ts, i, rfl, htl, fun l b fin hl _ => ?_⟩
    and_intros
    refine hN _ _ ⟨nrs ++ [l], rfl, by rw [List.map_append]; rfl, ?_, fun k hk => ?_⟩
    · rw [List.length_append, List.length_singleton, List.range_succ, List.append_assoc, hr, ei]
      rfl
    · rw [List.length_append, List.length_singleton] at hk
      by_cases e : k < nrs.length
      · rw [List.getD_eq_getElem?_getD, List.getElem?_append_left e, ← List.getD_eq_getElem?_getD]
        exact hp k e
      · have ek : k = nrs.length := by omega
        rw [List.getD_eq_getElem?_getD, List.getElem?_append_right (by omega), ek, Nat.sub_self]
        rw [ei] at hl
        exact hl
  rintro acc env ⟨nrs, rfl, rfl, hr, hp⟩
  refine ⟨True.intro, fun b1 => ?_⟩
  have hnl : nrs.length = Bs.length := by
    have := congrArg List.length hr
    rw [List.length_append, List.length_range, List.length_range, List.length_nil] at this
    omega
  have P := hP nrs hnl fun i hi => hp i (by omega)
  and_intros
  refine cellS_i (if_pos rfl) ?_
  and_intros
  refine ⟨show (4 : Nat) < 1000 by decide, fun _ => ?_⟩
  rw [putA (by exact n2), putFD_app (by rfl)]
  unfold dPs
  and_intros
  refine lc_map dP (fun p => D.int (layN Bs p.ns : Nat)) True.intro ps (Nat.le_trans P.bd.many (by decide)) (fun p hpp R hR => ?_) fun b2 => ?_
  · have hl := P.la.lay p hpp
    have ok := hok p hpp
    have hns' := nd_sub_len (b := List.range S.length) (ok.rise.imp fun h => Nat.ne_of_lt h) fun x hx => List.mem_range.2 (ok.lt x hx)
    rw [List.length_range] at hns'
    have := hns.few
    unfold e2_Keeper_init dP
    and_intros
    refine ⟨Bs, _, p.ns, rfl, by omega, by omega, ⟨_, bg_mem hl.1, hl.2⟩, fun fin => ?_⟩
    and_intros
    exact hR
  and_intros
  refine cellS_i (if_pos rfl) ?_
  and_intros
  refine ⟨show (5 : Nat) < 1000 by decide, fun _ => ?_⟩
  rw [putA (by exact n2), putFD_app (by rfl)]
  and_intros
  intro wa
  refine cellS_i (if_pos rfl) ?_
  and_intros
  refine ⟨show (6 : Nat) < 1000 by decide, fun hwa => ?_⟩
  have w1 : a ≠ wa := fun z => hwa a (by simp) (by rw [z]; exact List.mem_cons_self)
  have w2 : dx ≠ wa := fun z => hwa dx (by simp) (by rw [z]; exact List.mem_cons_self)
  have w3 : pa ≠ wa := fun z => hwa pa (by simp) (by rw [z]; exact List.mem_cons_self)
  rw [putA (by exact n2), putFD_app (by rfl)]
  have n3 : a ∉ [dx, pa, wa] := fun z => by
    simp only [List.mem_cons, List.not_mem_nil, or_false] at z
    rcases z with z | z | z
    · exact nad z
    · exact p1 z
    · exact w1 z
  simp only [List.cons_append, List.nil_append]
  intro ka
  refine cellS_i (if_pos rfl) ?_
  and_intros
  refine ⟨show (7 : Nat) < 1000 by decide, fun hka => ?_⟩
  have k1 : a ≠ ka := fun z => hka a (by simp) (by rw [z]; exact List.mem_cons_self)
  have k2 : dx ≠ ka := fun z => hka dx (by simp) (by rw [z]; exact List.mem_cons_self)
  have k3 : pa ≠ ka := fun z => hka pa (by simp) (by rw [z]; exact List.mem_cons_self)
  have k4 : wa ≠ ka := fun z => hka wa (by simp) (by rw [z]; exact List.mem_cons_self)
  rw [putA (by exact n3), putFD_app (by rfl)]
  have n4 : a ∉ [dx, pa, wa, ka] := fun z => by
    simp only [List.mem_cons, List.not_mem_nil, or_false] at z
    rcases z with z | z | z | z
    · exact nad z
    · exact p1 z
    · exact w1 z
    · exact k1 z
  simp only [List.cons_append, List.nil_append]
  and_intros
  refine cellS_i (if_pos rfl) ?_
  and_intros
  refine ⟨show (8 : Nat) < 1000 by decide, fun _ => ?_⟩
  rw [putA (by exact n4), putFD_app (by rfl)]
  refine ⟨Nat.zero_le _, fun ca => ?_⟩
  refine cellS_i (if_pos rfl) ⟨rfl, show (9 : Nat) < 1000 by decide, fun hca => ?_⟩
  have c1 : a ≠ ca := fun z => hca a (by simp) (by rw [z]; exact List.mem_cons_self)
  have c2 : dx ≠ ca := fun z => hca dx (by simp) (by rw [z]; exact List.mem_cons_self)
  have c3 : pa ≠ ca := fun z => hca pa (by simp) (by rw [z]; exact List.mem_cons_self)
  have c4 : wa ≠ ca := fun z => hca wa (by simp) (by rw [z]; exact List.mem_cons_self)
  have c5 : ka ≠ ca := fun z => hca ka (by simp) (by rw [z]; exact List.mem_cons_self)
  rw [putA (by exact n4), putFD_app (by rfl)]
  have hnd : (⟨a, dx, pa, wa, ka, ca⟩ : KA).l.Nodup := by
    simp [KA.l, nad, p1, p2, w1, w2, w3, k1, k2, k3, k4, c1, c2, c3, c4, c5]
  have hI := kInv0 (w := w) P hok b0 bl hbd
  have hQ' := hQ ⟨a, dx, pa, wa, ka, ca⟩ nrs rfl rfl hnd P hI
  have ec : ∀ fs : List (Str × D), fs = keepF ⟨a, dx, pa, wa, ka, ca⟩ (kC0 w S ps Bs ts nrs root up rk b) 0 → (a, OC.ins "Keeper" dx fs) :: [(dx, OC.own a), (pa, OC.lst (ps.map dP)), (wa, OC.dk []), (ka, OC.dt [])] ++ [(ca, OC.lst [])] = keepC ⟨a, dx, pa, wa, ka, ca⟩ (kC0 w S ps Bs ts nrs root up rk b) ps [] (kvL ((kC0 w S ps Bs ts nrs root up rk b).lt ps []) []) 0 [] := fun fs e => by rw [e]; rfl
  rw [ec _ (by unfold keepF kf4 nD; simp only [List.cons_append, List.nil_append, List.map_map]; rfl)]
  show Qd _ [fin1 (newS "Keeper" a dx) (some (keepS ⟨a, dx, pa, wa, ka, ca⟩ (kC0 w S ps Bs ts nrs root up rk b) (kM0 ps))), _, _, _]
  rw [show fin1 (newS "Keeper" a dx) (some (keepS ⟨a, dx, pa, wa, ka, ca⟩ (kC0 w S ps Bs ts nrs root up rk b) (kM0 ps))) = keepS ⟨a, dx, pa, wa, ka, ca⟩ (kC0 w S ps Bs ts nrs root up rk b) (kM0 ps) from if_pos ⟨rfl, rfl⟩]
  exact hQ'
theorem giveN3 {env : Env'} {a b c : D} {k : Env' → Prop} (h : k env) : giveM [.no, .no, .no] env [.ext a, .ext b, .ext c] k := h
def sp_law_gmade : DSpec := fun args Q _ => (∃ (w : Wd) (S : List Nat) (ps : List Part) (Bs : List (List Nat)) (ts : List NP) (root : Nat) (up rk : Nat → Nat), args = [dW w, .ext (dSh S ps), .ext (dTree Bs ts)] ∧ Pre w S ps Bs ts root up rk ∧ Q (.ext (.str "told")) [dW w, .ext (dSh S ps), .ext (dTree Bs ts)]) ∨
  ∃ (w : Wd) (S : List Nat) (ps : List Part) (d : D) (k : Nat), args = [dW w, .ext (dSh S ps), .ext d] ∧ NsOk S ps ∧ D.pl k d = true ∧ ¬ BtD S ps d ∧ Q (.ext (.str "tree")) [dW w, .ext (dSh S ps), .ext d]
def t_law_gmade : DTS :=
    (sSeq (sSetE 3 (dC .non))
    (sSeq (sTryKeep cs75 4 3 (sDrop (dMake "Keeper" sp_Keeper_init [0, 0, 0] (dCons (dVar 0) (dCons (dVar 1) (dCons (dVar 2) dNil))))))
    (sRet (dIf (dTest (dOp fIsN (dVar 3) (dC .non))) (dC (.str (Str.ofString "told"))) (dCall (sp_law_gkind cs75) (dCons (dVar 3) dNil))))))
theorem m_law_gmade : Meets t_law_gmade 3 2 sp_law_gmade := by
  rintro args Qd Xd (⟨w, S, ps, Bs, ts, root, up, rk, rfl, P, hQ⟩ | ⟨w, S, ps, d, k, rfl, hns, hp, hb, hQ⟩)
  · show t_law_gmade _ _ [_, _, _, .un, .un]
    unfold t_law_gmade
    and_intros
    show sTryKeep cs75 4 3 _ _ _ _
    unfold sTryKeep
    and_intros
    intro ka kdx kne
    refine .inr (P.init kne fun A nrs hA nd hPo I J hall => ?_)
    refine ⟨rfl, ?_⟩
    refine giveN3 ?_
    and_intros
    exact hQ
  · show t_law_gmade _ _ [_, _, _, .un, .un]
    unfold t_law_gmade
    and_intros
    show sTryKeep cs75 4 3 _ _ _ _
    unfold sTryKeep
    and_intros
    intro ka kdx kne
    refine .inl ⟨ka, kdx, w, S, ps, d, k, rfl, kne, hns, hp, hb, ?_⟩
    refine giveN3 ?_
    refine ⟨by decide, show (4 : Nat) < 5 by decide, ?_⟩
    and_intros
    refine ⟨"NoTree", rfl, by decide, by decide, fun fin => ?_⟩
    and_intros
    exact hQ
def BadT (S : List Nat) (ps : List Part) (d : D) : Prop := Dc 6 50000 d ∧ ¬ BtD S ps d
def sp_law_gno_trees : DSpec := fun args Q _ => ∃ (n : Nat) (a : Addr) (ds : List D) (w : Wd) (S : List Nat) (ps : List Part) (Bs : List (List Nat)) (ts : List NP) (root : Nat) (up rk : Nat → Nat), args = [.lst a ds, .ext (dSh S ps), .ext (dTree Bs ts)] ∧ JarOk n ds ∧ n + 10 < 4294967296 ∧ Pre w S ps Bs ts root up rk ∧ Bs.length ≤ 8 ∧
  ∀ (L : List D) b ds', JarOk (n + 2) ds' → (∀ d ∈ L, BadT S ps d) → L.length ≤ 100 → Q (.lst b L) [.lst a ds', .ext (dSh S ps), .ext (dTree Bs ts)]
def e1_law_gno_trees : DT :=
    (dVar 9)
def e2_law_gno_trees : DT :=
    (dCB fTuple (dCons (dLc (dSeq (dVar 8)) (gSet 9) (dTest (dOp fNe (dVar 9) (dVar 5))) e1_law_gno_trees [9]) dNil))
def b3_law_gno_trees : DTS :=
    (sDrop (dAppend 10 (dTup (dCons (dOp fAdd (dOp fAdd (dSl (dVar 3) dNoPart (dPart (dVar 6))) (dTup (dCons (dVar 11) dNil))) (dSl (dVar 3) (dPart (dOp fAdd (dVar 6) (dC (.int 1)))) dNoPart)) (dCons (dVar 4) dNil)))))
def e4_law_gno_trees : DT :=
    (dTup (dCons (dC (.int 0)) (dCons (dVar 13) dNil)))
def e5_law_gno_trees : DT :=
    (dCB fLen (dCons (dVar 14) dNil))
def e6_law_gno_trees : DT :=
    (dTup (dCons (dOp fSub (dVar 13) (dC (.int 1))) (dCons (dVar 13) dNil)))
def e7_law_gno_trees : DT :=
    (dTup (dCons (dVar 9) dNil))
def k8_law_gno_trees : DTS :=
    (sDrop (dAppend 10 (dTup (dCons (dCB fTuple (dCons (dLc (dSeq (dVar 16)) (gSet 9) dYes e7_law_gno_trees [9]) dNil)) (dCons (dCB fTuple (dCons (dLc (dSeq (dVar 16)) (gSet 13) (dTest (dOp (fCmp fun i j => decide (j < i)) (dVar 13) (dC (.int 0)))) e6_law_gno_trees [13]) dNil)) dNil)))))
def k9_law_gno_trees : DTS :=
    (sSet 10 (dOp fAdd (dVar 10) (dLst (dCons (dTup (dCons (dVar 3) (dCons (dOp fAdd (dTup (dCons (dTup (dCons (dVar 17) (dCons (dVar 18) (dCons (dC (.int 0)) dNil)))) dNil)) (dSl (dVar 4) (dPart (dC (.int 1))) dNoPart)) dNil))) (dCons (dTup (dCons (dVar 3) (dCons (dOp fAdd (dTup (dCons (dTup (dCons (dVar 17) (dCons (dCB fLen (dCons (dVar 3) dNil)) dNil))) dNil)) (dSl (dVar 4) (dPart (dC (.int 1))) dNoPart)) dNil))) (dCons (dTup (dCons (dSl (dVar 3) (dPart (dC (.int 1))) dNoPart) (dCons (dVar 4) dNil))) dNil))))))
def k10_law_gno_trees : DTS :=
    (sSeq (sSet 10 (dOp fAdd (dVar 10) (dLst (dCons (dTup (dCons (dVar 3) (dCons (dOp fAdd (dTup (dCons (dLst (dCons (dVar 17) (dCons (dVar 18) dNil))) dNil)) (dSl (dVar 4) (dPart (dC (.int 1))) dNoPart)) dNil))) (dCons (dTup (dCons (dVar 3) (dCons (dOp fAdd (dTup (dCons (dTup (dCons (dLst (dCons (dVar 17) dNil)) (dCons (dVar 18) dNil))) dNil)) (dSl (dVar 4) (dPart (dC (.int 1))) dNoPart)) dNil))) (dCons (dTup (dCons (dVar 3) (dCons (dOp fAdd (dTup (dCons (dTup (dCons (dVar 17) (dCons (dLst (dCons (dVar 18) dNil)) dNil))) dNil)) (dSl (dVar 4) (dPart (dC (.int 1))) dNoPart)) dNil))) dNil))))))
    k9_law_gno_trees)
def k11_law_gno_trees : DTS :=
    (sSeq (sSet 10 (dOp fAdd (dVar 10) (dLst (dCons (dTup (dCons (dVar 3) (dCons (dSl (dVar 4) (dPart (dC (.int 1))) dNoPart) dNil))) (dCons (dTup (dCons (dVar 3) (dCons (dOp fAdd (dTup (dCons (dTup (dCons (dVar 18) (dCons (dVar 17) dNil))) dNil)) (dSl (dVar 4) (dPart (dC (.int 1))) dNoPart)) dNil))) (dCons (dTup (dCons (dVar 3) (dCons (dOp fAdd (dVar 4) (dSl (dVar 4) dNoPart (dPart (dC (.int 1))))) dNil))) dNil))))))
    k10_law_gno_trees)
def i12_law_gno_trees : DTS :=
    (sSeq (sAsg (dOp fIx (dVar 4) (dC (.int 0))) (gTupD 2 (gsCons (gSet 17) (gsCons (gSet 18) gsNil))))
    k11_law_gno_trees)
def k13_law_gno_trees : DTS :=
    (sRet (dVar 10))
def k14_law_gno_trees : DTS :=
    (sSeq (sIf (dTest (dOp fNe (dVar 4) (dTup dNil))) i12_law_gno_trees sNext)
    k13_law_gno_trees)
def k15_law_gno_trees : DTS :=
    (sSeq (sIf (dTest (dOp (fCmp fun i j => decide (j < i)) (dCB fMax (dCons (dOp fAdd (dLc (dSeq (dOp fIx (dVar 1) (dC (.int 1)))) (gTupD 2 (gsCons (gSet 14) (gsCons (gSet 15) gsNil))) dYes e5_law_gno_trees [14, 15]) (dLst (dCons (dC (.int 0)) dNil))) dNil)) (dC (.int 1)))) (sSeq (sSetE 16 (dLstRg (dRg1 (dCB fLen (dCons (dOp fIx (dVar 1) (dC (.int 0))) dNil)))))
    k8_law_gno_trees) sNext)
    k14_law_gno_trees)
def k16_law_gno_trees : DTS :=
    (sSeq (sDrop (dAppend 10 (dTup (dCons (dOp fAdd (dVar 3) (dOp fMulT (dTup (dCons (dTup dNil) dNil)) (dOp fSub (dC (.int 13)) (dVar 12)))) (dCons (dCB fTuple (dCons (dCB fSortD (dCons (dOp fAdd (dVar 4) (dCB fTuple (dCons (dLc (dRange2 (dCons (dVar 12) (dCons (dC (.int 13)) dNil))) (gSet 13) dYes e4_law_gno_trees [13]) dNil))) dNil)) dNil)) dNil)))))
    k15_law_gno_trees)
def k17_law_gno_trees : DTS :=
    (sSeq (sDrop (dAppend 10 (dTup (dCons (dOp fAdd (dVar 3) (dTup (dCons (dTup dNil) (dCons (dTup (dCons (dVar 5) dNil)) dNil)))) (dCons (dCB fTuple (dCons (dCB fSortD (dCons (dOp fAdd (dVar 4) (dTup (dCons (dTup (dCons (dVar 6) (dCons (dVar 12) dNil))) (dCons (dTup (dCons (dVar 12) (dCons (dOp fAdd (dVar 12) (dC (.int 1))) dNil))) dNil)))) dNil)) dNil)) dNil)))))
    k16_law_gno_trees)
def k18_law_gno_trees : DTS :=
    (sSeq (sSetE 12 (dCB fLen (dCons (dVar 3) dNil)))
    k17_law_gno_trees)
def k19_law_gno_trees : DTS :=
    (sSeq (sFor (dSeq (dLst (dCons (dTup (dCons (dCB fLen (dCons (dOp fIx (dVar 1) (dC (.int 0))) dNil)) dNil)) (dCons (dTup (dCons (dNeg (dC (.int 1))) dNil)) (dCons (dTup (dCons (dC (.bl true)) (dCons (dC (.bl true)) dNil))) (dCons (dTup (dCons (dC .non) dNil)) (dCons (dTup (dCons (dC (.str (Str.ofString "0"))) dNil)) (dCons (dLst (dCons (dC (.int 0)) dNil)) dNil)))))))) (gSet 11) b3_law_gno_trees)
    k18_law_gno_trees)
def k20_law_gno_trees : DTS :=
    (sSeq (sSet 10 (dOp fAdd (dVar 10) (dLst (dCons (dTup (dCons (dOp fAdd (dVar 3) (dTup (dCons (dTup dNil) dNil))) (dCons (dVar 4) dNil))) (dCons (dTup (dCons (dTup dNil) (dCons (dTup dNil) dNil))) (dCons (dTup (dCons (dVar 7) (dCons (dVar 4) dNil))) (dCons (dTup (dCons (dVar 3) (dCons (dOp fAdd (dVar 4) (dTup (dCons (dTup (dCons (dC (.int 0)) (dCons (dC (.int 0)) dNil))) dNil))) dNil))) (dCons (dTup (dCons (dVar 4) (dCons (dOp fAdd (dVar 3) (dTup (dCons (dTup dNil) dNil))) dNil))) (dCons (dLst dNil) dNil)))))))))
    k19_law_gno_trees)
def k21_law_gno_trees : DTS :=
    (sSeq (sSet 10 (dLst (dCons (dC .non) (dCons (dTup dNil) (dCons (dC (.int 5)) (dCons (dC (.str (Str.ofString "tree"))) (dCons (dLst (dCons (dVar 3) (dCons (dVar 4) dNil))) (dCons (dTup (dCons (dVar 3) dNil)) (dCons (dTup (dCons (dVar 3) (dCons (dVar 4) (dCons (dTup dNil) dNil)))) (dCons (dTup (dCons (dCB fList (dCons (dVar 3) dNil)) (dCons (dVar 4) dNil))) (dCons (dTup (dCons (dVar 3) (dCons (dCB fList (dCons (dVar 4) dNil)) dNil))) dNil)))))))))))
    k20_law_gno_trees)
def k22_law_gno_trees : DTS :=
    (sSeq (sSetE 7 (dCB fTuple (dCons (dLc (dSeq (dVar 3)) (gSet 8) dYes e2_law_gno_trees [8]) dNil)))
    k21_law_gno_trees)
def k23_law_gno_trees : DTS :=
    (sSeq (sSetE 6 (dCallJ sp_law_gdraw 0 (dCons (dCB fLen (dCons (dVar 3) dNil)) dNil)))
    k22_law_gno_trees)
def k24_law_gno_trees : DTS :=
    (sSeq (sSetE 5 (dCallJ sp_law_gdraw 0 (dCons (dCB fLen (dCons (dOp fIx (dVar 1) (dC (.int 0))) dNil)) dNil)))
    k23_law_gno_trees)
def t_law_gno_trees : DTS :=
    (sSeq (sAsg (dVar 2) (gTupD 2 (gsCons (gSet 3) (gsCons (gSet 4) gsNil))))
    k24_law_gno_trees)
theorem bad_shape {S : List Nat} {ps : List Part} {d : D} (h : ∀ x y, d ≠ .tup [.tup x, .tup y]) : ¬ BtD S ps d := fun ⟨Bs, ts, e, _⟩ => h _ _ e
theorem bad_bag {S : List Nat} {ps : List Part} {X : List D} {y e : D} (he : e ∈ X) (h : ¬ NamesD (S.length : Nat) e) : ¬ BtD S ps (.tup [.tup X, y]) := by
  rintro ⟨Bs, ts, z, bt⟩
  unfold dTree at z
  have z := D.tup.inj (List.cons.inj (D.tup.inj z)).1
  rw [z] at he
  obtain ⟨B, hB, rfl⟩ := List.mem_map.1 he
  have hb := bt.bag B hB
  exact h ⟨B, rfl, hb.1, fun m hm => by have := hb.2.2 m hm; omega⟩
theorem bad_tie {S : List Nat} {ps : List Part} {X Y : List D} {e : D} (he : e ∈ Y) (h : ∀ t : Nat × Nat, e = tieD t → t.1 < t.2 → t.2 < X.length → False) : ¬ BtD S ps (.tup [.tup X, .tup Y]) := by
  rintro ⟨Bs, ts, z, bt⟩
  unfold dTree at z
  have z1 := D.tup.inj (List.cons.inj (D.tup.inj z)).1
  have z2 := D.tup.inj (List.cons.inj (List.cons.inj (D.tup.inj z)).2).1
  rw [z2] at he
  obtain ⟨t, ht, rfl⟩ := List.mem_map.1 he
  have hb := bt.tree.lt t ht
  refine h t rfl hb.1 ?_
  rw [z1, fD_len]
  exact hb.2
theorem bad_len {S : List Nat} {ps : List Part} {X Y : List D} (h : Y.length + 1 ≠ X.length) : ¬ BtD S ps (.tup [.tup X, .tup Y]) := by
  rintro ⟨Bs, ts, z, bt⟩
  unfold dTree at z
  have z1 := D.tup.inj (List.cons.inj (D.tup.inj z)).1
  have z2 := D.tup.inj (List.cons.inj (List.cons.inj (D.tup.inj z)).2).1
  have hl := bt.tree.len
  rw [z1, z2, fD_len, List.length_map] at h
  exact h hl
theorem bad_many {S : List Nat} {ps : List Part} {X : List D} {y : D} (h : 12 < X.length) : ¬ BtD S ps (.tup [.tup X, y]) := by
  rintro ⟨Bs, ts, z, bt⟩
  unfold dTree at z
  have z1 := D.tup.inj (List.cons.inj (D.tup.inj z)).1
  have hl := bt.few
  rw [z1, fD_len] at h
  omega
theorem bad_name {S : List Nat} {ps : List Part} {X : List D} {y : D} {x : Nat} (hx : x < S.length) (h : ∀ B : List Nat, D.tup (nD B) ∈ X → x ∉ B) : ¬ BtD S ps (.tup [.tup X, y]) := by
  rintro ⟨Bs, ts, z, bt⟩
  unfold dTree at z
  have z1 := D.tup.inj (List.cons.inj (D.tup.inj z)).1
  obtain ⟨⟨i, hi, hm⟩, _⟩ := bt.name x hx
  have hi := List.mem_range.1 hi
  rw [List.getD_eq_getElem?_getD, List.getElem?_eq_getElem hi] at hm
  refine h _ ?_ hm
  rw [z1]
  exact List.mem_map.2 ⟨_, List.getElem_mem hi, rfl⟩
theorem bad_part {S : List Nat} {ps : List Part} {X : List D} {y : D} {p : Part} (hp : p ∈ ps) (hr : p.ns.Nodup) (h2 : 2 ≤ p.ns.length) (h : ∀ B : List Nat, D.tup (nD B) ∈ X → B.length ≤ 1) : ¬ BtD S ps (.tup [.tup X, y]) := by
  rintro ⟨Bs, ts, z, bt⟩
  unfold dTree at z
  have z1 := D.tup.inj (List.cons.inj (D.tup.inj z)).1
  obtain ⟨B, hB, hm⟩ := bt.part p.ns (List.mem_map.2 ⟨p, hp, rfl⟩)
  have h3 := nd_sub_len hr hm
  have := h B (by rw [z1]; exact List.mem_map.2 ⟨B, hB, rfl⟩)
  omega
theorem bad_apart {S : List Nat} {ps : List Part} {Bs : List (List Nat)} {ts : List NP} {Y : List D} {x at' : Nat} (hx : x < S.length) (ha : at' < Bs.length) (bt : BTree S.length (gsOf ps) Bs ts) (hY : ∀ t : NP, tieD t ∈ Y → t ∈ ts ∨ t = (at', Bs.length) ∨ t = (Bs.length, Bs.length + 1)) : ¬ BtD S ps (.tup [.tup (fD (Bs ++ [[], [x]])), .tup Y]) := by
  rintro ⟨Cs, us, z, bu⟩
  unfold dTree at z
  have z1 := fD_inj (D.tup.inj (List.cons.inj (D.tup.inj z)).1)
  have z2 := D.tup.inj (List.cons.inj (List.cons.inj (D.tup.inj z)).2).1
  subst z1
  have hh := (bu.name x hx).2
  obtain ⟨⟨i, hi, hm⟩, _⟩ := bt.name x hx
  have hi := List.mem_range.1 hi
  have hlen : (Bs ++ [[], [x]]).length = Bs.length + 2 := by rw [List.length_append]; rfl
  have g0 : (Bs ++ [[], [x]]).getD Bs.length [] = [] := by rw [List.getD_eq_getElem?_getD, List.getElem?_append_right (Nat.le_refl _), Nat.sub_self]; rfl
  have g1 : (Bs ++ [[], [x]]).getD (Bs.length + 1) [] = [x] := by rw [List.getD_eq_getElem?_getD, List.getElem?_append_right (by omega), show Bs.length + 1 - Bs.length = 1 by omega]; rfl
  have gi : (Bs ++ [[], [x]]).getD i [] = Bs.getD i [] := by rw [List.getD_eq_getElem?_getD, List.getElem?_append_left hi, ← List.getD_eq_getElem?_getD]
  have m1 : Bs.length + 1 ∈ (List.range (Bs ++ [[], [x]]).length).filter fun i => decide (x ∈ (Bs ++ [[], [x]]).getD i []) := List.mem_filter.2 ⟨List.mem_range.2 (by omega), by rw [g1]; simp⟩
  have mi : i ∈ (List.range (Bs ++ [[], [x]]).length).filter fun i => decide (x ∈ (Bs ++ [[], [x]]).getD i []) := List.mem_filter.2 ⟨List.mem_range.2 (by omega), by rw [gi]; exact decide_eq_true hm⟩
  have m0 : Bs.length ∉ (List.range (Bs ++ [[], [x]]).length).filter fun i => decide (x ∈ (Bs ++ [[], [x]]).getD i []) := fun h => by
    have := (List.mem_filter.1 h).2
    rw [g0] at this
    simp at this
  generalize ((List.range (Bs ++ [[], [x]]).length).filter fun i => decide (x ∈ (Bs ++ [[], [x]]).getD i [])) = sm at hh m1 mi m0
  have tie : ∀ a b, (a, b) ∈ us → (a, b) ∈ ts ∨ (a, b) = (at', Bs.length) ∨ (a, b) = (Bs.length, Bs.length + 1) := fun a b h => hY (a, b) (by rw [z2]; exact List.mem_map.2 ⟨_, h, rfl⟩)
  have inv : ∀ h y, h ∈ sm → Lnk us sm h y → y ∈ sm ∧ (y = Bs.length + 1 ↔ h = Bs.length + 1) := by
    intro h y hs L
    induction L with
    | base => exact ⟨hs, Iff.rfl⟩
    | step L1 hn hz ih =>
      rename_i y z
      obtain ⟨hy, ih⟩ := ih
      have y0 : y ≠ Bs.length := fun e => m0 (e ▸ hy)
      have z0 : z ≠ Bs.length := fun e => m0 (e ▸ hz)
      have bound : ∀ a b, (a, b) ∈ ts → a < Bs.length ∧ b < Bs.length := fun a b h => by
        have h1 := (bt.tree.lt _ h).1
        have h2 := (bt.tree.lt _ h).2
        simp only at h1 h2
        omega
      have key : y ≠ Bs.length + 1 ∧ z ≠ Bs.length + 1 := by
        rcases mem_near.1 hn with h | h
        · rcases tie _ _ h with h | h | h
          · have := bound _ _ h; omega
          · have e1 := congrArg Prod.fst h; have e2 := congrArg Prod.snd h; simp only at e1 e2; omega
          · have e1 := congrArg Prod.fst h; simp only at e1; omega
        · rcases tie _ _ h with h | h | h
          · have := bound _ _ h; omega
          · have e1 := congrArg Prod.fst h; have e2 := congrArg Prod.snd h; simp only at e1 e2; omega
          · have e1 := congrArg Prod.fst h; simp only at e1; omega
      exact ⟨hz, ⟨fun e => absurd e key.2, fun e => absurd (ih.2 e) key.1⟩⟩
  cases sm with
  | nil => cases m1
  | cons h r =>
    have h1 := inv h _ List.mem_cons_self (hh h rfl _ m1)
    have h2 := inv h _ List.mem_cons_self (hh h rfl _ mi)
    have := h2.2.2 (h1.2.1 rfl)
    omega
def ntE (a : Addr) (ds : List D) (S : List Nat) (ps : List Part) (Bs : List (List Nat)) (ts : List NP) (x at' : Nat) (u7 s10 u11 u12 u16 u17 u18 : Sl) : Env' := [.lst a ds, .ext (dSh S ps), .ext (dTree Bs ts), .ext (.tup (fD Bs)), .ext (.tup (ts.map tieD)), dI (x : Nat), dI (at' : Nat), u7, .un, .un, s10, u11, u12, .un, .un, .un, u16, u17, u18]
theorem dcs_bags : ∀ (Bs : List (List Nat)), (∀ B ∈ Bs, B.length ≤ 24 ∧ ∀ m ∈ B, m < 1000) → Dcs 4 (Bs.length * 30) (fD Bs)
  | [], _ => Dcs.nil.mono (Nat.zero_le _)
  | B :: Bs, h => by
    have h0 := h B List.mem_cons_self
    have h1 : Dcs 3 B.length (nD B) := Dcs.nats fun m hm => Nat.lt_trans (h0.2 m hm) (by decide)
    exact (Dcs.cons (Dc.tup h1) (dcs_bags Bs fun C hC => h C (List.mem_cons_of_mem _ hC))).mono (by rw [List.length_cons]; omega)
theorem dcs_ties : ∀ (ts : List NP), (∀ t ∈ ts, t.1 < 1000 ∧ t.2 < 1000) → Dcs 4 (ts.length * 3) (ts.map tieD)
  | [], _ => Dcs.nil.mono (Nat.zero_le _)
  | t :: ts, h => by
    have h0 := h t List.mem_cons_self
    have h1 : Dcs 3 2 (nD [t.1, t.2]) := Dcs.nats fun m hm => by
      rcases List.mem_cons.1 hm with rfl | hm
      · exact Nat.lt_trans h0.1 (by decide)
      · rw [List.mem_singleton.1 hm]
        exact Nat.lt_trans h0.2 (by decide)
    exact (Dcs.cons (Dc.tup h1) (dcs_ties ts fun C hC => h C (List.mem_cons_of_mem _ hC))).mono (by rw [List.length_cons]; omega)
theorem badT2 {S : List Nat} {ps : List Part} {X Y : List D} (hX : Dcs 4 20200 X) (hY : Dcs 4 20200 Y) (h : ¬ BtD S ps (.tup [.tup X, .tup Y])) : BadT S ps (.tup [.tup X, .tup Y]) := ⟨Dc.t2 (Dc.tup hX) (Dc.tup hY), h⟩
structure Tdc (X Y : List D) (m : Nat) : Prop where
  x : Dcs 4 10000 X
  y : Dcs 4 10000 Y
  xl : X.length = m
  yl : Y.length + 1 = m
  m8 : m ≤ 8
theorem tdc_of {w : Wd} {S : List Nat} {ps : List Part} {Bs : List (List Nat)} {ts : List NP} {root : Nat} {up rk : Nat → Nat} (P : Pre w S ps Bs ts root up rk) (h8 : Bs.length ≤ 8) : Tdc (fD Bs) (ts.map tieD) Bs.length := by
  have h12 := P.h12
  have htl := P.bt.tree.len
  refine ⟨(dcs_bags Bs fun B hB => ?_).mono (by omega), (dcs_ties ts fun t ht => ?_).mono (by omega), fD_len Bs, by rw [List.length_map]; exact htl, h8⟩
  · have hb := P.bt.bag B hB
    have := rising_len hb.1 hb.2.2
    exact ⟨by omega, fun m hm => by have := hb.2.2 m hm; omega⟩
  · have := P.bt.tree.lt t ht
    omega
theorem bad_app {S : List Nat} {ps : List Part} {L L2 : List D} (h1 : ∀ d ∈ L, BadT S ps d) (h2 : ∀ d ∈ L2, BadT S ps d) : ∀ d ∈ L ++ L2, BadT S ps d := fun d hd => (List.mem_append.1 hd).elim (h1 d) (h2 d)
end Y5
end V2
end LS
namespace LS
namespace V2
open PySem L2 HD PM
theorem dcs_map {α : Type} {k n : Nat} {f : α → D} : ∀ {l : List α}, (∀ x ∈ l, Dc k n (f x)) → Dcs k (l.length * (n + 1)) (l.map f)
  | [], _ => Dcs.nil.mono (Nat.zero_le _)
  | x :: l, h => by
    have h2 := dcs_map (l := l) fun y hy => h y (List.mem_cons_of_mem _ hy)
    exact (Dcs.cons (h x List.mem_cons_self) h2).mono (by rw [List.length_cons, Nat.succ_mul]; omega)
theorem num60 {x : Int} (h : -1000000000000 ≤ x ∧ x ≤ 1000000000000) : x.natAbs < 10 ^ 60 := Nat.lt_of_lt_of_le (by omega : x.natAbs < 10 ^ 13) (Nat.pow_le_pow_right (by decide) (by decide))
theorem names_few {S ns : List Nat} (hS : S.length ≤ 24) (hr : Rising ns) (hl : ∀ x ∈ ns, x < S.length) : ns.length ≤ 24 := by
  have h1 := nd_sub_len (b := List.range S.length) (hr.imp fun h => Nat.ne_of_lt h) fun x hx => List.mem_range.2 (hl x hx)
  rw [List.length_range] at h1
  omega
theorem dP_dc {k : Nat} {w : Wd} {S : List Nat} {p : Part} {m : Nat} (hS : SzOk S) (ok : p.Ok S) (hn : NumsOk w p) (hm : prodN S ≤ m) (hm2 : m ≤ 5000) : Dc (k + 2) (m + 30) (dP p) := by
  have h1 := names_few hS.few ok.rise ok.lt
  have h2 := hS.few
  have h3 : Dcs k 24 (nD p.ns) := (Dcs.nats fun x hx => by have := ok.lt x hx; omega).mono h1
  have h4 : p.ws.length ≤ m := by
    rw [ok.len]
    exact Nat.le_trans (psz_le hS.pos ok.rise ok.lt) hm
  have h5 : Dcs k m (iD p.ws) := (Dcs.ints fun x hx => num60 ((numsok_num hn).1 x hx)).mono h4
  exact Dc.t2 (Dc.tup h3) (Dc.tup h5)
theorem dsh_dc {k : Nat} {w : Wd} {S : List Nat} {ps : List Part} {m : Nat} (hS : SzOk S) (hp : PsOk w S ps) (hl : ps.length ≤ 40) (hm : prodN S ≤ m) (hm2 : m ≤ 1000) : Dc (k + 4) (40 * (m + 31) + 30) (dSh S ps) := by
  have h2 := hS.few
  have h1 : Dcs (k + 2) (ps.length * (m + 30 + 1)) (ps.map dP) := dcs_map fun p h => dP_dc hS (hp p h).1 (hp p h).2 hm (by omega)
  have h3 : Dcs (k + 2) (40 * (m + 31)) (ps.map dP) := h1.mono (Nat.mul_le_mul hl (by omega : m + 30 + 1 ≤ m + 31))
  have h4 : Dcs (k + 2) 24 (nD S) := (Dcs.nats fun x hx => by have := hS.small x hx; omega).mono h2
  exact Dc.t2 (Dc.tup h4) (Dc.tup h3)
end V2
end LS
namespace LS
namespace V2
namespace Y5
open PySem L2 HD PM BT
local macro_rules | `(tactic| and_intros) => `(tactic| try simp -dsimp only [↓sIf, ↓sRet, ↓retD_ext, ↓retD_lst, ↓retD_al, ↓sSet, ↓sSetE, ↓sAsg, ↓sDrop, ↓sNext, ↓sFor, ↓sRetN, ↓sCont, ↓sBreak, ↓dTest, ↓dOp, ↓dC, ↓dCons, ↓dNil, ↓dTup, ↓dLst, ↓frzDs, ↓frzD_ext, ↓frzD_lst, ↓frzD_al, ↓wd_ext, ↓wd_lst, ↓wd_al, ↓wds, ↓AtS_ext, ↓AtS_lst, ↓AtL, ↓fAdd, ↓fSub, ↓fMul, ↓fDiv, ↓fMod, ↓fPow, ↓fCmp, ↓fIn, ↓fEq_ii, ↓fEq_ss, ↓fEq_bb, ↓fEq_tt, ↓fEq_ll, ↓fNe_ii, ↓fNe_ss, ↓fNe_bb, ↓fNe_tt, ↓fNe_ll, ↓fIx_l, ↓fIx_t, ↓fIx_k, ↓fIx_f, ↓GetS_some, ↓NatS_some, ↓fSl, ↓fIsN, ↓fNotN, ↓D.knN, ↓dNot, ↓dAnd, ↓dOr, ↓dAndV_w, ↓dOrV_w, ↓dNotV, ↓dIf, ↓dNeg, ↓dChain_w, ↓BlS_bl, ↓dCall_w, ↓dCallJ_w, ↓anyAl, ↓frozs, ↓froz, ↓gSet, ↓gTupD, ↓gsCons, ↓gsNil, ↓dSeq, ↓seqD_tup, ↓seqD_elst, ↓seqD_lst, ↓seqD_al, ↓dRange1, ↓dRange2, ↓dZip, ↓dCB, ↓dLc, ↓dYes, ↓dNoPart, ↓dPart, ↓dSl, ↓fLen, ↓fMin, ↓fMax, ↓fSum, ↓fAll, ↓fAny, ↓fSorted, ↓fTuple, ↓fList, ↓dRg1, ↓dRg2, ↓dLstRg, ↓dTupRg, ↓dIndex, ↓fIdx, ↓dAppend_w, ↓dExtend_w, ↓extD_lst, ↓dPopAt_w, ↓popD_int, ↓dPop_w, ↓mutD_w, ↓sSetItem_w, ↓setD_int, ↓dSortSet, ↓dTable_w, ↓wipeE, finals1, finals2, finals3, finals4, finals5, finals6, fin1_ext, fin1_lst, List.getElem?_cons_zero, List.getElem?_cons_succ, List.getElem?_nil, List.set_cons_zero, List.set_cons_succ, List.cons_append, List.nil_append, List.append_nil, List.replicate_succ, List.replicate_zero, List.map_cons, List.map_nil, List.length_cons, List.length_nil, true_and, and_true, ite_true, ite_false, if_true, if_false, Bool.false_eq_true, decide_eq_true_eq, Sl.plain, D.isSq, eq_self_iff_true, forall_const, reduceIte, true_or, or_true, atI_0, atI_1, atI_2, atI_3, ixN_0, ixN_1, ixN_2, AtS_ext, AtS_lst, FzS_lst, FzS_ext, GetS_some, NatS_some, ↓fIsi1, ↓fIsi2, BoolS_some, HD.kb_non_tuple, HD.kb_non_list, HD.kb_non_bool, HD.kb_non_int, HD.kb_non_str, HD.kb_bl_tuple, HD.kb_bl_list, HD.kb_bl_bool, HD.kb_bl_int, HD.kb_bl_str, HD.kb_int_tuple, HD.kb_int_list, HD.kb_int_bool, HD.kb_int_int, HD.kb_int_str, HD.kb_str_tuple, HD.kb_str_list, HD.kb_str_bool, HD.kb_str_int, HD.kb_str_str, HD.kb_lst_tuple, HD.kb_lst_list, HD.kb_lst_bool, HD.kb_lst_int, HD.kb_lst_str, HD.kb_tup_tuple, HD.kb_tup_list, HD.kb_tup_bool, HD.kb_tup_int, HD.kb_tup_str, ↓sFz_w, ↓FzS_lst, ↓FzS_ext, ↓dSortSetL, ↓fAbs, ↓fInt, ↓fRepr, ↓fLtT, ↓sRaise, ↓sTryKeep, ↓dCallV_w, ↓dMeth, ↓fCount, ↓fSplit, ↓seq_setE, ↓seq_set, ↓seq_drop, ↓seq_asg, ↓seq_if, ↓seq_for, ↓dStep, ↓fStep, ↓fMulT, ↓fIsB, ↓fNotB, ↓sPar, ↓dEnum, ↓dListZip, ↓dNest, ↓sSeal, ↓dNApp, ↓retD_reg, ↓dLenSet, ↓fSum2, ↓seq_putD, ↓seq_sealD, ↓dDIn, ↓dDGet, ↓sPutD, ↓dDNew, ↓dDOne, ↓sSealD, ↓dKeys, ↓keyS_dk, ↓dExtT, ↓fSortT, ↓fMinP, ↓dRemove, ↓dDInT, ↓dDGetT, ↓sPutDT, ↓dDNewT, ↓sSealDT, ↓dKeysT, ↓keyST_dt, ↓fSortK, ↓seq_putDT, ↓seq_sealDT, ↓dVarR_w, ↓dAttr, ↓dAppR, ↓dExtR_w, ↓dExtTR_w, ↓dClrR, ↓dPopR_w, ↓dIxR_w, ↓dDGetR, ↓dDInR, ↓dGet2R, ↓dPop1R, ↓dPop2R, ↓dDGetTR, ↓dDInTR, ↓dPop1TR, ↓dCallM, ↓dMethO, ↓dMake, ↓dMoveR, ↓dPtr, ↓sAttr, ↓sSetR, ↓sPutR, ↓sPutTR, ↓sSetA_w, ↓sSetG_w, ↓seq_setG, ↓seq_setA, ↓seq_attr, ↓seq_setR, ↓seq_putR, ↓seq_putTR, ↓RegS_reg, ↓CellS_some, ↓RefS_reg, ↓RefS_ar, ↓cellS_ar, ↓wd_ar, ↓seqD_ar, ↓lstO_lst, ↓insO_ins, ↓dkO_dk, ↓dkO_lk, ↓dtO_dt, ↓dtO_lk, ↓dkW_dk, ↓dtW_dt, ↓stoS_ext, ↓stoS_reg, ↓stoS_lstT, ↓stoS_lstF, ↓stoS_al, ↓ptrD_ref, ↓ptrD_int, ↓ptrD_str, ↓ptrD_bl, ↓ptrD_non, ↓ptrD_tup, ↓ptrD_tk, ↓ptrD_lst, ↓ptrD_fz, ↓setGS_lst, ↓setGS_reg, ↓setAS_ar, ↓setAS_ext, ↓intS_int, ↓tupS_tup, ↓lstS_lst, ↓lstK, ↓dkK, ↓dtK, ↓retD_reg, ↓dSortSetB, ↓fSortD, ↓fInD, ↓dCallD, ↓regC_reg, ↓dMoveL, ↓dMoveR_w, ↓dDictP, ↓froz_lst, ↓froz_ext, ↓dUpdTR, ↓dUpdKR, ↓dDictZipK, ↓dDictC, ↓gLstD, ↓dClear, ↓fStr, ↓dListItems, ↓dLenK, ↓dSortKI, ↓dInC, ↓fMinT, ↓fMaxT, ↓dListKT, ↓seq_parO, ↓sParO, ↓dDisp, ↓dispF, ↓dv0, ↓dw0, ↓dv1, ↓dw1, ↓dv2, ↓dw2, ↓dv3, ↓dw3, ↓dv4, ↓dw4, ↓dv5, ↓dw5, ↓dv6, ↓dw6, ↓dv7, ↓dw7, ↓dv8, ↓dw8, ↓dv9, ↓dw9, ↓dv10, ↓dw10, ↓dv11, ↓dw11, ↓dv12, ↓dw12, ↓dv13, ↓dw13, ↓dv14, ↓dw14, ↓dv15, ↓dw15, ↓dv16, ↓dw16, ↓dv17, ↓dw17, ↓dv18, ↓dw18, ↓dv19, ↓dw19])
theorem c1 (x : D) (xs : List D) : cutD (x :: xs) (some 1) none = xs := by
  rw [show (some 1 : Option Int) = some ((1 : Nat) : Int) from rfl, cut_drop _ 1 (by rw [List.length_cons]; omega)]
  rfl
theorem c2 (x : D) (xs : List D) : cutD (x :: xs) none (some 1) = [x] := by
  rw [show (some 1 : Option Int) = some ((1 : Nat) : Int) from rfl, cut_take _ 1 (by rw [List.length_cons]; omega)]
  rfl
section
variable {Ex : DX} {E : DEnds} {a b : Addr} {ds : List D} {w : Wd} {S : List Nat} {ps : List Part} {Bs : List (List Nat)} {t : NP} {ts : List NP} {x at' : Nat} {L : List D} {root : Nat} {up rk : Nat → Nat} {u7 u11 u12 u16 u17 u18 : Sl}
theorem one_dc {e : D} {Y : List D} (he : Dc 4 100 e) (hY : Dcs 4 10003 Y) : Dcs 4 20200 (e :: Y) := (Dcs.cons he hY).mono (by decide)
theorem bad_one {e : D} {X Y : List D} (hX : Dcs 4 10000 X) (hY : Dcs 4 10000 Y) (he : Dc 4 100 e) (h : ∀ t' : Nat × Nat, e = tieD t' → t'.1 < t'.2 → t'.2 < X.length → False) : BadT S ps (.tup [.tup X, .tup (e :: Y)]) :=
  badT2 (hX.mono (by decide)) (one_dc he (hY.mono (by decide))) (bad_tie List.mem_cons_self h)
theorem len3 {x y z : D} {L : List D} {k : Nat} (h : L.length ≤ k) : (L ++ [x, y, z]).length ≤ k + 3 := by
  rw [List.length_append]
  show L.length + 3 ≤ k + 3
  omega
theorem k9_ok (P : Pre w S ps Bs (t :: ts) root up rk) (h8 : Bs.length ≤ 8) (hL : ∀ d ∈ L, BadT S ps d) (hl : L.length ≤ 70)
    (hE : ∀ L b, (∀ d ∈ L, BadT S ps d) → L.length ≤ 73 → E.nx (ntE a ds S ps Bs (t :: ts) x at' u7 (.lst b L) u11 u12 u16 (dI (t.1 : Nat)) (dI (t.2 : Nat)))) : k9_law_gno_trees Ex E (ntE a ds S ps Bs (t :: ts) x at' u7 (.lst b L) u11 u12 u16 (dI (t.1 : Nat)) (dI (t.2 : Nat))) := by
  have T := tdc_of P h8
  have hlt := P.bt.tree.lt t List.mem_cons_self
  have hxl := T.xl
  have hyl := T.yl
  rw [List.length_map, List.length_cons] at hyl
  unfold k9_law_gno_trees ntE
  and_intros
  have hT2 : Dcs 4 10000 (ts.map tieD) := T.y.sub (List.sublist_cons_self _ _)
  have d1 : ∀ k, Dc k 0 (.int (t.1 : Nat)) := fun k => Dc.nat (by omega)
  have d2 : ∀ k, Dc k 0 (.int (t.2 : Nat)) := fun k => Dc.nat (by omega)
  have dB : ∀ k, Dc k 0 (.int (Bs.length : Nat)) := fun k => Dc.nat (by omega)
  have hs : ∀ k, k ≤ 100 → k ≤ sizeLine := fun k h => Nat.le_trans h (by decide)
  have hcl : (cutD (fD Bs) (some 1) none).length = Bs.length - 1 := by
    rw [show (some 1 : Option Int) = some ((1 : Nat) : Int) from rfl, cut_drop _ 1 (by omega), List.length_drop, fD_len]
  rw [c1, hxl, List.length_map]
  refine ⟨hs _ (by omega), hs _ (by omega), hs _ (by omega), hs _ (by omega), hs _ (by omega), hs _ (by omega), hs _ (by omega), hs _ (by omega), hs _ (by omega), hs _ (by omega), hs _ (by omega), fun b1 => ?_⟩
  refine hE _ _ (bad_app hL (allMem (bad_one T.x hT2 (Dc.t3 (d1 3) (d2 3) (Dc.int (n := 0) (i := 0))) fun t' e _ _ => by
    unfold tieD at e
    have e := (List.cons.inj (List.cons.inj (D.tup.inj e)).2).2
    cases e) (allMem (bad_one T.x hT2 (Dc.t2 (d1 3) (dB 3)) fun t' e l1 l2 => by
    unfold tieD at e
    have e1 := D.int.inj (List.cons.inj (D.tup.inj e)).1
    have e2 := D.int.inj (List.cons.inj (List.cons.inj (D.tup.inj e)).2).1
    omega) (allMem (badT2 ((T.x.cut _ _).mono (by decide)) (T.y.mono (by decide)) (bad_len (by rw [hcl, List.length_cons, List.length_map]; omega))) allNil)))) (len3 hl)
theorem k10_ok (P : Pre w S ps Bs (t :: ts) root up rk) (h8 : Bs.length ≤ 8) (hL : ∀ d ∈ L, BadT S ps d) (hl : L.length ≤ 67)
    (hE : ∀ L b, (∀ d ∈ L, BadT S ps d) → L.length ≤ 73 → E.nx (ntE a ds S ps Bs (t :: ts) x at' u7 (.lst b L) u11 u12 u16 (dI (t.1 : Nat)) (dI (t.2 : Nat)))) : k10_law_gno_trees Ex E (ntE a ds S ps Bs (t :: ts) x at' u7 (.lst b L) u11 u12 u16 (dI (t.1 : Nat)) (dI (t.2 : Nat))) := by
  have T := tdc_of P h8
  have hlt := P.bt.tree.lt t List.mem_cons_self
  have hxl := T.xl
  have hyl := T.yl
  have hT2 : Dcs 4 10000 (ts.map tieD) := T.y.sub (List.sublist_cons_self _ _)
  rw [List.length_map, List.length_cons] at hyl
  unfold k10_law_gno_trees ntE
  and_intros
  rw [c1]
  have d1 : ∀ k, Dc k 0 (.int (t.1 : Nat)) := fun k => Dc.nat (by omega)
  have d2 : ∀ k, Dc k 0 (.int (t.2 : Nat)) := fun k => Dc.nat (by omega)
  have hs : ∀ k, k ≤ 100 → k ≤ sizeLine := fun k h => Nat.le_trans h (by decide)
  rw [List.length_map]
  refine ⟨hs _ (by omega), hs _ (by omega), hs _ (by omega), hs _ (by omega), hs _ (by omega), hs _ (by omega), hs _ (by omega), hs _ (by omega), hs _ (by omega), hs _ (by omega), hs _ (by omega), hs _ (by omega), hs _ (by omega), hs _ (by omega), hs _ (by omega), hs _ (by omega), fun b1 => ?_⟩
  refine k9_ok P h8 (bad_app hL (allMem (bad_one T.x hT2 (Dc.l2 (d1 3) (d2 3)) fun t' e _ _ => by unfold tieD at e; cases e) (allMem (bad_one T.x hT2 (Dc.t2 (Dc.l1 (m := 5) (d1 2)) (d2 3)) fun t' e _ _ => by unfold tieD at e; cases (List.cons.inj (D.tup.inj e)).1) (allMem (bad_one T.x hT2 (Dc.t2 (d1 3) (Dc.l1 (m := 5) (d2 2))) fun t' e _ _ => by unfold tieD at e; cases (List.cons.inj (List.cons.inj (D.tup.inj e)).2).1) allNil)))) (len3 hl) hE
theorem i12_ok (P : Pre w S ps Bs (t :: ts) root up rk) (h8 : Bs.length ≤ 8) (hL : ∀ d ∈ L, BadT S ps d) (hl : L.length ≤ 60)
    (hE : ∀ L b u17 u18, (∀ d ∈ L, BadT S ps d) → L.length ≤ 80 → E.nx (ntE a ds S ps Bs (t :: ts) x at' u7 (.lst b L) u11 u12 u16 u17 u18)) : i12_law_gno_trees Ex E (ntE a ds S ps Bs (t :: ts) x at' u7 (.lst b L) u11 u12 u16 u17 u18) := by
  have T := tdc_of P h8
  have hlt := P.bt.tree.lt t List.mem_cons_self
  have hyl := T.yl
  have hxl := T.xl
  have hT2 : Dcs 4 10000 (ts.map tieD) := T.y.sub (List.sublist_cons_self _ _)
  rw [List.length_map, List.length_cons] at hyl
  unfold i12_law_gno_trees ntE
  and_intros
  unfold tieD
  and_intros
  unfold k11_law_gno_trees
  and_intros
  have hT : D.tup [D.int (t.1 : Nat), D.int (t.2 : Nat)] :: ts.map (fun t => D.tup [D.int (t.1 : Nat), D.int (t.2 : Nat)]) = tieD t :: ts.map tieD := rfl
  have hm : ts.map (fun t => D.tup [D.int (t.1 : Nat), D.int (t.2 : Nat)]) = ts.map tieD := rfl
  rw [hT, hm, c1, c2, List.length_map, show [tieD t].length = 1 from rfl]
  have d1 : ∀ k, Dc k 0 (.int (t.1 : Nat)) := fun k => Dc.nat (by omega)
  have d2 : ∀ k, Dc k 0 (.int (t.2 : Nat)) := fun k => Dc.nat (by omega)
  have hs : ∀ k, k ≤ 100 → k ≤ sizeLine := fun k h => Nat.le_trans h (by decide)
  refine ⟨hs _ (by omega), hs _ (by omega), hs _ (by omega), hs _ (by omega), hs _ (by omega), hs _ (by omega), hs _ (by omega), hs _ (by omega), hs _ (by omega), fun b1 => ?_⟩
  refine k10_ok P h8 (bad_app hL (allMem (badT2 (T.x.mono (by decide)) (hT2.mono (by decide)) (bad_len (by rw [List.length_map]; omega))) (allMem (bad_one T.x hT2 (Dc.t2 (d2 3) (d1 3)) fun t' e l1 _ => by
    unfold tieD at e
    have e1 := D.int.inj (List.cons.inj (D.tup.inj e)).1
    have e2 := D.int.inj (List.cons.inj (List.cons.inj (D.tup.inj e)).2).1
    omega) (allMem (badT2 (T.x.mono (by decide)) (one_dc (Dc.t2 (d1 3) (d2 3)) ((hT2.app (Dcs.one (n := 2) (m := 3) (Dc.t2 (d1 3) (d2 3)))).mono (by decide) : Dcs 4 10003 _) ) (bad_len (by rw [List.length_cons, List.length_append, List.length_map]; show ts.length + 1 + 1 + 1 ≠ _; omega))) allNil)))) (len3 (by omega : L.length ≤ 64)) fun L b h1 h2 => hE L b _ _ h1 (by omega)
theorem hs100 {k : Nat} (h : k ≤ 100) : k ≤ sizeLine := Nat.le_trans h (by decide)
theorem k14_ok (P : Pre w S ps Bs ts root up rk) (h8 : Bs.length ≤ 8) (hL : ∀ d ∈ L, BadT S ps d) (hl : L.length ≤ 60)
    (hE : ∀ L b env, (∀ d ∈ L, BadT S ps d) → L.length ≤ 80 → E.rt (.lst b L) (.lst a ds :: .ext (dSh S ps) :: .ext (dTree Bs ts) :: env)) : k14_law_gno_trees Ex E (ntE a ds S ps Bs ts x at' u7 (.lst b L) u11 u12 u16 u17 u18) := by
  have k13 : ∀ L b u17 u18, (∀ d ∈ L, BadT S ps d) → L.length ≤ 80 → k13_law_gno_trees Ex E (ntE a ds S ps Bs ts x at' u7 (.lst b L) u11 u12 u16 u17 u18) := fun L b u17 u18 h1 h2 => by
    unfold k13_law_gno_trees ntE
    and_intros
    exact hE L b _ h1 h2
  have T := tdc_of P h8
  unfold k14_law_gno_trees ntE
  and_intros
  have hcT : (D.tup (ts.map tieD)).cmp := pi_cmp (k := 2) (by decide) (by
    rw [D.pi, List.all_eq_true]
    intro d hd
    obtain ⟨t, _, rfl⟩ := List.mem_map.1 hd
    exact pi_tie 0 t)
  refine ⟨by decide, hcT, pi_cmp (k := 1) (by decide) rfl, ?_⟩
  cases ts with
  | nil =>
    rw [if_neg (by rw [show D.eqv (.tup (([] : List NP).map tieD)) (.tup []) = true from eqv_refl (d := .tup []) hcT]; decide)]
    exact k13 L b _ _ hL (by omega)
  | cons t ts =>
    rw [if_pos (by rw [show D.eqv (.tup ((t :: ts).map tieD)) (.tup []) = false from rfl]; decide)]
    exact i12_ok (E := { nx := fun env1 => k13_law_gno_trees Ex E env1, rt := E.rt, bk := E.bk, ct := E.ct }) P h8 hL hl fun L b u17 u18 h1 h2 => k13 L b _ _ h1 h2
theorem tup_lcA {α : Type} {k : Nat} {g : DTG} {te : DT} {vs : List Nat} {env : Env'} {Q : Sl → Env' → Prop} (i f : α → D) {xs : List α} (h : env[k]? = some (.ext (.lst (xs.map i)))) (hl : xs.length ≤ sizeLine)
    (hs : ∀ x ∈ xs, ∀ R : D → Env' → Prop, R (f x) (wipeE env vs) → g (i x) (wipeE env vs) fun env1 => te noX env1 fun y env3 => frzD env3 y fun d' env4 => R d' (wipeE env4 vs))
    (hQ : Q (.ext (.tup (xs.map f))) (wipeE env vs)) : dCB fTuple (dCons (dLc (dSeq (dVar k)) g dYes te vs) dNil) Ex env Q := by
  show dVar k Ex env fun x env1 => seqD env1 x fun ds keep => lcD g dYes te vs keep (fun x env1 => wds env1 [x] fun es => fTuple es fun sl => Q sl env1) ds [] (wipeE env1 vs)
  rw [dVar_w, h]
  exact lc_map i f True.intro xs hl hs fun a => hQ
theorem tup_lcF {α : Type} {k : Nat} {g : DTG} {tt : DTT} {te : DT} {vs : List Nat} {env : Env'} {Q : Sl → Env' → Prop} (i f : α → D) (p : α → Bool) {xs : List α} (h : env[k]? = some (.ext (.lst (xs.map i)))) (hl : xs.length ≤ sizeLine)
    (hs : ∀ x ∈ xs, ∀ R : Option D → Env' → Prop, R (if p x = true then some (f x) else none) (wipeE env vs) → g (i x) (wipeE env vs) fun env1 => tt noX env1 fun b env2 => if b = true then te noX env2 fun y env3 => frzD env3 y fun d' env4 => R (some d') (wipeE env4 vs) else R none (wipeE env2 vs))
    (hQ : Q (.ext (.tup ((xs.filter p).map f))) (wipeE env vs)) : dCB fTuple (dCons (dLc (dSeq (dVar k)) g tt te vs) dNil) Ex env Q := by
  show dVar k Ex env fun x env1 => seqD env1 x fun ds keep => lcD g tt te vs keep (fun x env1 => wds env1 [x] fun es => fTuple es fun sl => Q sl env1) ds [] (wipeE env1 vs)
  rw [dVar_w, h]
  exact lc_filter i f p True.intro xs hl hs fun a => hQ
theorem app_of {t : DT} {i : Nat} {env : Env'} {Q : Sl → Env' → Prop} (h1 : env[i]? = some (.lst b L)) (h : t Ex env fun x env1 => frzD env1 x fun d env2 => mutD env2 i b (fun ds q => ds.length < sizeLine ∧ q .non (ds ++ [d])) Q) : dAppend i t Ex env Q := by
  rw [dAppend_w, h1]
  exact h
theorem tup2 {t1 t2 : DT} {env : Env'} {Q : Sl → Env' → Prop} (h : t1 Ex env fun x1 e1 => t2 Ex e1 fun x2 e2 => 2 ≤ sizeLine ∧ frzDs e2 [x1, x2] fun ds e3 => Q (.ext (.tup ds)) e3) : dTup (dCons t1 (dCons t2 dNil)) Ex env Q := h
theorem seqApp {t : DT} {u : DTS} {i : Nat} {env : Env'} (h1 : env[i]? = some (.lst b L)) (h : t Ex env fun x env1 => frzD env1 x fun d env2 => mutD env2 i b (fun ds q => ds.length < sizeLine ∧ q .non (ds ++ [d])) fun _ env3 => u Ex E env3) : sSeq (sDrop (dAppend i t)) u Ex E env := app_of (Q := fun _ env1 => u Ex E env1) h1 h
theorem k8_ok (P : Pre w S ps Bs ts root up rk) (hL : ∀ d ∈ L, BadT S ps d) (hl : L.length ≤ 59) {p : Part} (hp : p ∈ ps) (h2 : 2 ≤ p.ns.length)
    (hE : ∀ L, (∀ d ∈ L, BadT S ps d) → L.length ≤ 60 → E.nx (ntE a ds S ps Bs ts x at' u7 (.lst b L) u11 u12 (.ext (.lst (nD (List.range S.length)))) u17 u18)) : k8_law_gno_trees Ex E (ntE a ds S ps Bs ts x at' u7 (.lst b L) u11 u12 (.ext (.lst (nD (List.range S.length)))) u17 u18) := by
  have hn : S.length ≤ 10 := P.h12
  have hr := (P.hp p hp).1.rise
  unfold k8_law_gno_trees ntE
  show dAppend 10 _ Ex _ fun _ env1 => E.nx env1
  refine app_of rfl (tup2 ?_)
  refine tup_lcA (fun m : Nat => D.int (m : Nat)) (fun m => D.tup (nD [m])) rfl (hs100 (by rw [List.length_range]; omega)) (fun m hm R hR => ?_) ?_
  · unfold e7_law_gno_trees wipeE
    and_intros
    exact ⟨by decide, hR⟩
  refine tup_lcF (fun m : Nat => D.int (m : Nat)) (fun m => D.tup [.int ((m : Int) - 1), .int (m : Nat)]) (fun m => decide (0 < m)) rfl (hs100 (by rw [List.length_range]; omega)) (fun m hm R hR => ?_) ?_
  · unfold e6_law_gno_trees wipeE
    and_intros
    by_cases h : 0 < m
    · rw [if_pos (by omega)]
      rw [if_pos (decide_eq_true h)] at hR
      exact ⟨by decide, hR⟩
    · rw [if_neg (by omega)]
      rw [if_neg (by rw [decide_eq_true_eq]; exact h)] at hR
      exact hR
  show 2 ≤ sizeLine ∧ b = b ∧ L.length < sizeLine ∧ E.nx [.lst a ds, .ext (dSh S ps), .ext (dTree Bs ts), .ext (.tup (fD Bs)), .ext (.tup (ts.map tieD)), dI (x : Nat), dI (at' : Nat), u7, .un, .un, .lst b (L ++ [.tup [.tup ((List.range S.length).map fun m : Nat => D.tup (nD [m])), .tup (((List.range S.length).filter fun m : Nat => decide (0 < m)).map fun m : Nat => D.tup [.int ((m : Int) - 1), .int (m : Nat)])]]), u11, u12, .un, .un, .un, .ext (.lst (nD (List.range S.length))), u17, u18]
  have hd1 : Dcs 4 100 ((List.range S.length).map fun m : Nat => D.tup (nD [m])) := (dcs_map (n := 1) fun m hm => Dc.tup (k := 3) (Dcs.nats (l := [m]) fun q hq => by rw [List.mem_singleton.1 hq]; have := List.mem_range.1 hm; omega)).mono (by rw [List.length_range]; omega)
  have hlf := List.length_filter_le (fun m => decide (0 < m)) (List.range S.length)
  rw [List.length_range] at hlf
  have hd2 : Dcs 4 100 (((List.range S.length).filter fun m : Nat => decide (0 < m)).map fun m : Nat => D.tup [.int ((m : Int) - 1), .int (m : Nat)]) := (dcs_map (n := 2) fun m hm => by
    have := List.mem_range.1 (List.mem_filter.1 hm).1
    exact Dc.t2 (n := 0) (n' := 0) (Dc.int (by omega)) (Dc.nat (by omega))).mono (by omega)
  refine ⟨by decide, rfl, Nat.lt_of_lt_of_le (by omega : _ < 100) (by decide), ?_⟩
  refine hE _ (bad_app hL (allMem (badT2 (hd1.mono (by decide)) (hd2.mono (by decide)) (bad_part hp (hr.imp fun h => Nat.ne_of_lt h) h2 fun B hB => ?_)) allNil)) (by rw [List.length_append]; show L.length + 1 ≤ 60; omega)
  obtain ⟨m, _, e⟩ := List.mem_map.1 hB
  rw [← nD_inj (D.tup.inj e)]
  exact Nat.le_refl _
theorem k15_ok (P : Pre w S ps Bs ts root up rk) (h8 : Bs.length ≤ 8) (hL : ∀ d ∈ L, BadT S ps d) (hl : L.length ≤ 59)
    (hE : ∀ L b env, (∀ d ∈ L, BadT S ps d) → L.length ≤ 80 → E.rt (.lst b L) (.lst a ds :: .ext (dSh S ps) :: .ext (dTree Bs ts) :: env)) : k15_law_gno_trees Ex E (ntE a ds S ps Bs ts x at' u7 (.lst b L) u11 u12 .un u17 u18) := by
  unfold k15_law_gno_trees ntE
  and_intros
  refine lc_map dP (fun p => D.int (p.ns.length : Nat)) True.intro ps (hs100 (by have := P.hl; omega)) (fun p hp R hR => ?_) fun b2 => ?_
  · unfold e5_law_gno_trees dP
    and_intros
    rw [nD_len]
    exact hR
  and_intros
  refine ⟨by decide, hs100 (by have := P.hl; rw [List.length_map]; omega), ps.map (fun p => (p.ns.length : Int)) ++ [0], by rw [List.map_append, List.map_map]; rfl, by simp, fun m hm hmax => ?_⟩
  by_cases e : 1 < m
  · rw [if_pos e]
    rw [nD_len, rgD_nat]
    have hn : S.length ≤ 10 := P.h12
    refine ⟨⟨by decide, by omega⟩, ?_⟩
    obtain ⟨p, hp, hpl⟩ : ∃ p ∈ ps, (p.ns.length : Int) = m := by
      rcases List.mem_append.1 hm with h | h
      · exact List.mem_map.1 h
      · rw [List.mem_singleton.1 h] at e
        omega
    exact k8_ok (E := { nx := fun env1 => k14_law_gno_trees Ex E env1, rt := E.rt, bk := E.bk, ct := E.ct }) P hL hl hp (by omega) fun L h1 h2 => k14_ok P h8 h1 h2 hE
  · rw [if_neg e]
    exact k14_ok P h8 hL (by omega) hE
theorem rgD_from (k n : Nat) : rgD (k : Int) (n : Int) = (List.range (n - k)).map fun i : Nat => D.int ((k + i : Nat) : Int) := by
  unfold rgD
  rw [show ((n : Int) - (k : Int)).toNat = n - k by omega]
  refine List.map_congr_left fun i _ => ?_
  rw [Int.natCast_add]
theorem dcs_perm {k n : Nat} {l l' : List D} (h : l'.Perm l) (hd : Dcs k n l) : Dcs k n l' := by
  refine ⟨fun d hm => hd.pl d (h.mem_iff.1 hm), fun d hm => hd.sv d (h.mem_iff.1 hm), ?_⟩
  have e : ∀ l : List D, PyData.bulkAll (D.pys l) = (l.map fun d => d.py.bulk + 1).sum := fun l => by
    induction l with
    | nil => rfl
    | cons d l ih =>
      show d.py.bulk + 1 + PyData.bulkAll (D.pys l) = _
      rw [ih, List.map_cons, List.sum_cons]
  rw [e, (h.map _).sum_nat, ← e]
  exact hd.bk
theorem k16_ok (P : Pre w S ps Bs ts root up rk) (h8 : Bs.length ≤ 8) (hL : ∀ d ∈ L, BadT S ps d) (hl : L.length ≤ 58)
    (hE : ∀ L b env, (∀ d ∈ L, BadT S ps d) → L.length ≤ 80 → E.rt (.lst b L) (.lst a ds :: .ext (dSh S ps) :: .ext (dTree Bs ts) :: env)) : k16_law_gno_trees Ex E (ntE a ds S ps Bs ts x at' u7 (.lst b L) u11 (dI (Bs.length : Nat)) .un u17 u18) := by
  have T := tdc_of P h8
  have hm0 : 0 < Bs.length := by have := T.yl; rw [List.length_map] at this; omega
  unfold k16_law_gno_trees ntE
  refine seqApp rfl (tup2 ?_)
  have h1 : ∀ (Q : Sl → Env' → Prop), Q (.ext (.tup (fD Bs ++ List.replicate (13 - Bs.length) (.tup [])))) (ntE a ds S ps Bs ts x at' u7 (.lst b L) u11 (dI (Bs.length : Nat)) .un u17 u18) → dOp fAdd (dVar 3) (dOp fMulT (dTup (dCons (dTup dNil) dNil)) (dOp fSub (dC (.int 13)) (dVar 12))) Ex (ntE a ds S ps Bs ts x at' u7 (.lst b L) u11 (dI (Bs.length : Nat)) .un u17 u18) Q := fun Q hQ => by
    unfold ntE
    and_intros
    have e : (13 - ((Bs.length : Nat) : Int)).toNat = 13 - Bs.length := by omega
    have e2 : ∀ n, (List.replicate n [D.tup []]).flatten = List.replicate n (D.tup []) := fun n => by
      induction n with
      | zero => rfl
      | succ n ih => rw [List.replicate_succ, List.flatten_cons, ih]; rfl
    rw [e, e2, List.length_replicate, fD_len]
    exact ⟨by decide, by decide, by omega, by omega, hs100 (by omega), hs100 (by omega), hQ⟩
  refine h1 _ ?_
  have h2 : ∀ (Q : Sl → Env' → Prop), (∀ Y : List D, Y.Perm (ts.map tieD ++ ((List.range (13 - Bs.length)).map fun k => tieD (0, Bs.length + k))) → Q (.ext (.tup Y)) (ntE a ds S ps Bs ts x at' u7 (.lst b L) u11 (dI (Bs.length : Nat)) .un u17 u18)) → dCB fTuple (dCons (dCB fSortD (dCons (dOp fAdd (dVar 4) (dCB fTuple (dCons (dLc (dRange2 (dCons (dVar 12) (dCons (dC (D.int 13)) dNil))) (gSet 13) dYes e4_law_gno_trees [13]) dNil))) dNil)) dNil) Ex (ntE a ds S ps Bs ts x at' u7 (.lst b L) u11 (dI (Bs.length : Nat)) .un u17 u18) Q := fun Q hQ => by
    unfold ntE
    and_intros
    refine ⟨⟨by omega, by omega⟩, ⟨by omega, by omega⟩, ?_⟩
    rw [show rgD ((Bs.length : Nat) : Int) 13 = _ from rgD_from Bs.length 13]
    refine lc_map (fun k : Nat => D.int ((Bs.length + k : Nat) : Int)) (fun k => tieD (0, Bs.length + k)) True.intro (List.range (13 - Bs.length)) (hs100 (by rw [List.length_range]; omega)) (fun k hk R hR => ?_) fun b4 => ?_
    · unfold e4_law_gno_trees
      and_intros
      exact ⟨by decide, hR⟩
    and_intros
    rw [show ((List.range (13 - Bs.length)).map fun k => tieD (0, Bs.length + k)) = ((List.range (13 - Bs.length)).map fun k => (0, Bs.length + k)).map tieD by rw [List.map_map]; rfl]
    rw [← List.map_append]
    refine ⟨hs100 (by have := P.bt.tree.len; simp; omega), srt_ties _, fun Y hp _ => hQ Y ?_⟩
    rw [List.map_append, List.map_map] at hp
    exact hp
  refine h2 _ fun Y hY => ?_
  show 2 ≤ sizeLine ∧ b = b ∧ L.length < sizeLine ∧ k15_law_gno_trees Ex E (ntE a ds S ps Bs ts x at' u7 (.lst b (L ++ [.tup [.tup (fD Bs ++ List.replicate (13 - Bs.length) (.tup [])), .tup Y]])) u11 (dI (Bs.length : Nat)) .un u17 u18)
  have hd1 : Dcs 4 11000 (fD Bs ++ List.replicate (13 - Bs.length) (.tup [])) := (T.x.app (m := 1000) (by
    have := dcs_map (k := 4) (n := 0) (f := fun _ : Nat => D.tup []) (l := List.range (13 - Bs.length)) fun _ _ => Dc.t0
    rw [List.map_const', List.length_range] at this
    exact this.mono (by omega))).mono (by decide)
  have hd2 : Dcs 4 11000 (ts.map tieD ++ ((List.range (13 - Bs.length)).map fun k => tieD (0, Bs.length + k))) := (T.y.app (m := 1000) (by
    have := dcs_map (k := 4) (n := 2) (f := fun k : Nat => tieD (0, Bs.length + k)) (l := List.range (13 - Bs.length)) fun k hk => by
      have := List.mem_range.1 hk
      exact Dc.t2 (n := 0) (n' := 0) (Dc.nat (by omega)) (Dc.nat (by omega))
    exact this.mono (by rw [List.length_range]; omega))).mono (by decide)
  refine ⟨by decide, rfl, Nat.lt_of_lt_of_le (by omega : _ < 100) (by decide), ?_⟩
  refine k15_ok P h8 (bad_app hL (allMem (badT2 (hd1.mono (by decide)) ((dcs_perm hY hd2).mono (by decide)) (bad_many (by rw [List.length_append, List.length_replicate, fD_len]; omega))) allNil)) (by rw [List.length_append]; show L.length + 1 ≤ 59; omega) hE
theorem k17_ok (P : Pre w S ps Bs ts root up rk) (h8 : Bs.length ≤ 8) (hx : x < S.length) (ha : at' < Bs.length) (hL : ∀ d ∈ L, BadT S ps d) (hl : L.length ≤ 57)
    (hE : ∀ L b env, (∀ d ∈ L, BadT S ps d) → L.length ≤ 80 → E.rt (.lst b L) (.lst a ds :: .ext (dSh S ps) :: .ext (dTree Bs ts) :: env)) : k17_law_gno_trees Ex E (ntE a ds S ps Bs ts x at' u7 (.lst b L) u11 (dI (Bs.length : Nat)) .un u17 u18) := by
  have T := tdc_of P h8
  have h12 := P.h12
  unfold k17_law_gno_trees ntE
  refine seqApp rfl (tup2 ?_)
  have h1 : ∀ (Q : Sl → Env' → Prop), Q (.ext (.tup (fD (Bs ++ [[], [x]])))) (ntE a ds S ps Bs ts x at' u7 (.lst b L) u11 (dI (Bs.length : Nat)) .un u17 u18) → dOp fAdd (dVar 3) (dTup (dCons (dTup dNil) (dCons (dTup (dCons (dVar 5) dNil)) dNil))) Ex (ntE a ds S ps Bs ts x at' u7 (.lst b L) u11 (dI (Bs.length : Nat)) .un u17 u18) Q := fun Q hQ => by
    unfold ntE
    and_intros
    rw [fD, List.map_append] at hQ
    exact ⟨by decide, by decide, by decide, hs100 (by rw [fD_len]; omega), hQ⟩
  refine h1 _ ?_
  have h2 : ∀ (Q : Sl → Env' → Prop), (∀ Y : List D, Y.Perm ((ts ++ [(at', Bs.length), (Bs.length, Bs.length + 1)]).map tieD) → Q (.ext (.tup Y)) (ntE a ds S ps Bs ts x at' u7 (.lst b L) u11 (dI (Bs.length : Nat)) .un u17 u18)) → dCB fTuple (dCons (dCB fSortD (dCons (dOp fAdd (dVar 4) (dTup (dCons (dTup (dCons (dVar 6) (dCons (dVar 12) dNil))) (dCons (dTup (dCons (dVar 12) (dCons (dOp fAdd (dVar 12) (dC (.int 1))) dNil))) dNil)))) dNil)) dNil) Ex (ntE a ds S ps Bs ts x at' u7 (.lst b L) u11 (dI (Bs.length : Nat)) .un u17 u18) Q := fun Q hQ => by
    unfold ntE
    and_intros
    rw [show ts.map tieD ++ [D.tup [D.int (at' : Nat), D.int (Bs.length : Nat)], D.tup [D.int (Bs.length : Nat), D.int ((Bs.length : Nat) + 1)]] = (ts ++ [(at', Bs.length), (Bs.length, Bs.length + 1)]).map tieD by rw [List.map_append]; rfl]
    refine ⟨by decide, by decide, by decide, hs100 (by rw [List.length_map]; have := P.bt.tree.len; omega), srt_ties _, fun Y hp _ => hQ Y hp⟩
  refine h2 _ fun Y hY => ?_
  show 2 ≤ sizeLine ∧ b = b ∧ L.length < sizeLine ∧ k16_law_gno_trees Ex E (ntE a ds S ps Bs ts x at' u7 (.lst b (L ++ [.tup [.tup (fD (Bs ++ [[], [x]])), .tup Y]])) u11 (dI (Bs.length : Nat)) .un u17 u18)
  have hd1 : Dcs 4 11000 (fD (Bs ++ [[], [x]])) := by
    rw [fD, List.map_append]
    exact (T.x.app (m := 3) ((Dcs.cons (Dc.t0 (n := 0)) (Dcs.one (n := 1) (m := 2) (Dc.tup (Dcs.nats (k := 3) (l := [x]) fun m hm => by rw [List.mem_singleton.1 hm]; omega)))).mono (by decide))).mono (by decide)
  have hd2 : Dcs 4 11000 ((ts ++ [(at', Bs.length), (Bs.length, Bs.length + 1)]).map tieD) := by
    rw [List.map_append]
    exact (T.y.app (m := 6) ((Dcs.cons (Dc.t2 (n := 0) (n' := 0) (m := 2) (Dc.nat (by omega)) (Dc.nat (by omega))) (Dcs.one (n := 2) (m := 3) (Dc.t2 (n := 0) (n' := 0) (Dc.nat (by omega)) (Dc.nat (by omega))))).mono (by decide))).mono (by decide)
  refine ⟨by decide, rfl, Nat.lt_of_lt_of_le (by omega : _ < 100) (by decide), ?_⟩
  refine k16_ok P h8 (bad_app hL (allMem (badT2 (hd1.mono (by decide)) ((dcs_perm hY hd2).mono (by decide)) (bad_apart hx ha P.bt fun t ht => ?_)) allNil)) (by rw [List.length_append]; show L.length + 1 ≤ 58; omega) hE
  obtain ⟨t', h', e⟩ := List.mem_map.1 (hY.mem_iff.1 ht)
  have e' : t' = t := by
    unfold tieD at e
    have e1 := D.int.inj (List.cons.inj (D.tup.inj e)).1
    have e2 := D.int.inj (List.cons.inj (List.cons.inj (D.tup.inj e)).2).1
    exact Prod.ext (by omega) (by omega)
  subst e'
  rcases List.mem_append.1 h' with h | h
  · exact .inl h
  · rcases List.mem_cons.1 h with h | h
    · exact .inr (.inl h)
    · exact .inr (.inr (List.mem_singleton.1 h))
theorem k18_ok (P : Pre w S ps Bs ts root up rk) (h8 : Bs.length ≤ 8) (hx : x < S.length) (ha : at' < Bs.length) (hL : ∀ d ∈ L, BadT S ps d) (hl : L.length ≤ 57)
    (hE : ∀ L b env, (∀ d ∈ L, BadT S ps d) → L.length ≤ 80 → E.rt (.lst b L) (.lst a ds :: .ext (dSh S ps) :: .ext (dTree Bs ts) :: env)) : k18_law_gno_trees Ex E (ntE a ds S ps Bs ts x at' u7 (.lst b L) u11 u12 .un u17 u18) := by
  unfold k18_law_gno_trees ntE
  and_intros
  rw [fD_len]
  exact k17_ok P h8 hx ha hL hl hE
def oddB (n : Nat) : List D := [.tup [.int (n : Nat)], .tup [.int (-1)], .tup [.bl true, .bl true], .tup [.non], .tup [.str (Str.ofString "0")], .lst [.int 0]]
theorem oddB_ok {n : Nat} (hn : n ≤ 10) : ∀ e ∈ oddB n, Dc 4 100 e ∧ ¬ NamesD (n : Nat) e := by
  intro e he
  unfold oddB at he
  have key : ∀ l : List D, (∃ d ∈ l, ∀ m : Nat, m < n → d ≠ .int (m : Nat)) → ¬ NamesD (n : Nat) (.tup l) := fun l ⟨d, hd, h⟩ ⟨B, eB, _, hB⟩ => by
    rw [D.tup.inj eB] at hd
    obtain ⟨m, hm, rfl⟩ := List.mem_map.1 hd
    exact h m (by have := hB m hm; omega) rfl
  simp only [List.mem_cons, List.not_mem_nil, or_false] at he
  rcases he with rfl | rfl | rfl | rfl | rfl | rfl
  · exact ⟨Dc.t1 (n := 0) (Dc.nat (by omega)), key _ ⟨_, List.mem_cons_self, fun m hm e => by have := D.int.inj e; omega⟩⟩
  · exact ⟨Dc.t1 (n := 0) (Dc.int (by decide)), key _ ⟨_, List.mem_cons_self, fun m hm e => by have := D.int.inj e; omega⟩⟩
  · exact ⟨Dc.t2 (n := 0) (n' := 0) Dc.bl Dc.bl, key _ ⟨_, List.mem_cons_self, fun m hm e => by cases e⟩⟩
  · exact ⟨Dc.t1 (n := 0) Dc.non, key _ ⟨_, List.mem_cons_self, fun m hm e => by cases e⟩⟩
  · exact ⟨Dc.t1 (n := 10) Dc.str, key _ ⟨_, List.mem_cons_self, fun m hm e => by cases e⟩⟩
  · exact ⟨Dc.l1 (n := 0) (Dc.int (by decide)), fun ⟨B, eB, _⟩ => by cases eB⟩
theorem k19_ok (P : Pre w S ps Bs ts root up rk) (h8 : Bs.length ≤ 8) (hx : x < S.length) (ha : at' < Bs.length) (hL : ∀ d ∈ L, BadT S ps d) (hl : L.length ≤ 50)
    (hE : ∀ L b env, (∀ d ∈ L, BadT S ps d) → L.length ≤ 80 → E.rt (.lst b L) (.lst a ds :: .ext (dSh S ps) :: .ext (dTree Bs ts) :: env)) : k19_law_gno_trees Ex E (ntE a ds S ps Bs ts x at' u7 (.lst b L) u11 u12 .un u17 u18) := by
  have T := tdc_of P h8
  unfold k19_law_gno_trees ntE
  and_intros
  refine ⟨by decide, by decide, by decide, by decide, by decide, by decide, by decide, ?_⟩
  rw [nD_len]
  refine for_indD (fun xs env => ∃ (L : List D) (u11 : Sl), env = ntE a ds S ps Bs ts x at' u7 (.lst b L) u11 u12 .un u17 u18 ∧ (∀ d ∈ L, BadT S ps d) ∧ L.length + xs.length ≤ 56 ∧ ∀ e ∈ xs, e ∈ oddB S.length) ?_ ?_ (oddB S.length) _ ⟨L, _, rfl, hL, by show L.length + 6 ≤ 56; omega, fun e h => h⟩
  · rintro env ⟨L, u11, rfl, h1, h2, _⟩
    exact ⟨True.intro, k18_ok P h8 hx ha h1 (by omega) hE⟩
  rintro o xs env N ⟨L, u11, rfl, h1, h2, h3⟩ hN
  rw [List.length_cons] at h2
  obtain ⟨ho, hno⟩ := oddB_ok P.h12 o (h3 o List.mem_cons_self)
  refine ⟨True.intro, ?_⟩
  unfold b3_law_gno_trees ntE
  and_intros
  have c1 := (T.x.cut none (some (at' : Nat))).len
  have c2 := (T.x.cut (some ((at' : Nat) + 1)) none).len
  have hz : ∀ k, k ≤ 30000 → k ≤ sizeLine := fun k h => Nat.le_trans h (by decide)
  refine ⟨by decide, hz _ (by omega), hz _ (by rw [List.length_append, List.length_singleton]; omega), by decide, Nat.lt_of_lt_of_le (by omega : _ < 100) (by decide), ?_⟩
  refine hN _ ⟨_, _, rfl, bad_app h1 (allMem (badT2 ((((T.x.cut _ _).app (Dcs.one (m := 101) ho)).app (T.x.cut _ _)).mono (by decide) : Dcs 4 20200 _) (T.y.mono (by decide)) (bad_bag (e := o) (by simp) hno)) allNil), by rw [List.length_append]; show L.length + 1 + _ ≤ _; omega, fun e he => h3 e (List.mem_cons_of_mem _ he)⟩
theorem k20_ok (P : Pre w S ps Bs ts root up rk) (h8 : Bs.length ≤ 8) (hx : x < S.length) (ha : at' < Bs.length) (hL : ∀ d ∈ L, BadT S ps d) (hl : L.length ≤ 20)
    (hE : ∀ L b env, (∀ d ∈ L, BadT S ps d) → L.length ≤ 80 → E.rt (.lst b L) (.lst a ds :: .ext (dSh S ps) :: .ext (dTree Bs ts) :: env)) : k20_law_gno_trees Ex E (ntE a ds S ps Bs ts x at' (.ext (.tup (fD (Bs.map fun B => B.filter fun m => decide (m ≠ x))))) (.lst b L) u11 u12 .un u17 u18) := by
  have T := tdc_of P h8
  have hxl := T.xl
  have hyl := T.yl
  unfold k20_law_gno_trees ntE
  and_intros
  have hb : Dcs 4 10000 (fD (Bs.map fun B => B.filter fun m => decide (m ≠ x))) := by
    rw [fD, List.map_map]
    refine (dcs_map (n := 24) fun B hB => ?_).mono (by omega)
    have hB := P.bt.bag B hB
    have h12 := P.h12
    have h1 := rising_len hB.1 hB.2.2
    have h2 := List.length_filter_le (fun m => decide (m ≠ x)) B
    have h3 : Dcs 3 (B.filter fun m => decide (m ≠ x)).length (nD (B.filter fun m => decide (m ≠ x))) := Dcs.nats fun q hq => by have := hB.2.2 q (List.mem_filter.1 hq).1; omega
    exact Dc.tup (h3.mono (by omega))
  have hs1 : ∀ k, k ≤ 100 → k ≤ sizeLine := fun k h => Nat.le_trans h (by decide)
  refine ⟨by decide, by decide, hs1 _ (by omega), by decide, by decide, by decide, by decide, by decide, by decide, by decide, hs1 _ (by omega), by decide, by decide, by decide, hs1 _ (by omega), by decide, by decide, by decide, hs1 _ (by omega), fun b1 => ?_⟩
  have hX := T.x.mono (show 10000 ≤ 20200 by decide)
  have hY := T.y.mono (show 10000 ≤ 20200 by decide)
  have e0 : Dcs 4 1 [D.tup []] := Dcs.one (n := 0) Dc.t0
  refine k19_ok P h8 hx ha (bad_app hL (allMem (badT2 ((T.x.app e0).mono (by decide)) hY (bad_len (by rw [List.length_append, List.length_singleton]; omega))) (allMem (badT2 (Dcs.nil.mono (Nat.zero_le _)) (Dcs.nil.mono (Nat.zero_le _)) (bad_len (by decide))) (allMem (badT2 (hb.mono (by decide)) hY (bad_name hx fun B hB hm => ?_)) (allMem (badT2 hX ((T.y.app (Dcs.one (n := 2) (m := 3) (Dc.t2 (n := 0) (n' := 0) (Dc.int (by decide)) (Dc.int (by decide))))).mono (by decide)) (bad_len (by rw [List.length_append, List.length_singleton]; omega))) (allMem (badT2 hY ((T.x.app e0).mono (by decide)) (bad_len (by rw [List.length_append, List.length_singleton]; omega))) (allMem ⟨Dc.l0, bad_shape fun x y e => by cases e⟩ allNil))))))) (by rw [List.length_append]; show L.length + 6 ≤ 50; omega) hE
  obtain ⟨C, hC, e⟩ := List.mem_map.1 hB
  rw [← nD_inj (D.tup.inj e)] at hm
  obtain ⟨C', _, rfl⟩ := List.mem_map.1 hC
  have := (List.mem_filter.1 hm).2
  simp at this
theorem k21_ok (P : Pre w S ps Bs ts root up rk) (h8 : Bs.length ≤ 8) (hx : x < S.length) (ha : at' < Bs.length)
    (hE : ∀ L b env, (∀ d ∈ L, BadT S ps d) → L.length ≤ 80 → E.rt (.lst b L) (.lst a ds :: .ext (dSh S ps) :: .ext (dTree Bs ts) :: env)) : k21_law_gno_trees Ex E (ntE a ds S ps Bs ts x at' (.ext (.tup (fD (Bs.map fun B => B.filter fun m => decide (m ≠ x))))) .un u11 u12 .un u17 u18) := by
  have T := tdc_of P h8
  have hxl := T.xl
  have hyl := T.yl
  unfold k21_law_gno_trees ntE
  and_intros
  refine ⟨by decide, by decide, by decide, by decide, by decide, by decide, by decide, by decide, fun b1 => ?_⟩
  have hB : Dc 5 10000 (.tup (fD Bs)) := Dc.tup T.x
  have hT : Dc 5 10000 (.tup (ts.map tieD)) := Dc.tup T.y
  refine k20_ok P h8 hx ha (allMem ⟨Dc.non, bad_shape fun x y e => by cases e⟩ <| allMem ⟨Dc.t0, bad_shape fun x y e => by cases D.tup.inj e⟩ <| allMem ⟨Dc.int (by decide), bad_shape fun x y e => by cases e⟩ <| allMem ⟨Dc.str, bad_shape fun x y e => by cases e⟩ <| allMem ⟨Dc.l2 hB hT, bad_shape fun x y e => by cases e⟩ <| allMem ⟨Dc.t1 hB, bad_shape fun x y e => by cases (List.cons.inj (D.tup.inj e)).2⟩ <| allMem ⟨Dc.t3 hB hT (Dc.t0 (n := 0)), bad_shape fun x y e => by cases (List.cons.inj (List.cons.inj (D.tup.inj e)).2).2⟩ <| allMem ⟨Dc.t2 (Dc.lst T.x) hT, bad_shape fun x y e => by cases (List.cons.inj (D.tup.inj e)).1⟩ <| allMem ⟨Dc.t2 hB (Dc.lst T.y), bad_shape fun x y e => by cases (List.cons.inj (List.cons.inj (D.tup.inj e)).2).1⟩ allNil) (by show 9 ≤ 20; decide) hE
end
theorem m_law_gno_trees : Meets t_law_gno_trees 3 16 sp_law_gno_trees := by
  rintro args Qd Xd ⟨n, a, ds, w, S, ps, Bs, ts, root, up, rk, rfl, hj, hn, P, h8, hQ⟩
  have T := tdc_of P h8
  have h12 := P.h12
  have hm0 : 0 < Bs.length := by have := T.yl; rw [List.length_map] at this; omega
  show t_law_gno_trees _ _ [_, _, _, .un, .un, .un, .un, .un, .un, .un, .un, .un, .un, .un, .un, .un, .un, .un, .un]
  unfold t_law_gno_trees
  and_intros
  unfold dTree
  and_intros
  unfold k24_law_gno_trees
  and_intros
  rw [nD_len]
  refine ⟨n, a, ds, (S.length : Nat), rfl, hj, by omega, gdok (by have := P.h0; omega) (by omega), fun r ds1 fin r0 r1 hj1 => ?_⟩
  obtain ⟨x, rfl⟩ := Int.eq_ofNat_of_zero_le r0
  and_intros
  unfold k23_law_gno_trees
  and_intros
  rw [fD_len]
  refine ⟨n + 1, a, ds1, (Bs.length : Nat), rfl, hj1, by omega, gdok (by omega) (by omega), fun r ds2 fin2 r0 r1 hj2 => ?_⟩
  obtain ⟨at', rfl⟩ := Int.eq_ofNat_of_zero_le r0
  and_intros
  unfold k22_law_gno_trees
  and_intros
  refine lc_map (fun B : List Nat => D.tup (nD B)) (fun B => D.tup (nD (B.filter fun m => decide (m ≠ x)))) True.intro Bs (hs100 (by omega)) (fun B hB R hR => ?_) fun b1 => ?_
  · have hb := P.bt.bag B hB
    unfold e2_law_gno_trees
    and_intros
    refine lc_filter (fun m : Nat => D.int (m : Nat)) (fun m => D.int (m : Nat)) (fun m => decide (m ≠ x)) True.intro B (hs100 (by have := rising_len hb.1 hb.2.2; omega)) (fun m hm R' hR' => ?_) fun b2 => ?_
    · unfold e1_law_gno_trees
      and_intros
      exact R_if (by rw [Bool.eq_iff_iff]; simp; omega) hR'
    · and_intros
      exact hR
  and_intros
  rw [show (Bs.map fun B => D.tup (nD (B.filter fun m => decide (m ≠ x)))) = fD (Bs.map fun B => B.filter fun m => decide (m ≠ x)) by rw [fD, List.map_map]; rfl]
  refine k21_ok (E := endsOf _ Qd) P h8 (by omega) (by omega) fun L b env h1 h2 => ?_
  unfold dTree
  and_intros
  exact hQ L b ds2 hj2 h1 (by omega)
def k1_law : DTS :=
    (sIf (dOr (dTest (dOp fNe (dCall sp_law_gmade (dCons (dVar 3) (dCons (dVar 4) (dCons (dVar 6) dNil)))) (dC (.str (Str.ofString "tree"))))) (dTest (dOp fNe (dCB fRepr (dCons (dLst (dCons (dVar 4) (dCons (dVar 6) dNil))) dNil)) (dVar 7)))) (sRet (dC (.bl false))) sNext)
def b2_law : DTS :=
    (sSeq (sSetE 7 (dCB fRepr (dCons (dLst (dCons (dVar 4) (dCons (dVar 6) dNil))) dNil)))
    k1_law)
def k3_law : DTS :=
    (sFor (dSeq (dCallJ sp_law_gno_trees 1 (dCons (dVar 4) (dCons (dVar 5) dNil)))) (gSet 6) b2_law)
def k4_law : DTS :=
    (sSeq (sIf (dTest (dOp fNe (dCall sp_law_gmade (dCons (dVar 3) (dCons (dVar 4) (dCons (dVar 5) dNil)))) (dC (.str (Str.ofString "told"))))) (sRet (dC (.bl false))) sNext)
    k3_law)
def k5_law : DTS :=
    (sSeq (sSetE 5 (dCallJ sp_law_gtree 1 (dCons (dVar 4) dNil)))
    k4_law)
def k6_law : DTS :=
    (sSeq (sSetE 4 (dCallJ sp_law_gsheet 1 (dCons (dVar 3) (dCons (dC (.int 6)) (dCons (dC (.int 24)) (dCons (dC (.int 6)) dNil))))))
    k5_law)
def b7_law : DTS :=
    (sSeq (sSetE 3 (dCallJ sp_law_gword 1 dNil))
    k6_law)
def k8_law : DTS :=
    (sRet (dC (.bl true)))
def k9_law : DTS :=
    (sSeq (sFor (dRange1 (dCons (dC (.int 4)) dNil)) (gSet 2) b7_law)
    k8_law)
def t_law : DTS :=
    (sSeq (sSet 1 (dLst (dCons (dCB fList (dCons (dSl (dVar 0) dNoPart (dPart (dC (.int 63)))) dNil)) (dCons (dC (.int 0)) (dCons (dC (.int 0)) dNil)))))
    k9_law)
theorem m_law : Meets t_law 1 7 (lawSpec 63) := by
  rintro args Qd Xd ⟨ns, rfl, hl, hQ⟩
  show t_law _ _ [_, .un, .un, .un, .un, .un, .un, .un]
  unfold t_law
  and_intros
  refine ⟨by decide, fun a => ?_⟩
  unfold k9_law
  and_intros
  refine ⟨⟨by decide, by decide⟩, ?_⟩
  rw [show rgD 0 4 = nD (List.range 4) from rgD_nat 4, cut_iD]
  refine for_ind (fun k : Nat => D.int (k : Int)) (fun xs env => ∃ (n : Nat) (ds : List D) (u2 u3 u4 u5 u6 u7 : Sl), env = [.ext (.fz (ns.map D.int)), .lst a ds, u2, u3, u4, u5, u6, u7] ∧ JarOk n ds ∧ n + xs.length * 600000 ≤ 2500000) ?_ ?_ (List.range 4) _
    ⟨0, _, _, _, _, _, _, _, rfl, ⟨_, 0, 0, rfl, by decide, by decide⟩, by decide⟩
  · rintro env ⟨n, ds, u2, u3, u4, u5, u6, u7, rfl, _⟩
    refine ⟨True.intro, ?_⟩
    unfold k8_law
    and_intros
    exact hQ _
  rintro k xs env N ⟨n, ds, u2, u3, u4, u5, u6, u7, rfl, hj, hn⟩ hN
  rw [List.length_cons] at hn
  refine ⟨True.intro, ?_⟩
  unfold b7_law
  and_intros
  refine ⟨n, a, ds, rfl, hj, by omega, fun w ds1 fin hj1 => ?_⟩
  and_intros
  unfold k6_law
  and_intros
  refine ⟨n + 1, a, ds1, w, 6, 24, 6, rfl, hj1, by omega, by decide, by decide, by decide, by decide, by decide, fun S ps ds2 fin hS h0 hSl hSp hps hpl hj2 => ?_⟩
  and_intros
  unfold k5_law
  and_intros
  refine ⟨_, a, ds2, S, ps, rfl, hj2, by omega, nsok_of hS hps (by omega), by omega, by omega, by omega, pns_of (by omega) hps, fun Bs ts ds3 fin hT hbl hlt hsr hj3 => ?_⟩
  and_intros
  obtain ⟨root, up, rk, P⟩ := pre_of hS (by omega) (by omega) hps (by omega) hT hbl hlt hsr
  unfold k4_law
  and_intros
  refine .inl ⟨w, S, ps, Bs, ts, root, up, rk, rfl, P, ?_⟩
  and_intros
  rw [if_neg (by decide)]
  unfold k3_law
  and_intros
  refine ⟨_, a, ds3, w, S, ps, Bs, ts, root, up, rk, rfl, hj3, by omega, P, by omega, fun L b ds4 hj4 hL hLl => ?_⟩
  and_intros
  have hsd : Dc 6 5000 (dSh S ps) := (Dc.up (Dc.up (dsh_dc (k := 0) hS hps (by omega) (m := 24) (by omega) (by decide)))).mono (by decide)
  refine for_indD (fun xs env => ∃ (u6 u7 : Sl), env = [.ext (.fz (ns.map D.int)), .lst a ds4, dI (k : Nat), dW w, .ext (dSh S ps), .ext (dTree Bs ts), u6, u7] ∧ ∀ d ∈ xs, BadT S ps d) ?_ ?_ L _ ⟨_, _, rfl, hL⟩
  · rintro env ⟨u6, u7, rfl, _⟩
    exact ⟨True.intro, hN _ ⟨_, ds4, _, _, _, _, _, _, rfl, hj4, by omega⟩⟩
  rintro d xs2 env N2 ⟨u6, u7, rfl, hd⟩ hN2
  obtain ⟨h1, h2⟩ := hd d List.mem_cons_self
  have hsh : Dc 7 56000 (.lst [dSh S ps, d]) := (Dc.l2 hsd h1)
  refine ⟨True.intro, ?_⟩
  unfold b2_law
  and_intros
  refine ⟨by decide, hsh.sh (by decide) (by decide), ?_⟩
  unfold k1_law
  and_intros
  refine .inr ⟨w, S, ps, d, 6, rfl, P.nok, h1.pl, h2, ?_⟩
  and_intros
  rw [if_neg (by decide)]
  refine ⟨by decide, hsh.sh (by decide) (by decide), ?_⟩
  rw [beq_self_eq_true, if_neg (by decide)]
  exact hN2 _ ⟨_, _, rfl, fun e he => hd e (List.mem_cons_of_mem _ he)⟩
end Y5
end V2
end LS
namespace HD
open PySem L2
abbrev FnD (K : PySem.W.Frag) (x : Str) (st : Stmt) (f : Addr) (fd : FuncData) : Prop := FunD K x x (defArgs st) (defBody st) (defScope st) [] [] f fd
theorem Def.of {G : GG} {x : Str} {st : Stmt} {f : Addr} {fd : FuncData} {N ps : List Str} {k n m : Nat} {t : DTS} {sp : DSpec} (F : FnD G.K x st f fd) (hmg : G.mg x = some (.ref f)) (sc : FnScope N ps (defScope st)) (hb : DSs G N (fnS (defScope st)) k (defBody st) t) (hm : Meets t n m sp)
    (hn : ps.length = n) (hN : N.length = n + m) (len : ∀ ds Q X, sp ds Q X → ds.length = n) (bd : Binds G.K fd ps []) : Def G (k + 1) x n sp := by
  subst hn
  refine ⟨⟨f, fd, ps, fn_ok (He5.fun_of F) sc hb fun args Qd Xd h hl => ?_, hmg, F.kp, bd⟩, len⟩
  have e : N.length - args.length = m := by omega
  rw [e]
  exact hm args Qd Xd h
theorem Def.ok {G : GG} {k : Nat} {x : Str} {sp : DSpec} {fa : Addr} {st : Stmt} {fd : FuncData} {N : List Str} {m : Nat} {t : DTS} (F : FnD G.K x st fa fd) (sc : FnScope N ["script"] (defScope st)) (hb : DSs G N (fnS (defScope st)) k (defBody st) t) (hm : Meets t 1 m sp) (hN : N.length = 1 + m) :
    FnG G.P G.w G.K G.mg G.base (L2.CX G.P G.w) (k + 1) fa fd ["script"] (toSp G.K 1 sp) := by
  refine fn_ok (He5.fun_of F) sc hb fun args Qd Xd h hl => ?_
  have e : N.length - args.length = m := by
    have : args.length = 1 := hl
    omega
  rw [e]
  exact hm args Qd Xd h
theorem walkW {l : PySem.W.OpenLaw} {n k : Nat} {q : Program} {names : List Str} {XP : (Str → Option Value) → Heap → Prop} {YP : World → Heap → Prop} {d : DefRec} {CX : World → CXT} {x : Str}
    (hn : l.most = some n) (hz : n ≤ sizeLine) (hd0 : d.params.defaults = []) (room : Room k callerA)
    (F : ∀ (w : World) (mg : Str → Option Value) (f : Addr) (h : Heap), YP w h → h.Ns mainGlobals mg → mg d.name = some (.ref f) →
      ∃ (K : PySem.W.Frag) (fd : FuncData) (sp : Sp), K.In h ∧ (∀ (s : Shared) (v : Value), BindsTo s fd ⟨[v], []⟩ [(x, v)]) ∧
        (∀ (H : Hp) (a : Addr) (ns : List Int), ns.length ≤ n → SqL K H a (ns.map V.int) → sp [.ref a] H (fun v _ => v = .bl true) fun _ _ _ => False) ∧
        ∀ base : Heap, K.In base → base.Ns mainGlobals mg → FnG l.prog w K mg base (CX w) k f fd [x] sp)
    (no : ∀ (w : World) (H : Hp) (s : Shared) (e : Value) (s' : Shared), CX w [] H s (fun _ _ _ => False) e s' → False) :
    PySem.W.WalkO q names XP YP l.row.toRowW d [] (fun f vs => PySem.call f vs) := by
  refine Att.attach_call hn hd0 fun w s s1 mg mb f o pm cd doc a vs ns G Y h1 h2 h3 hm h4 h5 h6 h7 => ?_
  obtain ⟨K, fd, sp, hK, hb, hsp, hF⟩ := F w mg f _ Y G.T.g hm
  exact law_callG hK G.T.g G.T.b G.T.builtins G.T.nolimit h7 h4 h5 (Nat.le_trans h6 hz) room hF hb (fun H _ hS => hsp H a ns h6 hS) fun H e s' => no w H s1 e s'
end HD
namespace HD
open PySem L2
abbrev FnM (K : PySem.W.Frag) (m q : Str) (st : Stmt) (f : Addr) (fd : FuncData) : Prop := FunD K m q (defArgs st) (defBody st) (defScope st) [] [] f fd
theorem fn_go {G : GG} {x q : Str} {st : Stmt} {f : Addr} {fd : FuncData} {N ps : List Str} {k n m : Nat} {t : DTS} {sp : DSpec} (F : FnM G.K x q st f fd) (sc : FnScope N ps (defScope st)) (hb : DSs G N (fnS (defScope st)) k (defBody st) t) (hm : Meets t n m sp)
    (hn : ps.length = n) (hN : N.length = n + m) : FnG G.P G.w G.K G.mg G.base (L2.CX G.P G.w) (k + 1) f fd ps (toSp G.K n sp) := by
  subst hn
  refine fn_ok (He5.fun_of F) sc hb fun args Qd Xd h hl => ?_
  have e : N.length - args.length = m := by omega
  rw [e]
  exact hm args Qd Xd h
theorem KDef.of {G : GG} {c x q : Str} {st : Stmt} {f : Addr} {fd : FuncData} {N ps : List Str} {k n m : Nat} {t : DTS} {sp : DSpec} (F : FnM G.K x q st f fd) (M : Mk G.K (He.ga G.K c) f) (mg : G.mg c = some (.ref (He.ga G.K c))) (sc : FnScope N ps (defScope st)) (hb : DSs G N (fnS (defScope st)) k (defBody st) t) (hm : Meets t n m sp)
    (hn : ps.length = n) (hN : N.length = n + m) (len : ∀ ds Q X, sp ds Q X → ds.length = n) (bd : Binds G.K fd ps []) : KDef G (k + 1) c n sp :=
  ⟨⟨f, fd, ps, fn_go F sc hb hm hn hN, M, bd⟩, mg, len⟩
section
variable {G : GG} {N : List Str} {sc : SC} {k kf n : Nat} {x : Str} {spec : DSpec} {e o a : Expr} {es : List Expr} {p pos apos : Pos} {ta : DT}
theorem ds_asgS {tg : Expr} {vs : List Nat} {g : DTG} (h : DE G N sc k a ta) (hg : DG G N sc tg vs g) (hs : ∀ env, swapsWithSole [tg] a pos.line env = pure false := by intro _; rfl) (hw : ∀ env : Env, env.scope = sc.sc → swappedStores [tg] a env = pure none := by intro env h; unfold swappedStores Env.blockKind Env.kindOf; rw [h]; rfl)
    (h1 : ∀ env, (assignEach [tg] env).map (·.2) = [assign tg env] := by intro _; rfl) : DS G N sc k (.Assign [tg] a pos) (sAsg ta g) := ⟨fun W => by
  obtain ⟨te, p1, i1⟩ := h.ex W
  obtain ⟨gg, p2, i2⟩ := hg.ex
  refine ⟨tAsg te gg, fun X S => ps_asg (p1 X S) (p2 W k X S) (hs _) (hw _ S.scp) (h1 _), fun e Ex hl env F σ H E Dn hh ht ok => ?_⟩
  refine i1 e Ex hl env [] F σ H _ _ hh ht fun v H1 F1 env1 x hh1 q1 => ?_
  obtain ⟨d, F2, env2, _, hh2, rd, q2⟩ := hh1.frz1 q1
  exact i2 e env2 [] F2 σ H1 v d E.nx Dn.nx hh2 rd q2 fun env3 σ3 hh3 _ q3 => ok.nx env3 F2 σ3 H1 hh3 q3⟩
end
end HD
namespace LS.V2.Y5.K75.E
open PySem L2 HD PM
open K01 (sp_product)
open K01 (t_are_worths m_are_worths sp_are_worths)
abbrev N_is_whole : List Str := ["thing"]
abbrev P_is_whole : List Str := ["thing"]
theorem sc_is_whole : FnScope N_is_whole P_is_whole (defScope s_is_whole) := ⟨rfl, rfl, rfl, by decide +kernel, rfl, by decide +kernel, by decide +kernel⟩
theorem d_is_whole {G : GG} (B : Blt G) : DSs G N_is_whole (fnS (defScope s_is_whole)) 0 (defBody s_is_whole) t_is_whole :=
    (dss_one (ds_ret (de_and (de_cb b_isi B.isinstance (da_cons (de_var 0) (da_cons (de_bltn (v := .ty "int") rfl B.int (by decide +kernel) rfl) da_nil))) (de_one (de_not (de_cb b_isi B.isinstance (da_cons (de_var 0) (da_cons (de_bltn (v := .ty "bool") rfl B.bool (by decide +kernel) rfl) da_nil))))))))
abbrev N_near_of : List Str := ["ties", "i", "one", "other"]
abbrev P_near_of : List Str := ["ties", "i"]
theorem sc_near_of : FnScope N_near_of P_near_of (defScope s_near_of) := ⟨rfl, rfl, rfl, by decide +kernel, rfl, by decide +kernel, by decide +kernel⟩
theorem d_near_of {G : GG} (B : Blt G) : DSs G N_near_of (fnS (defScope s_near_of)) 0 (defBody s_near_of) t_near_of :=
    (dss_one (ds_ret (de_cb b_sorted B.sorted (da_cons (de_lc [(Str.ofString "one", 2), (Str.ofString "other", 3)] (di_seq (de_var 0)) (by decide +kernel) (dg_tup (dgs_cons (dg_name 2) (dgs_cons (dg_name 3) dgs_nil))) (dtl_one (dt_cmp c_in (de_var 1) (de_tup (da_cons (de_var 2) (da_cons (de_var 3) da_nil))))) (de_sub (de_add (de_var 2) (de_var 3)) (de_var 1))) da_nil))))
abbrev N_bag_of : List Str := ["tree", "names", "bag", "name"]
abbrev P_bag_of : List Str := ["tree", "names"]
theorem sc_bag_of : FnScope N_bag_of P_bag_of (defScope s_bag_of) := ⟨rfl, rfl, rfl, by decide +kernel, rfl, by decide +kernel, by decide +kernel⟩
theorem d_bag_of {G : GG} (B : Blt G) : DSs G N_bag_of (fnS (defScope s_bag_of)) 0 (defBody s_bag_of) t_bag_of :=
    (dss_one (ds_ret (de_index (de_lc [(Str.ofString "bag", 2)] (di_seq (de_ix (de_var 0) de_int)) (by decide +kernel) (dg_name 2) dtl_nil (de_cb b_all B.all (da_cons (de_lc [(Str.ofString "name", 3)] (di_seq (de_var 1)) (by decide +kernel) (dg_name 3) dtl_nil (de_cmp c_in (de_var 3) (de_var 2))) da_nil))) de_bl)))
abbrev N_law_gprime : List Str := ["at", "some"]
abbrev P_law_gprime : List Str := ["at"]
theorem sc_law_gprime : FnScope N_law_gprime P_law_gprime (defScope s_law_gprime) := ⟨rfl, rfl, rfl, by decide +kernel, rfl, by decide +kernel, by decide +kernel⟩
theorem d_law_gprime {G : GG} (B : Blt G) : DSs G N_law_gprime (fnS (defScope s_law_gprime)) 0 (defBody s_law_gprime) t_law_gprime :=
    (dss_cons (ds_setE 1 (de_lst (da_cons de_int (da_cons de_int (da_cons de_int (da_cons de_int (da_cons de_int (da_cons de_int (da_cons de_int da_nil)))))))))
    (dss_one (ds_ret (de_ix (de_add (de_var 1) (de_lst (da_cons de_int (da_cons de_int da_nil)))) (de_mod (de_var 0) de_int)))))
abbrev N_law_gfillings : List Str := ["sizes", "names", "found", "name", "longer", "some", "worth"]
abbrev P_law_gfillings : List Str := ["sizes", "names"]
theorem sc_law_gfillings : FnScope N_law_gfillings P_law_gfillings (defScope s_law_gfillings) := ⟨rfl, rfl, rfl, by decide +kernel, rfl, by decide +kernel, by decide +kernel⟩
theorem d_law_gfillings {G : GG} (B : Blt G) : DSs G N_law_gfillings (fnS (defScope s_law_gfillings)) 0 (defBody s_law_gfillings) t_law_gfillings :=
    (dss_cons (ds_setE 2 (de_lst (da_cons (de_tup da_nil) da_nil)))
    (dss_cons (ds_for (di_seq (de_var 1)) (dg_name 3) (dss_cons (ds_set 4 (de_lst da_nil))
    (dss_cons (ds_for (di_seq (de_var 2)) (dg_name 5) (dss_one (ds_expr (de_extend 4 (de_lc [(Str.ofString "worth", 6)] (di_range1 (da_cons (de_ix (de_var 0) (de_var 3)) da_nil) B.range) (by decide +kernel) (dg_name 6) dtl_nil (de_add (de_var 5) (de_tup (da_cons (de_var 6) da_nil))))))))
    (dss_one (ds_setE 2 (de_var 4))))))
    (dss_one (ds_ret (de_var 2)))))
abbrev N_law_gbags : List Str := ["sheet", "order", "near", "name", "names", "worths", "bags", "k", "bag", "other"]
abbrev P_law_gbags : List Str := ["sheet", "order"]
theorem sc_law_gbags : FnScope N_law_gbags P_law_gbags (defScope s_law_gbags) := ⟨rfl, rfl, rfl, by decide +kernel, rfl, by decide +kernel, by decide +kernel⟩
theorem d_law_gbags {G : GG} (B : Blt G) : DSs G N_law_gbags (fnS (defScope s_law_gbags)) 0 (defBody s_law_gbags) t_law_gbags :=
    (dss_cons (ds_setG 2 (de_lst da_nil))
    (dss_cons (ds_for (di_range1 (da_cons (de_cb b_len B.len (da_cons (de_ix (de_var 0) de_int) da_nil)) da_nil) B.range) (dg_name 3) (dss_cons (ds_expr (de_appR (de_varR 2) (de_lst (da_cons (de_var 3) da_nil))))
    (dss_one (ds_for (di_seq (de_ix (de_var 0) de_int)) (dg_tup (dgs_cons (dg_name 4) (dgs_cons (dg_name 5) dgs_nil))) (dss_one (ds_if (dt_cmp c_in (de_var 3) (de_var 4)) (dss_one (ds_expr (de_extTR (de_ixR (de_varR 2) (de_var 3)) (de_var 4)))) dss_nil))))))
    (dss_cons (ds_set 6 (de_lst da_nil))
    (dss_cons (ds_for (di_enum (de_var 1) B.enumerate) (dg_tup (dgs_cons (dg_name 7) (dgs_cons (dg_name 3) dgs_nil))) (dss_cons (ds_setE 8 (de_sortsetB (de_lc [(Str.ofString "other", 9)] (di_seq (de_ixR (de_varR 2) (de_var 3))) (by decide +kernel) (dg_name 9) (dtl_one (dt_cmp c_notin (de_var 9) (de_slice (de_var 1) do_none (do_some (de_var 7))))) (de_var 9)) B.sorted B.set))
    (dss_cons (ds_for (di_seq (de_var 8)) (dg_name 9) (dss_one (ds_expr (de_extR (de_ixR (de_varR 2) (de_var 9)) (de_var 8)))))
    (dss_one (ds_expr (de_append 6 (de_ct t_tuple B.tuple (da_cons (de_var 8) da_nil))))))))
    (dss_one (ds_ret (de_var 6)))))))
abbrev N_law_gone_bag : List Str := ["bags", "ties", "k", "one", "other", "both", "left", "i", "bag", "to", "j"]
abbrev P_law_gone_bag : List Str := ["bags", "ties", "k"]
theorem sc_law_gone_bag : FnScope N_law_gone_bag P_law_gone_bag (defScope s_law_gone_bag) := ⟨rfl, rfl, rfl, by decide +kernel, rfl, by decide +kernel, by decide +kernel⟩
theorem d_law_gone_bag {G : GG} (B : Blt G) : DSs G N_law_gone_bag (fnS (defScope s_law_gone_bag)) 0 (defBody s_law_gone_bag) t_law_gone_bag :=
    (dss_cons (ds_asg (de_cb b_sortT B.sorted (da_cons (de_ix (de_var 1) (de_var 2)) da_nil)) (dg_lst (dgs_cons (dg_name 3) (dgs_cons (dg_name 4) dgs_nil))))
    (dss_cons (ds_setE 5 (de_ct t_tuple B.tuple (da_cons (de_sortset (de_add (de_ix (de_var 0) (de_var 3)) (de_ix (de_var 0) (de_var 4))) B.sorted B.set) da_nil)))
    (dss_cons (ds_setLcE [(Str.ofString "i", 7), (Str.ofString "bag", 8)] 6 (di_enum (de_var 0) B.enumerate) (by decide +kernel) (dg_tup (dgs_cons (dg_name 7) (dgs_cons (dg_name 8) dgs_nil))) (dtl_one (dt_cmp c_ne (de_var 7) (de_var 4))) (de_if (dt_cmp c_eq (de_var 7) (de_var 3)) (de_var 5) (de_var 8)))
    (dss_cons (ds_setE 9 (de_lc [(Str.ofString "i", 7)] (di_range1 (da_cons (de_cb b_len B.len (da_cons (de_var 0) da_nil)) da_nil) B.range) (by decide +kernel) (dg_name 7) dtl_nil (de_if (dt_cmp c_eq (de_var 7) (de_var 4)) (de_var 3) (de_sub (de_var 7) (de_ct t_int B.int (da_cons (de_cmp c_gt (de_var 7) (de_var 4)) da_nil))))) (hs := fun env he => sw_cell (by rw [he]; rfl)))
    (dss_one (ds_ret (de_tup (da_cons (de_var 6) (da_cons (de_lc [(Str.ofString "i", 7), (Str.ofString "j", 10)] (di_seq (de_add (de_slice (de_var 1) do_none (do_some (de_var 2))) (de_slice (de_var 1) (do_some (de_add (de_var 2) de_int)) do_none))) (by decide +kernel) (dg_tup (dgs_cons (dg_name 7) (dgs_cons (dg_name 10) dgs_nil))) dtl_nil (de_tup (da_cons (de_ix (de_var 9) (de_var 7)) (da_cons (de_ix (de_var 9) (de_var 10)) da_nil)))) da_nil)))))))))
abbrev N_law_gkind : List Str := ["caught", "kinds", "names"]
abbrev P_law_gkind : List Str := ["caught"]
theorem sc_law_gkind : FnScope N_law_gkind P_law_gkind (defScope s_law_gkind) := ⟨rfl, rfl, rfl, by decide +kernel, rfl, by decide +kernel, by decide +kernel⟩
theorem d_law_gkind {G : GG} (B : Blt G) {cs : List Str} (g_NoBack : G.mg "NoBack" = some (clsV G.K "NoBack")) (g_NoBag : G.mg "NoBag" = some (clsV G.K "NoBag")) (g_NoDeeds : G.mg "NoDeeds" = some (clsV G.K "NoDeeds")) (g_NoFilling : G.mg "NoFilling" = some (clsV G.K "NoFilling")) (g_NoName : G.mg "NoName" = some (clsV G.K "NoName")) (g_NoNumber : G.mg "NoNumber" = some (clsV G.K "NoNumber")) (g_NoOffers : G.mg "NoOffers" = some (clsV G.K "NoOffers")) (g_NoPart : G.mg "NoPart" = some (clsV G.K "NoPart")) (g_NoRow : G.mg "NoRow" = some (clsV G.K "NoRow")) (g_NoText : G.mg "NoText" = some (clsV G.K "NoText")) (g_NoTree : G.mg "NoTree" = some (clsV G.K "NoTree")) (g_NoWeights : G.mg "NoWeights" = some (clsV G.K "NoWeights")) (g_NoWorths : G.mg "NoWorths" = some (clsV G.K "NoWorths")) (g_TooMany : G.mg "TooMany" = some (clsV G.K "TooMany")) (b_ValueError : G.mg "ValueError" = none) (hXI : XIs G.K (xtab cs)) : DSs G N_law_gkind (fnS (defScope s_law_gkind)) 0 (defBody s_law_gkind) (t_law_gkind cs) :=
    (dss_cons (ds_setE 1 (de_lst (da_cons (de_isX hXI B.isinstance (da_cons (de_var 0) (da_cons (de_glo g_NoFilling) da_nil))) (da_cons (de_isX hXI B.isinstance (da_cons (de_var 0) (da_cons (de_glo g_NoName) da_nil))) (da_cons (de_isX hXI B.isinstance (da_cons (de_var 0) (da_cons (de_glo g_TooMany) da_nil))) da_nil)))))
    (dss_cons (ds_setE 1 (de_add (de_var 1) (de_lst (da_cons (de_isX hXI B.isinstance (da_cons (de_var 0) (da_cons (de_glo g_NoDeeds) da_nil))) (da_cons (de_isX hXI B.isinstance (da_cons (de_var 0) (da_cons (de_glo g_NoOffers) da_nil))) (da_cons (de_isX hXI B.isinstance (da_cons (de_var 0) (da_cons (de_glo g_NoTree) da_nil))) da_nil))))))
    (dss_cons (ds_setE 1 (de_add (de_var 1) (de_lst (da_cons (de_isX hXI B.isinstance (da_cons (de_var 0) (da_cons (de_glo g_NoBag) da_nil))) (da_cons (de_isX hXI B.isinstance (da_cons (de_var 0) (da_cons (de_glo g_NoPart) da_nil))) (da_cons (de_isX hXI B.isinstance (da_cons (de_var 0) (da_cons (de_glo g_NoWorths) da_nil))) da_nil))))))
    (dss_cons (ds_setE 1 (de_add (de_var 1) (de_lst (da_cons (de_isX hXI B.isinstance (da_cons (de_var 0) (da_cons (de_glo g_NoBack) da_nil))) (da_cons (de_isX hXI B.isinstance (da_cons (de_var 0) (da_cons (de_glo g_NoWeights) da_nil))) (da_cons (de_isX hXI B.isinstance (da_cons (de_var 0) (da_cons (de_glo g_NoNumber) da_nil))) da_nil))))))
    (dss_cons (ds_setE 1 (de_add (de_var 1) (de_lst (da_cons (de_isX hXI B.isinstance (da_cons (de_var 0) (da_cons (de_glo g_NoRow) da_nil))) (da_cons (de_isX hXI B.isinstance (da_cons (de_var 0) (da_cons (de_glo g_NoText) da_nil))) da_nil)))))
    (dss_cons (ds_if (DWe.te (dw_or (dt_cmp c_ne (de_count (de_var 1) de_bl) de_int) (dw_or1 (dt_not (dt_val (de_isX hXI B.isinstance (da_cons (de_var 0) (da_cons (de_bltn (v := .ty "ValueError") rfl b_ValueError (by decide +kernel) rfl) da_nil)))))))) (dss_one (ds_ret de_str)) dss_nil)
    (dss_cons (ds_setE 2 (de_lst (da_cons de_str (da_cons de_str (da_cons de_str (da_cons de_str (da_cons de_str (da_cons de_str (da_cons de_str (da_cons de_str (da_cons de_str (da_cons de_str (da_cons de_str da_nil)))))))))))))
    (dss_one (ds_ret (de_ix (de_add (de_var 2) (de_lst (da_cons de_str (da_cons de_str (da_cons de_str da_nil))))) (de_index (de_var 1) de_bl)))))))))))
abbrev N_are_names : List Str := ["many", "thing", "one", "k"]
abbrev P_are_names : List Str := ["many", "thing"]
theorem sc_are_names : FnScope N_are_names P_are_names (defScope s_are_names) := ⟨rfl, rfl, rfl, by decide +kernel, rfl, by decide +kernel, by decide +kernel⟩
theorem d_are_names {G : GG} (B : Blt G) (h_is_whole : Def G 1 "is_whole" 1 sp_is_whole) : DSs G N_are_names (fnS (defScope s_are_names)) 1 (defBody s_are_names) t_are_names :=
    (dss_cons (ds_if (DWe.te (dw_or (dt_not (dt_val (de_cb b_isi B.isinstance (da_cons (de_var 1) (da_cons (de_bltn (v := .ty "tuple") rfl B.tuple (by decide +kernel) rfl) da_nil))))) (dw_or1 (dt_not (dt_val (de_cb b_all B.all (da_cons (de_lc [(Str.ofString "one", 2)] (di_seq (de_var 1)) (by decide +kernel) (dg_name 2) dtl_nil (de_and (de_call h_is_whole (da_cons (de_var 2) da_nil)) (de_one (de_chain c_le c_lt de_int (de_var 2) (de_var 0))))) da_nil))))))) (dss_one (ds_ret de_bl)) dss_nil)
    (dss_one (ds_ret (de_cb b_all B.all (da_cons (de_lc [(Str.ofString "k", 3)] (di_range2 (da_cons de_int (da_cons (de_cb b_len B.len (da_cons (de_var 1) da_nil)) da_nil)) B.range) (by decide +kernel) (dg_name 3) dtl_nil (de_cmp c_lt (de_ix (de_var 1) (de_sub (de_var 3) de_int)) (de_ix (de_var 1) (de_var 3)))) da_nil)))))
abbrev N_is_tie : List Str := ["many", "thing"]
abbrev P_is_tie : List Str := ["many", "thing"]
theorem sc_is_tie : FnScope N_is_tie P_is_tie (defScope s_is_tie) := ⟨rfl, rfl, rfl, by decide +kernel, rfl, by decide +kernel, by decide +kernel⟩
theorem d_is_tie {G : GG} (B : Blt G) (h_is_whole : Def G 1 "is_whole" 1 sp_is_whole) : DSs G N_is_tie (fnS (defScope s_is_tie)) 1 (defBody s_is_tie) t_is_tie :=
    (dss_cons (ds_if (DWe.te (dw_or (dt_not (dt_val (de_cb b_isi B.isinstance (da_cons (de_var 1) (da_cons (de_bltn (v := .ty "tuple") rfl B.tuple (by decide +kernel) rfl) da_nil))))) (dw_or (dt_cmp c_ne (de_cb b_len B.len (da_cons (de_var 1) da_nil)) de_int) (dw_or (dt_not (dt_val (de_call h_is_whole (da_cons (de_ix (de_var 1) de_int) da_nil)))) (dw_or1 (dt_not (dt_val (de_call h_is_whole (da_cons (de_ix (de_var 1) de_int) da_nil))))))))) (dss_one (ds_ret de_bl)) dss_nil)
    (dss_one (ds_ret (de_chain3 c_le c_lt c_lt de_int (de_ix (de_var 1) de_int) (de_ix (de_var 1) de_int) (de_var 0)))))
abbrev N_hanging : List Str := ["ties", "some", "seen", "at", "other"]
abbrev P_hanging : List Str := ["ties", "some"]
theorem sc_hanging : FnScope N_hanging P_hanging (defScope s_hanging) := ⟨rfl, rfl, rfl, by decide +kernel, rfl, by decide +kernel, by decide +kernel⟩
theorem d_hanging {G : GG} (B : Blt G) (h_near_of : Def G 1 "near_of" 2 sp_near_of) : DSs G N_hanging (fnS (defScope s_hanging)) 1 (defBody s_hanging) t_hanging :=
    (dss_cons (ds_if (dt_cmp c_eq (de_var 1) (de_lst da_nil)) (dss_one (ds_ret de_bl)) dss_nil)
    (dss_cons (ds_setE 2 (de_lst (da_cons (de_ix (de_var 1) de_int) da_nil)))
    (dss_cons (ds_setE 3 de_int)
    (dss_cons (ds_while (dt_cmp c_lt (de_var 3) (de_cb b_len B.len (da_cons (de_var 2) da_nil))) (dss_cons (ds_setE 2 (de_add (de_var 2) (de_lc [(Str.ofString "other", 4)] (di_seq (de_call h_near_of (da_cons (de_var 0) (da_cons (de_ix (de_var 2) (de_var 3)) da_nil)))) (by decide +kernel) (dg_name 4) (dtl_one (DWe.te (dw_and (dt_cmp c_in (de_var 4) (de_var 1)) (dw_and1 (dt_cmp c_notin (de_var 4) (de_var 2)))))) (de_var 4))))
    (dss_one (ds_setE 3 (de_add (de_var 3) de_int)))))
    (dss_one (ds_ret (de_cmp c_eq (de_cb b_len B.len (da_cons (de_var 2) da_nil)) (de_cb b_len B.len (da_cons (de_var 1) da_nil)))))))))
abbrev N_law_gfresh : List Str := ["tape", "at", "cell", "one", "two", "three"]
abbrev P_law_gfresh : List Str := ["tape"]
theorem sc_law_gfresh : FnScope N_law_gfresh P_law_gfresh (defScope s_law_gfresh) := ⟨rfl, rfl, rfl, by decide +kernel, rfl, by decide +kernel, by decide +kernel⟩
theorem d_law_gfresh {G : GG} (B : Blt G) (h_law_gprime : Def G 1 "_law_gprime" 1 sp_law_gprime) : DSs G N_law_gfresh (fnS (defScope s_law_gfresh)) 1 (defBody s_law_gfresh) t_law_gfresh :=
    (dss_cons (ds_setE 1 (de_ix (de_var 0) de_int))
    (dss_cons (ds_setitem 0 de_int (de_add (de_var 1) de_int))
    (dss_cons (ds_setE 2 (de_add (de_mul de_int (de_var 1)) de_int))
    (dss_cons (ds_if (dt_cmp c_lt (de_var 1) (de_cb b_len B.len (da_cons (de_ix (de_var 0) de_int) da_nil))) (dss_one (ds_setE 2 (de_ix (de_ix (de_var 0) de_int) (de_var 1)))) (dss_one (ds_if (dt_cmp c_gt (de_cb b_len B.len (da_cons (de_ix (de_var 0) de_int) da_nil)) de_int) (dss_one (ds_setE 2 (de_add (de_mul (de_mod (de_ix (de_ix (de_var 0) de_int) (de_mod (de_var 1) (de_cb b_len B.len (da_cons (de_ix (de_var 0) de_int) da_nil)))) de_int) (de_add (de_var 1) de_int)) (de_var 1)))) dss_nil)))
    (dss_cons (ds_if (DWe.te (dw_and (dt_cmp c_lt (de_var 1) (de_cb b_len B.len (da_cons (de_ix (de_var 0) de_int) da_nil))) (dw_and1 (dt_cmp c_ge (de_var 2) (de_pow de_int de_int))))) (dss_one (ds_ret (de_var 2))) dss_nil)
    (dss_cons (ds_setE 3 (de_mod (de_pow (de_add (de_add (de_mul (de_mod (de_var 2) de_int) (de_add (de_var 1) de_int)) (de_mul de_int (de_var 1))) de_int) de_int) (de_call h_law_gprime (da_cons (de_var 1) da_nil))))
    (dss_cons (ds_setE 4 (de_mod (de_pow (de_add (de_add (de_mul (de_var 3) (de_add (de_var 1) de_int)) (de_mod (de_var 2) de_int)) de_int) de_int) (de_call h_law_gprime (da_cons (de_add (de_var 1) de_int) da_nil))))
    (dss_cons (ds_setE 5 (de_mod (de_add (de_mul (de_var 4) (de_var 4)) (de_var 3)) (de_call h_law_gprime (da_cons (de_add (de_var 1) de_int) da_nil))))
    (dss_one (ds_ret (de_add (de_mul (de_add (de_mul (de_var 5) de_int) (de_var 4)) de_int) (de_var 3))))))))))))
abbrev N_are_bags : List Str := ["many", "thing", "bag"]
abbrev P_are_bags : List Str := ["many", "thing"]
theorem sc_are_bags : FnScope N_are_bags P_are_bags (defScope s_are_bags) := ⟨rfl, rfl, rfl, by decide +kernel, rfl, by decide +kernel, by decide +kernel⟩
theorem d_are_bags {G : GG} (B : Blt G) (h_are_names : Def G 2 "are_names" 2 sp_are_names) (k_MOST_BAGS : ∃ t, G.mg "MOST_BAGS" = some (.int 12 t)) : DSs G N_are_bags (fnS (defScope s_are_bags)) 2 (defBody s_are_bags) t_are_bags :=
    (dss_cons (ds_if (DWe.te (dw_or (dt_not (dt_val (de_cb b_isi B.isinstance (da_cons (de_var 1) (da_cons (de_bltn (v := .ty "tuple") rfl B.tuple (by decide +kernel) rfl) da_nil))))) (dw_or1 (dt_not (dt_chain c_le c_le de_int (de_cb b_len B.len (da_cons (de_var 1) da_nil)) (de_gint k_MOST_BAGS)))))) (dss_one (ds_ret de_bl)) dss_nil)
    (dss_one (ds_ret (de_cb b_all B.all (da_cons (de_lc [(Str.ofString "bag", 2)] (di_seq (de_var 1)) (by decide +kernel) (dg_name 2) dtl_nil (de_call h_are_names (da_cons (de_var 0) (da_cons (de_var 2) da_nil)))) da_nil)))))
abbrev N_is_tree : List Str := ["many", "bags", "ties", "tie", "k"]
abbrev P_is_tree : List Str := ["many", "bags", "ties"]
theorem sc_is_tree : FnScope N_is_tree P_is_tree (defScope s_is_tree) := ⟨rfl, rfl, rfl, by decide +kernel, rfl, by decide +kernel, by decide +kernel⟩
theorem d_is_tree {G : GG} (B : Blt G) (h_hanging : Def G 2 "hanging" 2 sp_hanging) (h_is_tie : Def G 2 "is_tie" 2 sp_is_tie) : DSs G N_is_tree (fnS (defScope s_is_tree)) 2 (defBody s_is_tree) t_is_tree :=
    (dss_cons (ds_if (DWe.te (dw_or (dt_not (dt_val (de_cb b_isi B.isinstance (da_cons (de_var 2) (da_cons (de_bltn (v := .ty "tuple") rfl B.tuple (by decide +kernel) rfl) da_nil))))) (dw_or1 (dt_not (dt_val (de_cb b_all B.all (da_cons (de_lc [(Str.ofString "tie", 3)] (di_seq (de_var 2)) (by decide +kernel) (dg_name 3) dtl_nil (de_call h_is_tie (da_cons (de_cb b_len B.len (da_cons (de_var 1) da_nil)) (da_cons (de_var 3) da_nil)))) da_nil))))))) (dss_one (ds_ret de_bl)) dss_nil)
    (dss_cons (ds_if (DWe.te (dw_or (dt_cmp c_ne (de_cb b_len B.len (da_cons (de_var 2) da_nil)) (de_sub (de_cb b_len B.len (da_cons (de_var 1) da_nil)) de_int)) (dw_or1 (dt_val (de_cb b_any B.any (da_cons (de_lc [(Str.ofString "k", 4)] (di_range2 (da_cons de_int (da_cons (de_cb b_len B.len (da_cons (de_var 2) da_nil)) da_nil)) B.range) (by decide +kernel) (dg_name 4) dtl_nil (de_cmp c_geT (de_ix (de_var 2) (de_sub (de_var 4) de_int)) (de_ix (de_var 2) (de_var 4)))) da_nil)))))) (dss_one (ds_ret de_bl)) dss_nil)
    (dss_one (ds_ret (de_call h_hanging (da_cons (de_var 2) (da_cons (de_listRg (drg_1 (de_cb b_len B.len (da_cons (de_var 1) da_nil)) B.range) B.list) da_nil)))))))
abbrev N_law_gdraw : List Str := ["tape", "many", "drawn"]
abbrev P_law_gdraw : List Str := ["tape", "many"]
theorem sc_law_gdraw : FnScope N_law_gdraw P_law_gdraw (defScope s_law_gdraw) := ⟨rfl, rfl, rfl, by decide +kernel, rfl, by decide +kernel, by decide +kernel⟩
theorem d_law_gdraw {G : GG} (B : Blt G) (h_law_gfresh : Def G 2 "_law_gfresh" 1 sp_law_gfresh) : DSs G N_law_gdraw (fnS (defScope s_law_gdraw)) 2 (defBody s_law_gdraw) t_law_gdraw :=
    (dss_cons (ds_if (dt_cmp c_lt (de_ix (de_var 0) de_int) (de_var 1)) (dss_one (ds_setitem 0 de_int (de_callJ 0 h_law_gfresh da_nil))) dss_nil)
    (dss_cons (ds_setE 2 (de_mod (de_ix (de_var 0) de_int) (de_var 1)))
    (dss_cons (ds_setitem 0 de_int (de_div (de_ix (de_var 0) de_int) (de_var 1)))
    (dss_one (ds_ret (de_var 2))))))
abbrev N_is_bag_tree : List Str := ["sheet", "thing", "many", "bags", "ties", "part", "bag", "name", "some", "i"]
abbrev P_is_bag_tree : List Str := ["sheet", "thing"]
theorem sc_is_bag_tree : FnScope N_is_bag_tree P_is_bag_tree (defScope s_is_bag_tree) := ⟨rfl, rfl, rfl, by decide +kernel, rfl, by decide +kernel, by decide +kernel⟩
theorem d_is_bag_tree {G : GG} (B : Blt G) (h_are_bags : Def G 3 "are_bags" 2 sp_are_bags) (h_hanging : Def G 2 "hanging" 2 sp_hanging) (h_is_tree : Def G 3 "is_tree" 3 sp_is_tree) : DSs G N_is_bag_tree (fnS (defScope s_is_bag_tree)) 3 (defBody s_is_bag_tree) t_is_bag_tree :=
    (dss_cons (ds_setE 2 (de_cb b_len B.len (da_cons (de_ix (de_var 0) de_int) da_nil)))
    (dss_cons (ds_if (DWe.te (dw_or (dt_not (dt_val (de_cb b_isi B.isinstance (da_cons (de_var 1) (da_cons (de_bltn (v := .ty "tuple") rfl B.tuple (by decide +kernel) rfl) da_nil))))) (dw_or (dt_cmp c_ne (de_cb b_len B.len (da_cons (de_var 1) da_nil)) de_int) (dw_or1 (dt_not (dt_val (de_call h_are_bags (da_cons (de_var 2) (da_cons (de_ix (de_var 1) de_int) da_nil))))))))) (dss_one (ds_ret de_bl)) dss_nil)
    (dss_cons (ds_asg (de_var 1) (dg_tup (dgs_cons (dg_name 3) (dgs_cons (dg_name 4) dgs_nil))))
    (dss_cons (ds_if (dt_not (dt_val (de_call h_is_tree (da_cons (de_var 2) (da_cons (de_var 3) (da_cons (de_var 4) da_nil)))))) (dss_one (ds_ret de_bl)) dss_nil)
    (dss_cons (ds_for (di_seq (de_ix (de_var 0) de_int)) (dg_name 5) (dss_one (ds_if (dt_not (dt_val (de_cb b_any B.any (da_cons (de_lc [(Str.ofString "bag", 6)] (di_seq (de_var 3)) (by decide +kernel) (dg_name 6) dtl_nil (de_cb b_all B.all (da_cons (de_lc [(Str.ofString "name", 7)] (di_seq (de_ix (de_var 5) de_int)) (by decide +kernel) (dg_name 7) dtl_nil (de_cmp c_in (de_var 7) (de_var 6))) da_nil))) da_nil)))) (dss_one (ds_ret de_bl)) dss_nil)))
    (dss_cons (ds_for (di_range1 (da_cons (de_var 2) da_nil) B.range) (dg_name 7) (dss_cons (ds_setLcE [(Str.ofString "i", 9)] 8 (di_range1 (da_cons (de_cb b_len B.len (da_cons (de_var 3) da_nil)) da_nil) B.range) (by decide +kernel) (dg_name 9) (dtl_one (dt_cmp c_in (de_var 7) (de_ix (de_var 3) (de_var 9)))) (de_var 9))
    (dss_one (ds_if (DWe.te (dw_or (dt_cmp c_eq (de_var 8) (de_lst da_nil)) (dw_or1 (dt_not (dt_val (de_call h_hanging (da_cons (de_var 4) (da_cons (de_var 8) da_nil)))))))) (dss_one (ds_ret de_bl)) dss_nil))))
    (dss_one (ds_ret de_bl))))))))
abbrev N_law_gword : List Str := ["tape"]
abbrev P_law_gword : List Str := ["tape"]
theorem sc_law_gword : FnScope N_law_gword P_law_gword (defScope s_law_gword) := ⟨rfl, rfl, rfl, by decide +kernel, rfl, by decide +kernel, by decide +kernel⟩
theorem d_law_gword {G : GG} (B : Blt G) (h_law_gdraw : Def G 3 "_law_gdraw" 2 sp_law_gdraw) : DSs G N_law_gword (fnS (defScope s_law_gword)) 3 (defBody s_law_gword) t_law_gword :=
    (dss_one (ds_ret (de_ix (de_lst (da_cons de_str (da_cons de_str (da_cons de_str (da_cons de_str (da_cons de_str da_nil)))))) (de_callJ 0 h_law_gdraw (da_cons de_int da_nil)))))
abbrev N_law_gworths : List Str := ["tape", "word", "many", "way", "k"]
abbrev P_law_gworths : List Str := ["tape", "word", "many"]
theorem sc_law_gworths : FnScope N_law_gworths P_law_gworths (defScope s_law_gworths) := ⟨rfl, rfl, rfl, by decide +kernel, rfl, by decide +kernel, by decide +kernel⟩
theorem d_law_gworths {G : GG} (B : Blt G) (h_law_gdraw : Def G 3 "_law_gdraw" 2 sp_law_gdraw) : DSs G N_law_gworths (fnS (defScope s_law_gworths)) 3 (defBody s_law_gworths) t_law_gworths :=
    (dss_cons (ds_setE 3 (de_callJ 0 h_law_gdraw (da_cons de_int da_nil)))
    (dss_cons (ds_if (dt_cmp c_eq (de_var 1) de_str) (dss_one (ds_ret (de_ct t_tuple B.tuple (da_cons (de_lc [(Str.ofString "k", 4)] (di_range1 (da_cons (de_var 2) da_nil) B.range) (by decide +kernel) (dg_name 4) dtl_nil (de_ix (de_lst (da_cons de_int (da_cons de_int (da_cons de_int (da_cons (de_mod (de_var 3) de_int) da_nil))))) (de_callJ 0 h_law_gdraw (da_cons de_int da_nil)))) da_nil)))) dss_nil)
    (dss_cons (ds_if (dt_cmp c_eq (de_var 3) de_int) (dss_one (ds_ret (de_ct t_tuple B.tuple (da_cons (de_lc [(Str.ofString "k", 4)] (di_range1 (da_cons (de_var 2) da_nil) B.range) (by decide +kernel) (dg_name 4) dtl_nil (de_sub (de_callJ 0 h_law_gdraw (da_cons (de_add (de_mul de_int (de_pow de_int de_int)) de_int) da_nil)) (de_pow de_int de_int))) da_nil)))) dss_nil)
    (dss_one (ds_ret (de_ct t_tuple B.tuple (da_cons (de_lc [(Str.ofString "k", 4)] (di_range1 (da_cons (de_var 2) da_nil) B.range) (by decide +kernel) (dg_name 4) dtl_nil (de_sub (de_callJ 0 h_law_gdraw (da_cons (de_ix (de_lst (da_cons de_int (da_cons de_int (da_cons de_int da_nil)))) (de_var 3)) da_nil)) (de_ix (de_lst (da_cons de_int (da_cons de_int (da_cons de_int da_nil)))) (de_var 3)))) da_nil)))))))
abbrev N_law_gorder : List Str := ["tape", "many", "left", "k"]
abbrev P_law_gorder : List Str := ["tape", "many"]
theorem sc_law_gorder : FnScope N_law_gorder P_law_gorder (defScope s_law_gorder) := ⟨rfl, rfl, rfl, by decide +kernel, rfl, by decide +kernel, by decide +kernel⟩
theorem d_law_gorder {G : GG} (B : Blt G) (h_law_gdraw : Def G 3 "_law_gdraw" 2 sp_law_gdraw) : DSs G N_law_gorder (fnS (defScope s_law_gorder)) 3 (defBody s_law_gorder) t_law_gorder :=
    (dss_cons (ds_set 2 (de_listRg (drg_1 (de_var 1) B.range) B.list))
    (dss_one (ds_ret (de_lc [(Str.ofString "k", 3)] (di_range1 (da_cons (de_var 1) da_nil) B.range) (by decide +kernel) (dg_name 3) dtl_nil (de_popAt 2 (de_callJ 0 h_law_gdraw (da_cons (de_cb b_len B.len (da_cons (de_var 2) da_nil)) da_nil)))))))
abbrev N_law_gno_trees : List Str := ["tape", "sheet", "tree", "bags", "ties", "x", "at", "bare", "bag", "name", "found", "odd", "many", "k", "names", "worths", "every", "i", "j"]
abbrev P_law_gno_trees : List Str := ["tape", "sheet", "tree"]
theorem sc_law_gno_trees : FnScope N_law_gno_trees P_law_gno_trees (defScope s_law_gno_trees) := ⟨rfl, rfl, rfl, by decide +kernel, rfl, by decide +kernel, by decide +kernel⟩
theorem d_law_gno_trees {G : GG} (B : Blt G) (h_law_gdraw : Def G 3 "_law_gdraw" 2 sp_law_gdraw) : DSs G N_law_gno_trees (fnS (defScope s_law_gno_trees)) 3 (defBody s_law_gno_trees) t_law_gno_trees :=
    (dss_cons (ds_asg (de_var 2) (dg_tup (dgs_cons (dg_name 3) (dgs_cons (dg_name 4) dgs_nil))))
    (dss_cons (ds_setE 5 (de_callJ 0 h_law_gdraw (da_cons (de_cb b_len B.len (da_cons (de_ix (de_var 1) de_int) da_nil)) da_nil)))
    (dss_cons (ds_setE 6 (de_callJ 0 h_law_gdraw (da_cons (de_cb b_len B.len (da_cons (de_var 3) da_nil)) da_nil)))
    (dss_cons (ds_setE 7 (de_ct t_tuple B.tuple (da_cons (de_lc [(Str.ofString "bag", 8)] (di_seq (de_var 3)) (by decide +kernel) (dg_name 8) dtl_nil (de_ct t_tuple B.tuple (da_cons (de_lc [(Str.ofString "name", 9)] (di_seq (de_var 8)) (by decide +kernel) (dg_name 9) (dtl_one (dt_cmp c_ne (de_var 9) (de_var 5))) (de_var 9)) da_nil))) da_nil)))
    (dss_cons (ds_set 10 (de_lst (da_cons de_non (da_cons (de_tup da_nil) (da_cons de_int (da_cons de_str (da_cons (de_lst (da_cons (de_var 3) (da_cons (de_var 4) da_nil))) (da_cons (de_tup (da_cons (de_var 3) da_nil)) (da_cons (de_tup (da_cons (de_var 3) (da_cons (de_var 4) (da_cons (de_tup da_nil) da_nil)))) (da_cons (de_tup (da_cons (de_ct t_list B.list (da_cons (de_var 3) da_nil)) (da_cons (de_var 4) da_nil))) (da_cons (de_tup (da_cons (de_var 3) (da_cons (de_ct t_list B.list (da_cons (de_var 4) da_nil)) da_nil))) da_nil)))))))))))
    (dss_cons (ds_set 10 (de_add (de_var 10) (de_lst (da_cons (de_tup (da_cons (de_add (de_var 3) (de_tup (da_cons (de_tup da_nil) da_nil))) (da_cons (de_var 4) da_nil))) (da_cons (de_tup (da_cons (de_tup da_nil) (da_cons (de_tup da_nil) da_nil))) (da_cons (de_tup (da_cons (de_var 7) (da_cons (de_var 4) da_nil))) (da_cons (de_tup (da_cons (de_var 3) (da_cons (de_add (de_var 4) (de_tup (da_cons (de_tup (da_cons de_int (da_cons de_int da_nil))) da_nil))) da_nil))) (da_cons (de_tup (da_cons (de_var 4) (da_cons (de_add (de_var 3) (de_tup (da_cons (de_tup da_nil) da_nil))) da_nil))) (da_cons (de_lst da_nil) da_nil)))))))))
    (dss_cons (ds_for (di_seq (de_lst (da_cons (de_tup (da_cons (de_cb b_len B.len (da_cons (de_ix (de_var 1) de_int) da_nil)) da_nil)) (da_cons (de_tup (da_cons (de_neg de_int) da_nil)) (da_cons (de_tup (da_cons de_bl (da_cons de_bl da_nil))) (da_cons (de_tup (da_cons de_non da_nil)) (da_cons (de_tup (da_cons de_str da_nil)) (da_cons (de_lst (da_cons de_int da_nil)) da_nil)))))))) (dg_name 11) (dss_one (ds_expr (de_append 10 (de_tup (da_cons (de_add (de_add (de_slice (de_var 3) do_none (do_some (de_var 6))) (de_tup (da_cons (de_var 11) da_nil))) (de_slice (de_var 3) (do_some (de_add (de_var 6) de_int)) do_none)) (da_cons (de_var 4) da_nil)))))))
    (dss_cons (ds_setE 12 (de_cb b_len B.len (da_cons (de_var 3) da_nil)))
    (dss_cons (ds_expr (de_append 10 (de_tup (da_cons (de_add (de_var 3) (de_tup (da_cons (de_tup da_nil) (da_cons (de_tup (da_cons (de_var 5) da_nil)) da_nil)))) (da_cons (de_ct t_tuple B.tuple (da_cons (de_cb b_sortD B.sorted (da_cons (de_add (de_var 4) (de_tup (da_cons (de_tup (da_cons (de_var 6) (da_cons (de_var 12) da_nil))) (da_cons (de_tup (da_cons (de_var 12) (da_cons (de_add (de_var 12) de_int) da_nil))) da_nil)))) da_nil)) da_nil)) da_nil)))))
    (dss_cons (ds_expr (de_append 10 (de_tup (da_cons (de_add (de_var 3) (de_mulT (de_tup (da_cons (de_tup da_nil) da_nil)) (de_sub de_int (de_var 12)))) (da_cons (de_ct t_tuple B.tuple (da_cons (de_cb b_sortD B.sorted (da_cons (de_add (de_var 4) (de_ct t_tuple B.tuple (da_cons (de_lc [(Str.ofString "k", 13)] (di_range2 (da_cons (de_var 12) (da_cons de_int da_nil)) B.range) (by decide +kernel) (dg_name 13) dtl_nil (de_tup (da_cons de_int (da_cons (de_var 13) da_nil)))) da_nil))) da_nil)) da_nil)) da_nil)))))
    (dss_cons (ds_if (dt_cmp c_gt (de_cb b_max B.max (da_cons (de_add (de_lc [(Str.ofString "names", 14), (Str.ofString "worths", 15)] (di_seq (de_ix (de_var 1) de_int)) (by decide +kernel) (dg_tup (dgs_cons (dg_name 14) (dgs_cons (dg_name 15) dgs_nil))) dtl_nil (de_cb b_len B.len (da_cons (de_var 14) da_nil))) (de_lst (da_cons de_int da_nil))) da_nil)) de_int) (dss_cons (ds_setE 16 (de_listRg (drg_1 (de_cb b_len B.len (da_cons (de_ix (de_var 1) de_int) da_nil)) B.range) B.list))
    (dss_one (ds_expr (de_append 10 (de_tup (da_cons (de_ct t_tuple B.tuple (da_cons (de_lc [(Str.ofString "name", 9)] (di_seq (de_var 16)) (by decide +kernel) (dg_name 9) dtl_nil (de_tup (da_cons (de_var 9) da_nil))) da_nil)) (da_cons (de_ct t_tuple B.tuple (da_cons (de_lc [(Str.ofString "k", 13)] (di_seq (de_var 16)) (by decide +kernel) (dg_name 13) (dtl_one (dt_cmp c_gt (de_var 13) de_int)) (de_tup (da_cons (de_sub (de_var 13) de_int) (da_cons (de_var 13) da_nil)))) da_nil)) da_nil))))))) dss_nil)
    (dss_cons (ds_if (dt_cmp c_ne (de_var 4) (de_tup da_nil)) (dss_cons (ds_asg (de_ix (de_var 4) de_int) (dg_tup (dgs_cons (dg_name 17) (dgs_cons (dg_name 18) dgs_nil))))
    (dss_cons (ds_set 10 (de_add (de_var 10) (de_lst (da_cons (de_tup (da_cons (de_var 3) (da_cons (de_slice (de_var 4) (do_some de_int) do_none) da_nil))) (da_cons (de_tup (da_cons (de_var 3) (da_cons (de_add (de_tup (da_cons (de_tup (da_cons (de_var 18) (da_cons (de_var 17) da_nil))) da_nil)) (de_slice (de_var 4) (do_some de_int) do_none)) da_nil))) (da_cons (de_tup (da_cons (de_var 3) (da_cons (de_add (de_var 4) (de_slice (de_var 4) do_none (do_some de_int))) da_nil))) da_nil))))))
    (dss_cons (ds_set 10 (de_add (de_var 10) (de_lst (da_cons (de_tup (da_cons (de_var 3) (da_cons (de_add (de_tup (da_cons (de_lst (da_cons (de_var 17) (da_cons (de_var 18) da_nil))) da_nil)) (de_slice (de_var 4) (do_some de_int) do_none)) da_nil))) (da_cons (de_tup (da_cons (de_var 3) (da_cons (de_add (de_tup (da_cons (de_tup (da_cons (de_lst (da_cons (de_var 17) da_nil)) (da_cons (de_var 18) da_nil))) da_nil)) (de_slice (de_var 4) (do_some de_int) do_none)) da_nil))) (da_cons (de_tup (da_cons (de_var 3) (da_cons (de_add (de_tup (da_cons (de_tup (da_cons (de_var 17) (da_cons (de_lst (da_cons (de_var 18) da_nil)) da_nil))) da_nil)) (de_slice (de_var 4) (do_some de_int) do_none)) da_nil))) da_nil))))))
    (dss_one (ds_set 10 (de_add (de_var 10) (de_lst (da_cons (de_tup (da_cons (de_var 3) (da_cons (de_add (de_tup (da_cons (de_tup (da_cons (de_var 17) (da_cons (de_var 18) (da_cons de_int da_nil)))) da_nil)) (de_slice (de_var 4) (do_some de_int) do_none)) da_nil))) (da_cons (de_tup (da_cons (de_var 3) (da_cons (de_add (de_tup (da_cons (de_tup (da_cons (de_var 17) (da_cons (de_cb b_len B.len (da_cons (de_var 3) da_nil)) da_nil))) da_nil)) (de_slice (de_var 4) (do_some de_int) do_none)) da_nil))) (da_cons (de_tup (da_cons (de_slice (de_var 3) (do_some de_int) do_none) (da_cons (de_var 4) da_nil))) da_nil)))))))))) dss_nil)
    (dss_one (ds_ret (de_var 10)))))))))))))))
abbrev N_Keeper_init : List Str := ["self", "word", "sheet", "tree", "i", "part"]
abbrev P_Keeper_init : List Str := ["self", "word", "sheet", "tree"]
theorem sc_Keeper_init : FnScope N_Keeper_init P_Keeper_init (defScope s_Keeper_init) := ⟨rfl, rfl, rfl, by decide +kernel, rfl, by decide +kernel, by decide +kernel⟩
theorem d_Keeper_init {G : GG} (B : Blt G) (h_bag_of : Def G 1 "bag_of" 2 sp_bag_of) (h_is_bag_tree : Def G 4 "is_bag_tree" 2 sp_is_bag_tree) (h_near_of : Def G 1 "near_of" 2 sp_near_of) (x_NoTree : XOk G "NoTree") (c_Keeper_bags : ClsF G "Keeper" "bags") (c_Keeper_changes : ClsF G "Keeper" "changes") (c_Keeper_known : ClsF G "Keeper" "known") (c_Keeper_laid : ClsF G "Keeper" "laid") (c_Keeper_many : ClsF G "Keeper" "many") (c_Keeper_near : ClsF G "Keeper" "near") (c_Keeper_parts : ClsF G "Keeper" "parts") (c_Keeper_sizes : ClsF G "Keeper" "sizes") (c_Keeper_word : ClsF G "Keeper" "word") (c_Keeper_worths : ClsF G "Keeper" "worths") : DSs G N_Keeper_init (fnS (defScope s_Keeper_init)) 4 (defBody s_Keeper_init) t_Keeper_init :=
    (dss_cons (ds_if (dt_not (dt_val (de_call h_is_bag_tree (da_cons (de_var 2) (da_cons (de_var 3) da_nil))))) (dss_one (ds_raise x_NoTree)) dss_nil)
    (dss_cons (ds_attr (c0 := "Keeper") (f := "word") (de_varR 0) (de_var 1) c_Keeper_word)
    (dss_cons (ds_attr (c0 := "Keeper") (f := "sizes") (de_varR 0) (de_ix (de_var 2) de_int) c_Keeper_sizes)
    (dss_cons (ds_attr (c0 := "Keeper") (f := "parts") (de_varR 0) (de_ct t_list B.list (da_cons (de_ix (de_var 2) de_int) da_nil)) c_Keeper_parts)
    (dss_cons (ds_attr (c0 := "Keeper") (f := "bags") (de_varR 0) (de_ix (de_var 3) de_int) c_Keeper_bags)
    (dss_cons (ds_attr (c0 := "Keeper") (f := "near") (de_varR 0) (de_lc [(Str.ofString "i", 4)] (di_range1 (da_cons (de_cb b_len B.len (da_cons (de_ix (de_var 3) de_int) da_nil)) da_nil) B.range) (by decide +kernel) (dg_name 4) dtl_nil (de_call h_near_of (da_cons (de_ix (de_var 3) de_int) (da_cons (de_var 4) da_nil)))) c_Keeper_near)
    (dss_cons (ds_attr (c0 := "Keeper") (f := "laid") (de_varR 0) (de_lc [(Str.ofString "part", 5)] (di_seq (de_ix (de_var 2) de_int)) (by decide +kernel) (dg_name 5) dtl_nil (de_call h_bag_of (da_cons (de_var 3) (da_cons (de_ix (de_var 5) de_int) da_nil)))) c_Keeper_laid)
    (dss_cons (ds_attr (c0 := "Keeper") (f := "worths") (de_varR 0) de_dnew c_Keeper_worths)
    (dss_cons (ds_attr (c0 := "Keeper") (f := "known") (de_varR 0) de_dnewT c_Keeper_known)
    (dss_cons (ds_attr (c0 := "Keeper") (f := "many") (de_varR 0) de_int c_Keeper_many)
    (dss_one (ds_attr (c0 := "Keeper") (f := "changes") (de_varR 0) (de_lst da_nil) c_Keeper_changes))))))))))))
abbrev N_law_gparts : List Str := ["tape", "word", "sizes", "most", "found", "k", "names", "j"]
abbrev P_law_gparts : List Str := ["tape", "word", "sizes", "most"]
theorem sc_law_gparts : FnScope N_law_gparts P_law_gparts (defScope s_law_gparts) := ⟨rfl, rfl, rfl, by decide +kernel, rfl, by decide +kernel, by decide +kernel⟩
theorem d_law_gparts {G : GG} (B : Blt G) (h_law_gdraw : Def G 3 "_law_gdraw" 2 sp_law_gdraw) (h_law_gfillings : Def G 1 "_law_gfillings" 2 sp_law_gfillings) (h_law_gworths : Def G 4 "_law_gworths" 3 sp_law_gworths) : DSs G N_law_gparts (fnS (defScope s_law_gparts)) 4 (defBody s_law_gparts) t_law_gparts :=
    (dss_cons (ds_set 4 (de_lst da_nil))
    (dss_cons (ds_for (di_range1 (da_cons (de_callJ 0 h_law_gdraw (da_cons (de_add (de_var 3) de_int) da_nil)) da_nil) B.range) (dg_name 5) (dss_cons (ds_setE 6 (de_ct t_tuple B.tuple (da_cons (de_sortsetL (de_lc [(Str.ofString "j", 7)] (di_range1 (da_cons (de_callJ 0 h_law_gdraw (da_cons de_int da_nil)) da_nil) B.range) (by decide +kernel) (dg_name 7) dtl_nil (de_callJ 0 h_law_gdraw (da_cons (de_cb b_len B.len (da_cons (de_var 2) da_nil)) da_nil))) B.sorted B.set) da_nil)))
    (dss_one (ds_expr (de_append 4 (de_tup (da_cons (de_var 6) (da_cons (de_callJ 0 h_law_gworths (da_cons (de_var 1) (da_cons (de_cb b_len B.len (da_cons (de_call h_law_gfillings (da_cons (de_var 2) (da_cons (de_var 6) da_nil))) da_nil)) da_nil))) da_nil))))))))
    (dss_one (ds_ret (de_ct t_tuple B.tuple (da_cons (de_var 4) da_nil))))))
abbrev N_law_gtree : List Str := ["tape", "sheet", "order", "bags", "ties", "k", "later", "j", "turn", "at", "name", "i", "turned", "found"]
abbrev P_law_gtree : List Str := ["tape", "sheet"]
theorem sc_law_gtree : FnScope N_law_gtree P_law_gtree (defScope s_law_gtree) := ⟨rfl, rfl, rfl, by decide +kernel, rfl, by decide +kernel, by decide +kernel⟩
theorem d_law_gtree {G : GG} (B : Blt G) (h_law_gbags : Def G 1 "_law_gbags" 2 sp_law_gbags) (h_law_gdraw : Def G 3 "_law_gdraw" 2 sp_law_gdraw) (h_law_gone_bag : Def G 1 "_law_gone_bag" 3 sp_law_gone_bag) (h_law_gorder : Def G 4 "_law_gorder" 2 sp_law_gorder) : DSs G N_law_gtree (fnS (defScope s_law_gtree)) 4 (defBody s_law_gtree) t_law_gtree :=
    (dss_cons (ds_setE 2 (de_callJ 0 h_law_gorder (da_cons (de_cb b_len B.len (da_cons (de_ix (de_var 1) de_int) da_nil)) da_nil)))
    (dss_cons (ds_set 3 (de_call h_law_gbags (da_cons (de_var 1) (da_cons (de_var 2) da_nil))))
    (dss_cons (ds_set 4 (de_lst da_nil))
    (dss_cons (ds_for (di_range1 (da_cons (de_sub (de_cb b_len B.len (da_cons (de_var 2) da_nil)) de_int) da_nil) B.range) (dg_name 5) (dss_cons (ds_setLcE [(Str.ofString "j", 7)] 6 (di_range2 (da_cons (de_add (de_var 5) de_int) (da_cons (de_cb b_len B.len (da_cons (de_var 2) da_nil)) da_nil)) B.range) (by decide +kernel) (dg_name 7) (dtl_one (dt_cmp c_in (de_ix (de_var 2) (de_var 7)) (de_ix (de_var 3) (de_var 5)))) (de_var 7))
    (dss_one (ds_expr (de_append 4 (de_tup (da_cons (de_var 5) (da_cons (de_ix (de_add (de_var 6) (de_lst (da_cons (de_add (de_var 5) de_int) da_nil))) de_int) da_nil))))))))
    (dss_cons (ds_for (di_range1 (da_cons (de_callJ 0 h_law_gdraw (da_cons de_int da_nil)) da_nil) B.range) (dg_name 8) (dss_cons (ds_setE 9 (de_callJ 0 h_law_gdraw (da_cons (de_cb b_len B.len (da_cons (de_var 3) da_nil)) da_nil)))
    (dss_cons (ds_expr (de_append 4 (de_tup (da_cons (de_var 9) (da_cons (de_cb b_len B.len (da_cons (de_var 3) da_nil)) da_nil)))))
    (dss_one (ds_expr (de_append 3 (de_ct t_tuple B.tuple (da_cons (de_lc [(Str.ofString "name", 10)] (di_seq (de_ix (de_var 3) (de_var 9))) (by decide +kernel) (dg_name 10) (dtl_one (dt_cmp c_eq (de_callJ 0 h_law_gdraw (da_cons de_int da_nil)) de_int)) (de_var 10)) da_nil))))))))
    (dss_cons (ds_if (DWe.te (dw_and (dt_cmp c_ne (de_var 4) (de_lst da_nil)) (dw_and1 (dt_cmp c_eq (de_callJ 0 h_law_gdraw (da_cons de_int da_nil)) de_int)))) (dss_cons (ds_asg (de_ix (de_var 4) (de_callJ 0 h_law_gdraw (da_cons (de_cb b_len B.len (da_cons (de_var 4) da_nil)) da_nil))) (dg_tup (dgs_cons (dg_name 11) (dgs_cons (dg_name 7) dgs_nil))))
    (dss_one (ds_setitem 3 (de_var 11) (de_ct t_tuple B.tuple (da_cons (de_sortset (de_add (de_ix (de_var 3) (de_var 11)) (de_slice (de_ix (de_var 3) (de_var 7)) do_none (do_some de_int))) B.sorted B.set) da_nil))))) dss_nil)
    (dss_cons (ds_fz 3 (ds_fz 4 (ds_for (di_range1 (da_cons (de_callJ 0 h_law_gdraw (da_cons de_int da_nil)) da_nil) B.range) (dg_name 8) (dss_one (ds_if (dt_cmp c_ne (de_var 4) (de_lst da_nil)) (dss_one (ds_asg (de_call h_law_gone_bag (da_cons (de_var 3) (da_cons (de_var 4) (da_cons (de_callJ 0 h_law_gdraw (da_cons (de_cb b_len B.len (da_cons (de_var 4) da_nil)) da_nil)) da_nil)))) (dg_tup (dgs_cons (dg_name 3) (dgs_cons (dg_name 4) dgs_nil))))) dss_nil)))))
    (dss_cons (ds_if (dt_cmp c_eq (de_callJ 0 h_law_gdraw (da_cons de_int da_nil)) de_int) (dss_one (ds_asgS (de_tup (da_cons (de_lst (da_cons (de_tupRg (drg_1 (de_cb b_len B.len (da_cons (de_ix (de_var 1) de_int) da_nil)) B.range) B.tuple) da_nil)) (da_cons (de_lst da_nil) da_nil))) (dg_tup (dgs_cons (dg_name 3) (dgs_cons (dg_name 4) dgs_nil))))) dss_nil)
    (dss_cons (ds_setE 12 (de_callJ 0 h_law_gorder (da_cons (de_cb b_len B.len (da_cons (de_var 3) da_nil)) da_nil)))
    (dss_cons (ds_setE 13 (de_ct t_tuple B.tuple (da_cons (de_lc [(Str.ofString "k", 5)] (di_range1 (da_cons (de_cb b_len B.len (da_cons (de_var 3) da_nil)) da_nil) B.range) (by decide +kernel) (dg_name 5) dtl_nil (de_ix (de_var 3) (de_index (de_var 12) (de_var 5)))) da_nil)))
    (dss_one (ds_ret (de_tup (da_cons (de_var 13) (da_cons (de_ct t_tuple B.tuple (da_cons (de_cb b_sortD B.sorted (da_cons (de_lc [(Str.ofString "i", 11), (Str.ofString "j", 7)] (di_seq (de_var 4)) (by decide +kernel) (dg_tup (dgs_cons (dg_name 11) (dgs_cons (dg_name 7) dgs_nil))) dtl_nil (de_ct t_tuple B.tuple (da_cons (de_cb b_sortT B.sorted (da_cons (de_tup (da_cons (de_ix (de_var 12) (de_var 11)) (da_cons (de_ix (de_var 12) (de_var 7)) da_nil))) da_nil)) da_nil))) da_nil)) da_nil)) da_nil)))))))))))))))
abbrev N_law_gsheet : List Str := ["tape", "word", "names", "most", "parts", "sizes", "room", "x", "size"]
abbrev P_law_gsheet : List Str := ["tape", "word", "names", "most", "parts"]
theorem sc_law_gsheet : FnScope N_law_gsheet P_law_gsheet (defScope s_law_gsheet) := ⟨rfl, rfl, rfl, by decide +kernel, rfl, by decide +kernel, by decide +kernel⟩
theorem d_law_gsheet {G : GG} (B : Blt G) (h_law_gdraw : Def G 3 "_law_gdraw" 2 sp_law_gdraw) (h_law_gparts : Def G 5 "_law_gparts" 4 sp_law_gparts) : DSs G N_law_gsheet (fnS (defScope s_law_gsheet)) 5 (defBody s_law_gsheet) t_law_gsheet :=
    (dss_cons (ds_set 5 (de_lst da_nil))
    (dss_cons (ds_setE 6 de_int)
    (dss_cons (ds_for (di_range1 (da_cons (de_add de_int (de_callJ 0 h_law_gdraw (da_cons (de_var 2) da_nil))) da_nil) B.range) (dg_name 7) (dss_cons (ds_setE 8 (de_ix (de_lst (da_cons de_int (da_cons de_int (da_cons de_int (da_cons de_int (da_cons de_int (da_cons de_int da_nil))))))) (de_callJ 0 h_law_gdraw (da_cons de_int da_nil))))
    (dss_cons (ds_expr (de_append 5 (de_if (dt_cmp c_le (de_mul (de_var 6) (de_var 8)) (de_var 3)) (de_var 8) de_int)))
    (dss_one (ds_setE 6 (de_mul (de_var 6) (de_ix (de_var 5) (de_neg de_int))))))))
    (dss_one (ds_fz 5 (ds_ret (de_tup (da_cons (de_ct t_tuple B.tuple (da_cons (de_var 5) da_nil)) (da_cons (de_callJ 0 h_law_gparts (da_cons (de_var 1) (da_cons (de_var 5) (da_cons (de_var 4) da_nil)))) da_nil)))))))))
abbrev N_law_gmade : List Str := ["word", "sheet", "tree", "caught", "e"]
abbrev P_law_gmade : List Str := ["word", "sheet", "tree"]
theorem sc_law_gmade : FnScope N_law_gmade P_law_gmade (defScope s_law_gmade) := ⟨rfl, rfl, rfl, by decide +kernel, rfl, by decide +kernel, by decide +kernel⟩
theorem d_law_gmade {G : GG} (B : Blt G) (h_Keeper_init : KDef G 5 "Keeper" 4 sp_Keeper_init) (h_law_gkind : Def G 1 "_law_gkind" 1 (sp_law_gkind cs75)) (hXC : XCat G "SumError" cs75) : DSs G N_law_gmade (fnS (defScope s_law_gmade)) 6 (defBody s_law_gmade) t_law_gmade :=
    (dss_cons (ds_setE 3 de_non)
    (dss_cons (ds_tryKeep 4 3 hXC (dss_one (ds_expr (de_make (c := "Keeper") [0, 0, 0] h_Keeper_init (da_cons (de_var 0) (da_cons (de_var 1) (da_cons (de_var 2) da_nil)))))))
    (dss_one (ds_ret (de_if (dt_cmp c_is (de_var 3) de_non) de_str (de_call h_law_gkind (da_cons (de_var 3) da_nil)))))))
abbrev N_law : List Str := ["script", "tape", "turn", "word", "sheet", "tree", "one", "seen"]
abbrev P_law : List Str := ["script"]
theorem sc_law : FnScope N_law P_law (defScope s_law) := ⟨rfl, rfl, rfl, by decide +kernel, rfl, by decide +kernel, by decide +kernel⟩
theorem d_law {G : GG} (B : Blt G) (h_law_gmade : Def G 7 "_law_gmade" 3 sp_law_gmade) (h_law_gno_trees : Def G 4 "_law_gno_trees" 3 sp_law_gno_trees) (h_law_gsheet : Def G 6 "_law_gsheet" 5 sp_law_gsheet) (h_law_gtree : Def G 5 "_law_gtree" 2 sp_law_gtree) (h_law_gword : Def G 4 "_law_gword" 1 sp_law_gword) : DSs G N_law (fnS (defScope s_law)) 7 (defBody s_law) t_law :=
    (dss_cons (ds_set 1 (de_lst (da_cons (de_ct t_list B.list (da_cons (de_slice (de_var 0) do_none (do_some de_int)) da_nil)) (da_cons de_int (da_cons de_int da_nil)))))
    (dss_cons (ds_for (di_range1 (da_cons de_int da_nil) B.range) (dg_name 2) (dss_cons (ds_setE 3 (de_callJ 1 h_law_gword da_nil))
    (dss_cons (ds_setE 4 (de_callJ 1 h_law_gsheet (da_cons (de_var 3) (da_cons de_int (da_cons de_int (da_cons de_int da_nil))))))
    (dss_cons (ds_setE 5 (de_callJ 1 h_law_gtree (da_cons (de_var 4) da_nil)))
    (dss_cons (ds_if (dt_cmp c_ne (de_call h_law_gmade (da_cons (de_var 3) (da_cons (de_var 4) (da_cons (de_var 5) da_nil)))) de_str) (dss_one (ds_ret de_bl)) dss_nil)
    (dss_one (ds_for (di_seq (de_callJ 1 h_law_gno_trees (da_cons (de_var 4) (da_cons (de_var 5) da_nil)))) (dg_name 6) (dss_cons (ds_setE 7 (de_repr B.repr (da_cons (de_lst (da_cons (de_var 4) (da_cons (de_var 6) da_nil))) da_nil)))
    (dss_one (ds_if (DWe.te (dw_or (dt_cmp c_ne (de_call h_law_gmade (da_cons (de_var 3) (da_cons (de_var 4) (da_cons (de_var 6) da_nil)))) de_str) (dw_or1 (dt_cmp c_ne (de_repr B.repr (da_cons (de_lst (da_cons (de_var 4) (da_cons (de_var 6) da_nil))) da_nil)) (de_var 7))))) (dss_one (ds_ret de_bl)) dss_nil))))))))))
    (dss_one (ds_ret de_bl))))
theorem facts {w : World} {K : PySem.W.Frag} {h : Heap} {mg : Str → Option Value} {f : Addr} (X : K.In h) (N : h.Ns mainGlobals mg) (hf : mg ("law" : Str) = some (.ref f)) (c : He.SaysD fa fn K) (cx : ex K = true) :
    ∃ fd : FuncData, (∀ (s : Shared) (v : Value), BindsTo s fd ⟨[v], []⟩ [("script", v)]) ∧ ∀ base : Heap, K.In base → base.Ns mainGlobals mg → FnG PySem.Challenge.pw_sumorder_k75_trees_refused w K mg base (L2.CX PySem.Challenge.pw_sumorder_k75_trees_refused w) 8 f fd ["script"] (toSp K 1 (lawSpec 63)) := by
  obtain ⟨f_is_whole, F_is_whole⟩ := c.def_ 0 (d := y_is_whole) rfl
  have g_is_whole := He.glo_ok X N (c.fact 0 (f := .glo "is_whole") rfl)
  obtain ⟨f_near_of, F_near_of⟩ := c.def_ 1 (d := y_near_of) rfl
  have g_near_of := He.glo_ok X N (c.fact 1 (f := .glo "near_of") rfl)
  obtain ⟨f_bag_of, F_bag_of⟩ := c.def_ 2 (d := y_bag_of) rfl
  have g_bag_of := He.glo_ok X N (c.fact 2 (f := .glo "bag_of") rfl)
  obtain ⟨f_law_gprime, F_law_gprime⟩ := c.def_ 3 (d := y_law_gprime) rfl
  have g_law_gprime := He.glo_ok X N (c.fact 3 (f := .glo "_law_gprime") rfl)
  obtain ⟨f_law_gfillings, F_law_gfillings⟩ := c.def_ 4 (d := y_law_gfillings) rfl
  have g_law_gfillings := He.glo_ok X N (c.fact 4 (f := .glo "_law_gfillings") rfl)
  obtain ⟨f_law_gbags, F_law_gbags⟩ := c.def_ 5 (d := y_law_gbags) rfl
  have g_law_gbags := He.glo_ok X N (c.fact 5 (f := .glo "_law_gbags") rfl)
  obtain ⟨f_law_gone_bag, F_law_gone_bag⟩ := c.def_ 6 (d := y_law_gone_bag) rfl
  have g_law_gone_bag := He.glo_ok X N (c.fact 6 (f := .glo "_law_gone_bag") rfl)
  obtain ⟨f_law_gkind, F_law_gkind⟩ := c.def_ 7 (d := y_law_gkind) rfl
  have g_law_gkind := He.glo_ok X N (c.fact 7 (f := .glo "_law_gkind") rfl)
  obtain ⟨f_are_names, F_are_names⟩ := c.def_ 8 (d := y_are_names) rfl
  have g_are_names := He.glo_ok X N (c.fact 8 (f := .glo "are_names") rfl)
  obtain ⟨f_is_tie, F_is_tie⟩ := c.def_ 9 (d := y_is_tie) rfl
  have g_is_tie := He.glo_ok X N (c.fact 9 (f := .glo "is_tie") rfl)
  obtain ⟨f_hanging, F_hanging⟩ := c.def_ 10 (d := y_hanging) rfl
  have g_hanging := He.glo_ok X N (c.fact 10 (f := .glo "hanging") rfl)
  obtain ⟨f_law_gfresh, F_law_gfresh⟩ := c.def_ 11 (d := y_law_gfresh) rfl
  have g_law_gfresh := He.glo_ok X N (c.fact 11 (f := .glo "_law_gfresh") rfl)
  obtain ⟨f_are_bags, F_are_bags⟩ := c.def_ 12 (d := y_are_bags) rfl
  have g_are_bags := He.glo_ok X N (c.fact 12 (f := .glo "are_bags") rfl)
  obtain ⟨f_is_tree, F_is_tree⟩ := c.def_ 13 (d := y_is_tree) rfl
  have g_is_tree := He.glo_ok X N (c.fact 13 (f := .glo "is_tree") rfl)
  obtain ⟨f_law_gdraw, F_law_gdraw⟩ := c.def_ 14 (d := y_law_gdraw) rfl
  have g_law_gdraw := He.glo_ok X N (c.fact 14 (f := .glo "_law_gdraw") rfl)
  obtain ⟨f_is_bag_tree, F_is_bag_tree⟩ := c.def_ 15 (d := y_is_bag_tree) rfl
  have g_is_bag_tree := He.glo_ok X N (c.fact 15 (f := .glo "is_bag_tree") rfl)
  obtain ⟨f_law_gword, F_law_gword⟩ := c.def_ 16 (d := y_law_gword) rfl
  have g_law_gword := He.glo_ok X N (c.fact 16 (f := .glo "_law_gword") rfl)
  obtain ⟨f_law_gworths, F_law_gworths⟩ := c.def_ 17 (d := y_law_gworths) rfl
  have g_law_gworths := He.glo_ok X N (c.fact 17 (f := .glo "_law_gworths") rfl)
  obtain ⟨f_law_gorder, F_law_gorder⟩ := c.def_ 18 (d := y_law_gorder) rfl
  have g_law_gorder := He.glo_ok X N (c.fact 18 (f := .glo "_law_gorder") rfl)
  obtain ⟨f_law_gno_trees, F_law_gno_trees⟩ := c.def_ 19 (d := y_law_gno_trees) rfl
  have g_law_gno_trees := He.glo_ok X N (c.fact 19 (f := .glo "_law_gno_trees") rfl)
  obtain ⟨f_Keeper_init, F_Keeper_init⟩ := c.def_ 20 (d := y_Keeper_init) rfl
  have M_Keeper_init : Mk K (He.ga K "Keeper") (He.fAd K ("Keeper", some "__init__")) := He.mkr_ok (c.fact 20 (f := .mkr "Keeper") rfl)
  obtain ⟨f_law_gparts, F_law_gparts⟩ := c.def_ 21 (d := y_law_gparts) rfl
  have g_law_gparts := He.glo_ok X N (c.fact 21 (f := .glo "_law_gparts") rfl)
  obtain ⟨f_law_gtree, F_law_gtree⟩ := c.def_ 22 (d := y_law_gtree) rfl
  have g_law_gtree := He.glo_ok X N (c.fact 22 (f := .glo "_law_gtree") rfl)
  obtain ⟨f_law_gsheet, F_law_gsheet⟩ := c.def_ 23 (d := y_law_gsheet) rfl
  have g_law_gsheet := He.glo_ok X N (c.fact 23 (f := .glo "_law_gsheet") rfl)
  obtain ⟨f_law_gmade, F_law_gmade⟩ := c.def_ 24 (d := y_law_gmade) rfl
  have g_law_gmade := He.glo_ok X N (c.fact 24 (f := .glo "_law_gmade") rfl)
  obtain ⟨f_law, F_law⟩ := c.def_ 25 (d := y_law) rfl
  have e := hf.symm.trans (He.glo_ok X N (c.fact 25 (f := .glo "law") rfl))
  cases e
  have b := FunD.bindsA (ps := ["script"]) F_law fun _ _ _ _ _ _ us hl => match us, hl with | [_], _ => rfl
  refine ⟨f_law, fun s v => b s [v] rfl, fun base _ _ => ?_⟩
  let G : GG := ⟨PySem.Challenge.pw_sumorder_k75_trees_refused, w, K, mg, base⟩
  have B : Blt G := ⟨He.free_ok X N (c.fact 26 (f := .free "len") rfl), He.free_ok X N (c.fact 27 (f := .free "range") rfl), He.free_ok X N (c.fact 28 (f := .free "sorted") rfl), He.free_ok X N (c.fact 29 (f := .free "set") rfl), He.free_ok X N (c.fact 30 (f := .free "tuple") rfl), He.free_ok X N (c.fact 31 (f := .free "list") rfl), He.free_ok X N (c.fact 32 (f := .free "dict") rfl), He.free_ok X N (c.fact 33 (f := .free "zip") rfl), He.free_ok X N (c.fact 34 (f := .free "enumerate") rfl), He.free_ok X N (c.fact 35 (f := .free "all") rfl), He.free_ok X N (c.fact 36 (f := .free "any") rfl), He.free_ok X N (c.fact 37 (f := .free "sum") rfl), He.free_ok X N (c.fact 38 (f := .free "min") rfl), He.free_ok X N (c.fact 39 (f := .free "max") rfl), He.free_ok X N (c.fact 40 (f := .free "isinstance") rfl), He.free_ok X N (c.fact 41 (f := .free "str") rfl), He.free_ok X N (c.fact 42 (f := .free "int") rfl), He.free_ok X N (c.fact 43 (f := .free "repr") rfl), He.free_ok X N (c.fact 44 (f := .free "bool") rfl)⟩
  have C_Keeper : Cls K (He.ga K "Keeper") := He.cls_ok (c.fact 46 (f := .cls "Keeper") rfl)
  have k_Keeper := He.glo_ok X N (c.fact 45 (f := .glo "Keeper") rfl)
  have c_Keeper_bags : ClsF G "Keeper" "bags" := ⟨C_Keeper, He.noat_ok (c.fact 47 (f := .noat "Keeper" "bags") rfl)⟩
  have c_Keeper_changes : ClsF G "Keeper" "changes" := ⟨C_Keeper, He.noat_ok (c.fact 48 (f := .noat "Keeper" "changes") rfl)⟩
  have c_Keeper_known : ClsF G "Keeper" "known" := ⟨C_Keeper, He.noat_ok (c.fact 49 (f := .noat "Keeper" "known") rfl)⟩
  have c_Keeper_laid : ClsF G "Keeper" "laid" := ⟨C_Keeper, He.noat_ok (c.fact 50 (f := .noat "Keeper" "laid") rfl)⟩
  have c_Keeper_many : ClsF G "Keeper" "many" := ⟨C_Keeper, He.noat_ok (c.fact 51 (f := .noat "Keeper" "many") rfl)⟩
  have c_Keeper_near : ClsF G "Keeper" "near" := ⟨C_Keeper, He.noat_ok (c.fact 52 (f := .noat "Keeper" "near") rfl)⟩
  have c_Keeper_parts : ClsF G "Keeper" "parts" := ⟨C_Keeper, He.noat_ok (c.fact 53 (f := .noat "Keeper" "parts") rfl)⟩
  have c_Keeper_sizes : ClsF G "Keeper" "sizes" := ⟨C_Keeper, He.noat_ok (c.fact 54 (f := .noat "Keeper" "sizes") rfl)⟩
  have c_Keeper_word : ClsF G "Keeper" "word" := ⟨C_Keeper, He.noat_ok (c.fact 55 (f := .noat "Keeper" "word") rfl)⟩
  have c_Keeper_worths : ClsF G "Keeper" "worths" := ⟨C_Keeper, He.noat_ok (c.fact 56 (f := .noat "Keeper" "worths") rfl)⟩
  have x_NoTree : XOk G "NoTree" := ⟨He.glo_ok X N (c.fact 57 (f := .glo "NoTree") rfl), c.fact 58 (f := .exc "NoTree") rfl⟩
  have g_NoBack : G.mg "NoBack" = some (clsV G.K "NoBack") := He.glo_ok X N (c.fact 59 (f := .glo "NoBack") rfl)
  have g_NoBag : G.mg "NoBag" = some (clsV G.K "NoBag") := He.glo_ok X N (c.fact 60 (f := .glo "NoBag") rfl)
  have g_NoDeeds : G.mg "NoDeeds" = some (clsV G.K "NoDeeds") := He.glo_ok X N (c.fact 61 (f := .glo "NoDeeds") rfl)
  have g_NoFilling : G.mg "NoFilling" = some (clsV G.K "NoFilling") := He.glo_ok X N (c.fact 62 (f := .glo "NoFilling") rfl)
  have g_NoName : G.mg "NoName" = some (clsV G.K "NoName") := He.glo_ok X N (c.fact 63 (f := .glo "NoName") rfl)
  have g_NoNumber : G.mg "NoNumber" = some (clsV G.K "NoNumber") := He.glo_ok X N (c.fact 64 (f := .glo "NoNumber") rfl)
  have g_NoOffers : G.mg "NoOffers" = some (clsV G.K "NoOffers") := He.glo_ok X N (c.fact 65 (f := .glo "NoOffers") rfl)
  have g_NoPart : G.mg "NoPart" = some (clsV G.K "NoPart") := He.glo_ok X N (c.fact 66 (f := .glo "NoPart") rfl)
  have g_NoRow : G.mg "NoRow" = some (clsV G.K "NoRow") := He.glo_ok X N (c.fact 67 (f := .glo "NoRow") rfl)
  have g_NoText : G.mg "NoText" = some (clsV G.K "NoText") := He.glo_ok X N (c.fact 68 (f := .glo "NoText") rfl)
  have g_NoTree : G.mg "NoTree" = some (clsV G.K "NoTree") := He.glo_ok X N (c.fact 69 (f := .glo "NoTree") rfl)
  have g_NoWeights : G.mg "NoWeights" = some (clsV G.K "NoWeights") := He.glo_ok X N (c.fact 70 (f := .glo "NoWeights") rfl)
  have g_NoWorths : G.mg "NoWorths" = some (clsV G.K "NoWorths") := He.glo_ok X N (c.fact 71 (f := .glo "NoWorths") rfl)
  have g_SumError : G.mg "SumError" = some (clsV G.K "SumError") := He.glo_ok X N (c.fact 72 (f := .glo "SumError") rfl)
  have g_TooMany : G.mg "TooMany" = some (clsV G.K "TooMany") := He.glo_ok X N (c.fact 73 (f := .glo "TooMany") rfl)
  have b_ValueError : G.mg "ValueError" = none := He.free_ok X N (c.fact 74 (f := .free "ValueError") rfl)
  have k_MOST_BAGS := He.int_ok X N (c.fact 75 (f := .int "MOST_BAGS" 12) rfl)
  have hXI : XIs G.K (xtab cs75) := xis_of cx
  have hXC : XCat G "SumError" cs75 := xcat_of cx g_SumError
  have h_is_whole : Def G 1 "is_whole" 1 sp_is_whole := Def.of (st := s_is_whole) (m := 0) F_is_whole g_is_whole sc_is_whole (d_is_whole B ) m_is_whole rfl rfl (fun ds Q X h => by repeat (first | (refine Or.elim h (fun h => ?_) (fun h => ?_)) | (obtain ⟨rfl, _⟩ := h; rfl) | (obtain ⟨rfl | rfl, _⟩ := h <;> rfl) | (obtain ⟨⟨_, _, rfl, _⟩, _⟩ := h; rfl) | (obtain ⟨_, h⟩ := h))) (FunD.bindsN (ps := P_is_whole) F_is_whole fun _ _ _ _ _ _ us hl => match us, hl with | [_], _ => rfl)
  have h_near_of : Def G 1 "near_of" 2 sp_near_of := Def.of (st := s_near_of) (m := 2) F_near_of g_near_of sc_near_of (d_near_of B ) m_near_of rfl rfl (fun ds Q X h => by repeat (first | (refine Or.elim h (fun h => ?_) (fun h => ?_)) | (obtain ⟨rfl, _⟩ := h; rfl) | (obtain ⟨rfl | rfl, _⟩ := h <;> rfl) | (obtain ⟨⟨_, _, rfl, _⟩, _⟩ := h; rfl) | (obtain ⟨_, h⟩ := h))) (FunD.bindsN (ps := P_near_of) F_near_of fun _ _ _ _ _ _ us hl => match us, hl with | [_, _], _ => rfl)
  have h_bag_of : Def G 1 "bag_of" 2 sp_bag_of := Def.of (st := s_bag_of) (m := 2) F_bag_of g_bag_of sc_bag_of (d_bag_of B ) m_bag_of rfl rfl (fun ds Q X h => by repeat (first | (refine Or.elim h (fun h => ?_) (fun h => ?_)) | (obtain ⟨rfl, _⟩ := h; rfl) | (obtain ⟨rfl | rfl, _⟩ := h <;> rfl) | (obtain ⟨⟨_, _, rfl, _⟩, _⟩ := h; rfl) | (obtain ⟨_, h⟩ := h))) (FunD.bindsN (ps := P_bag_of) F_bag_of fun _ _ _ _ _ _ us hl => match us, hl with | [_, _], _ => rfl)
  have h_law_gprime : Def G 1 "_law_gprime" 1 sp_law_gprime := Def.of (st := s_law_gprime) (m := 1) F_law_gprime g_law_gprime sc_law_gprime (d_law_gprime B ) m_law_gprime rfl rfl (fun ds Q X h => by repeat (first | (refine Or.elim h (fun h => ?_) (fun h => ?_)) | (obtain ⟨rfl, _⟩ := h; rfl) | (obtain ⟨rfl | rfl, _⟩ := h <;> rfl) | (obtain ⟨⟨_, _, rfl, _⟩, _⟩ := h; rfl) | (obtain ⟨_, h⟩ := h))) (FunD.bindsN (ps := P_law_gprime) F_law_gprime fun _ _ _ _ _ _ us hl => match us, hl with | [_], _ => rfl)
  have h_law_gfillings : Def G 1 "_law_gfillings" 2 sp_law_gfillings := Def.of (st := s_law_gfillings) (m := 5) F_law_gfillings g_law_gfillings sc_law_gfillings (d_law_gfillings B ) m_law_gfillings rfl rfl (fun ds Q X h => by repeat (first | (refine Or.elim h (fun h => ?_) (fun h => ?_)) | (obtain ⟨rfl, _⟩ := h; rfl) | (obtain ⟨rfl | rfl, _⟩ := h <;> rfl) | (obtain ⟨⟨_, _, rfl, _⟩, _⟩ := h; rfl) | (obtain ⟨_, h⟩ := h))) (FunD.bindsN (ps := P_law_gfillings) F_law_gfillings fun _ _ _ _ _ _ us hl => match us, hl with | [_, _], _ => rfl)
  have h_law_gbags : Def G 1 "_law_gbags" 2 sp_law_gbags := Def.of (st := s_law_gbags) (m := 8) F_law_gbags g_law_gbags sc_law_gbags (d_law_gbags B ) m_law_gbags rfl rfl (fun ds Q X h => by repeat (first | (refine Or.elim h (fun h => ?_) (fun h => ?_)) | (obtain ⟨rfl, _⟩ := h; rfl) | (obtain ⟨rfl | rfl, _⟩ := h <;> rfl) | (obtain ⟨⟨_, _, rfl, _⟩, _⟩ := h; rfl) | (obtain ⟨_, h⟩ := h))) (FunD.bindsN (ps := P_law_gbags) F_law_gbags fun _ _ _ _ _ _ us hl => match us, hl with | [_, _], _ => rfl)
  have h_law_gone_bag : Def G 1 "_law_gone_bag" 3 sp_law_gone_bag := Def.of (st := s_law_gone_bag) (m := 8) F_law_gone_bag g_law_gone_bag sc_law_gone_bag (d_law_gone_bag B ) m_law_gone_bag rfl rfl (fun ds Q X h => by repeat (first | (refine Or.elim h (fun h => ?_) (fun h => ?_)) | (obtain ⟨rfl, _⟩ := h; rfl) | (obtain ⟨rfl | rfl, _⟩ := h <;> rfl) | (obtain ⟨⟨_, _, rfl, _⟩, _⟩ := h; rfl) | (obtain ⟨_, h⟩ := h))) (FunD.bindsN (ps := P_law_gone_bag) F_law_gone_bag fun _ _ _ _ _ _ us hl => match us, hl with | [_, _, _], _ => rfl)
  have h_law_gkind : Def G 1 "_law_gkind" 1 (sp_law_gkind cs75) := Def.of (st := s_law_gkind) (m := 2) F_law_gkind g_law_gkind sc_law_gkind (d_law_gkind B g_NoBack g_NoBag g_NoDeeds g_NoFilling g_NoName g_NoNumber g_NoOffers g_NoPart g_NoRow g_NoText g_NoTree g_NoWeights g_NoWorths g_TooMany b_ValueError hXI) (m_law_gkind cs75) rfl rfl (fun ds Q X h => by repeat (first | (refine Or.elim h (fun h => ?_) (fun h => ?_)) | (obtain ⟨rfl, _⟩ := h; rfl) | (obtain ⟨rfl | rfl, _⟩ := h <;> rfl) | (obtain ⟨⟨_, _, rfl, _⟩, _⟩ := h; rfl) | (obtain ⟨_, h⟩ := h))) (FunD.bindsN (ps := P_law_gkind) F_law_gkind fun _ _ _ _ _ _ us hl => match us, hl with | [_], _ => rfl)
  have h_are_names : Def G 2 "are_names" 2 sp_are_names := Def.of (st := s_are_names) (m := 2) F_are_names g_are_names sc_are_names (d_are_names B h_is_whole) m_are_names rfl rfl (fun ds Q X h => by repeat (first | (refine Or.elim h (fun h => ?_) (fun h => ?_)) | (obtain ⟨rfl, _⟩ := h; rfl) | (obtain ⟨rfl | rfl, _⟩ := h <;> rfl) | (obtain ⟨⟨_, _, rfl, _⟩, _⟩ := h; rfl) | (obtain ⟨_, h⟩ := h))) (FunD.bindsN (ps := P_are_names) F_are_names fun _ _ _ _ _ _ us hl => match us, hl with | [_, _], _ => rfl)
  have h_is_tie : Def G 2 "is_tie" 2 sp_is_tie := Def.of (st := s_is_tie) (m := 0) F_is_tie g_is_tie sc_is_tie (d_is_tie B h_is_whole) m_is_tie rfl rfl (fun ds Q X h => by repeat (first | (refine Or.elim h (fun h => ?_) (fun h => ?_)) | (obtain ⟨rfl, _⟩ := h; rfl) | (obtain ⟨rfl | rfl, _⟩ := h <;> rfl) | (obtain ⟨⟨_, _, rfl, _⟩, _⟩ := h; rfl) | (obtain ⟨_, h⟩ := h))) (FunD.bindsN (ps := P_is_tie) F_is_tie fun _ _ _ _ _ _ us hl => match us, hl with | [_, _], _ => rfl)
  have h_hanging : Def G 2 "hanging" 2 sp_hanging := Def.of (st := s_hanging) (m := 3) F_hanging g_hanging sc_hanging (d_hanging B h_near_of) m_hanging rfl rfl (fun ds Q X h => by repeat (first | (refine Or.elim h (fun h => ?_) (fun h => ?_)) | (obtain ⟨rfl, _⟩ := h; rfl) | (obtain ⟨rfl | rfl, _⟩ := h <;> rfl) | (obtain ⟨⟨_, _, rfl, _⟩, _⟩ := h; rfl) | (obtain ⟨_, h⟩ := h))) (FunD.bindsN (ps := P_hanging) F_hanging fun _ _ _ _ _ _ us hl => match us, hl with | [_, _], _ => rfl)
  have h_law_gfresh : Def G 2 "_law_gfresh" 1 sp_law_gfresh := Def.of (st := s_law_gfresh) (m := 5) F_law_gfresh g_law_gfresh sc_law_gfresh (d_law_gfresh B h_law_gprime) m_law_gfresh rfl rfl (fun ds Q X h => by repeat (first | (refine Or.elim h (fun h => ?_) (fun h => ?_)) | (obtain ⟨rfl, _⟩ := h; rfl) | (obtain ⟨rfl | rfl, _⟩ := h <;> rfl) | (obtain ⟨⟨_, _, rfl, _⟩, _⟩ := h; rfl) | (obtain ⟨_, h⟩ := h))) (FunD.bindsN (ps := P_law_gfresh) F_law_gfresh fun _ _ _ _ _ _ us hl => match us, hl with | [_], _ => rfl)
  have h_are_bags : Def G 3 "are_bags" 2 sp_are_bags := Def.of (st := s_are_bags) (m := 1) F_are_bags g_are_bags sc_are_bags (d_are_bags B h_are_names k_MOST_BAGS) m_are_bags rfl rfl (fun ds Q X h => by repeat (first | (refine Or.elim h (fun h => ?_) (fun h => ?_)) | (obtain ⟨rfl, _⟩ := h; rfl) | (obtain ⟨rfl | rfl, _⟩ := h <;> rfl) | (obtain ⟨⟨_, _, rfl, _⟩, _⟩ := h; rfl) | (obtain ⟨_, h⟩ := h))) (FunD.bindsN (ps := P_are_bags) F_are_bags fun _ _ _ _ _ _ us hl => match us, hl with | [_, _], _ => rfl)
  have h_is_tree : Def G 3 "is_tree" 3 sp_is_tree := Def.of (st := s_is_tree) (m := 2) F_is_tree g_is_tree sc_is_tree (d_is_tree B h_hanging h_is_tie) m_is_tree rfl rfl (fun ds Q X h => by repeat (first | (refine Or.elim h (fun h => ?_) (fun h => ?_)) | (obtain ⟨rfl, _⟩ := h; rfl) | (obtain ⟨rfl | rfl, _⟩ := h <;> rfl) | (obtain ⟨⟨_, _, rfl, _⟩, _⟩ := h; rfl) | (obtain ⟨_, h⟩ := h))) (FunD.bindsN (ps := P_is_tree) F_is_tree fun _ _ _ _ _ _ us hl => match us, hl with | [_, _, _], _ => rfl)
  have h_law_gdraw : Def G 3 "_law_gdraw" 2 sp_law_gdraw := Def.of (st := s_law_gdraw) (m := 1) F_law_gdraw g_law_gdraw sc_law_gdraw (d_law_gdraw B h_law_gfresh) m_law_gdraw rfl rfl (fun ds Q X h => by repeat (first | (refine Or.elim h (fun h => ?_) (fun h => ?_)) | (obtain ⟨rfl, _⟩ := h; rfl) | (obtain ⟨rfl | rfl, _⟩ := h <;> rfl) | (obtain ⟨⟨_, _, rfl, _⟩, _⟩ := h; rfl) | (obtain ⟨_, h⟩ := h))) (FunD.bindsN (ps := P_law_gdraw) F_law_gdraw fun _ _ _ _ _ _ us hl => match us, hl with | [_, _], _ => rfl)
  have h_is_bag_tree : Def G 4 "is_bag_tree" 2 sp_is_bag_tree := Def.of (st := s_is_bag_tree) (m := 8) F_is_bag_tree g_is_bag_tree sc_is_bag_tree (d_is_bag_tree B h_are_bags h_hanging h_is_tree) m_is_bag_tree rfl rfl (fun ds Q X h => by repeat (first | (refine Or.elim h (fun h => ?_) (fun h => ?_)) | (obtain ⟨rfl, _⟩ := h; rfl) | (obtain ⟨rfl | rfl, _⟩ := h <;> rfl) | (obtain ⟨⟨_, _, rfl, _⟩, _⟩ := h; rfl) | (obtain ⟨_, h⟩ := h))) (FunD.bindsN (ps := P_is_bag_tree) F_is_bag_tree fun _ _ _ _ _ _ us hl => match us, hl with | [_, _], _ => rfl)
  have h_law_gword : Def G 4 "_law_gword" 1 sp_law_gword := Def.of (st := s_law_gword) (m := 0) F_law_gword g_law_gword sc_law_gword (d_law_gword B h_law_gdraw) m_law_gword rfl rfl (fun ds Q X h => by repeat (first | (refine Or.elim h (fun h => ?_) (fun h => ?_)) | (obtain ⟨rfl, _⟩ := h; rfl) | (obtain ⟨rfl | rfl, _⟩ := h <;> rfl) | (obtain ⟨⟨_, _, rfl, _⟩, _⟩ := h; rfl) | (obtain ⟨_, h⟩ := h))) (FunD.bindsN (ps := P_law_gword) F_law_gword fun _ _ _ _ _ _ us hl => match us, hl with | [_], _ => rfl)
  have h_law_gworths : Def G 4 "_law_gworths" 3 sp_law_gworths := Def.of (st := s_law_gworths) (m := 2) F_law_gworths g_law_gworths sc_law_gworths (d_law_gworths B h_law_gdraw) m_law_gworths rfl rfl (fun ds Q X h => by repeat (first | (refine Or.elim h (fun h => ?_) (fun h => ?_)) | (obtain ⟨rfl, _⟩ := h; rfl) | (obtain ⟨rfl | rfl, _⟩ := h <;> rfl) | (obtain ⟨⟨_, _, rfl, _⟩, _⟩ := h; rfl) | (obtain ⟨_, h⟩ := h))) (FunD.bindsN (ps := P_law_gworths) F_law_gworths fun _ _ _ _ _ _ us hl => match us, hl with | [_, _, _], _ => rfl)
  have h_law_gorder : Def G 4 "_law_gorder" 2 sp_law_gorder := Def.of (st := s_law_gorder) (m := 2) F_law_gorder g_law_gorder sc_law_gorder (d_law_gorder B h_law_gdraw) m_law_gorder rfl rfl (fun ds Q X h => by repeat (first | (refine Or.elim h (fun h => ?_) (fun h => ?_)) | (obtain ⟨rfl, _⟩ := h; rfl) | (obtain ⟨rfl | rfl, _⟩ := h <;> rfl) | (obtain ⟨⟨_, _, rfl, _⟩, _⟩ := h; rfl) | (obtain ⟨_, h⟩ := h))) (FunD.bindsN (ps := P_law_gorder) F_law_gorder fun _ _ _ _ _ _ us hl => match us, hl with | [_, _], _ => rfl)
  have h_law_gno_trees : Def G 4 "_law_gno_trees" 3 sp_law_gno_trees := Def.of (st := s_law_gno_trees) (m := 16) F_law_gno_trees g_law_gno_trees sc_law_gno_trees (d_law_gno_trees B h_law_gdraw) m_law_gno_trees rfl rfl (fun ds Q X h => by repeat (first | (refine Or.elim h (fun h => ?_) (fun h => ?_)) | (obtain ⟨rfl, _⟩ := h; rfl) | (obtain ⟨rfl | rfl, _⟩ := h <;> rfl) | (obtain ⟨⟨_, _, rfl, _⟩, _⟩ := h; rfl) | (obtain ⟨_, h⟩ := h))) (FunD.bindsN (ps := P_law_gno_trees) F_law_gno_trees fun _ _ _ _ _ _ us hl => match us, hl with | [_, _, _], _ => rfl)
  have h_Keeper_init : KDef G 5 "Keeper" 4 sp_Keeper_init := KDef.of (st := s_Keeper_init) (m := 2) F_Keeper_init M_Keeper_init k_Keeper sc_Keeper_init (d_Keeper_init B h_bag_of h_is_bag_tree h_near_of x_NoTree c_Keeper_bags c_Keeper_changes c_Keeper_known c_Keeper_laid c_Keeper_many c_Keeper_near c_Keeper_parts c_Keeper_sizes c_Keeper_word c_Keeper_worths) m_Keeper_init rfl rfl (fun ds Q X h => by repeat (first | (refine Or.elim h (fun h => ?_) (fun h => ?_)) | (obtain ⟨rfl, _⟩ := h; rfl) | (obtain ⟨rfl | rfl, _⟩ := h <;> rfl) | (obtain ⟨⟨_, _, rfl, _⟩, _⟩ := h; rfl) | (obtain ⟨_, h⟩ := h))) (FunD.bindsN (ps := P_Keeper_init) F_Keeper_init fun _ _ _ _ _ _ us hl => match us, hl with | [_, _, _, _], _ => rfl)
  have h_law_gparts : Def G 5 "_law_gparts" 4 sp_law_gparts := Def.of (st := s_law_gparts) (m := 4) F_law_gparts g_law_gparts sc_law_gparts (d_law_gparts B h_law_gdraw h_law_gfillings h_law_gworths) m_law_gparts rfl rfl (fun ds Q X h => by repeat (first | (refine Or.elim h (fun h => ?_) (fun h => ?_)) | (obtain ⟨rfl, _⟩ := h; rfl) | (obtain ⟨rfl | rfl, _⟩ := h <;> rfl) | (obtain ⟨⟨_, _, rfl, _⟩, _⟩ := h; rfl) | (obtain ⟨_, h⟩ := h))) (FunD.bindsN (ps := P_law_gparts) F_law_gparts fun _ _ _ _ _ _ us hl => match us, hl with | [_, _, _, _], _ => rfl)
  have h_law_gtree : Def G 5 "_law_gtree" 2 sp_law_gtree := Def.of (st := s_law_gtree) (m := 12) F_law_gtree g_law_gtree sc_law_gtree (d_law_gtree B h_law_gbags h_law_gdraw h_law_gone_bag h_law_gorder) m_law_gtree rfl rfl (fun ds Q X h => by repeat (first | (refine Or.elim h (fun h => ?_) (fun h => ?_)) | (obtain ⟨rfl, _⟩ := h; rfl) | (obtain ⟨rfl | rfl, _⟩ := h <;> rfl) | (obtain ⟨⟨_, _, rfl, _⟩, _⟩ := h; rfl) | (obtain ⟨_, h⟩ := h))) (FunD.bindsN (ps := P_law_gtree) F_law_gtree fun _ _ _ _ _ _ us hl => match us, hl with | [_, _], _ => rfl)
  have h_law_gsheet : Def G 6 "_law_gsheet" 5 sp_law_gsheet := Def.of (st := s_law_gsheet) (m := 4) F_law_gsheet g_law_gsheet sc_law_gsheet (d_law_gsheet B h_law_gdraw h_law_gparts) m_law_gsheet rfl rfl (fun ds Q X h => by repeat (first | (refine Or.elim h (fun h => ?_) (fun h => ?_)) | (obtain ⟨rfl, _⟩ := h; rfl) | (obtain ⟨rfl | rfl, _⟩ := h <;> rfl) | (obtain ⟨⟨_, _, rfl, _⟩, _⟩ := h; rfl) | (obtain ⟨_, h⟩ := h))) (FunD.bindsN (ps := P_law_gsheet) F_law_gsheet fun _ _ _ _ _ _ us hl => match us, hl with | [_, _, _, _, _], _ => rfl)
  have h_law_gmade : Def G 7 "_law_gmade" 3 sp_law_gmade := Def.of (st := s_law_gmade) (m := 2) F_law_gmade g_law_gmade sc_law_gmade (d_law_gmade B h_Keeper_init h_law_gkind hXC) m_law_gmade rfl rfl (fun ds Q X h => by repeat (first | (refine Or.elim h (fun h => ?_) (fun h => ?_)) | (obtain ⟨rfl, _⟩ := h; rfl) | (obtain ⟨rfl | rfl, _⟩ := h <;> rfl) | (obtain ⟨⟨_, _, rfl, _⟩, _⟩ := h; rfl) | (obtain ⟨_, h⟩ := h))) (FunD.bindsN (ps := P_law_gmade) F_law_gmade fun _ _ _ _ _ _ us hl => match us, hl with | [_, _, _], _ => rfl)
  exact Def.ok (G := G) (st := s_law) (m := 7) F_law sc_law (d_law B h_law_gmade h_law_gno_trees h_law_gsheet h_law_gtree h_law_gword) m_law rfl
end LS.V2.Y5.K75.E
open PySem PySem.W PySem.Calls PyProof.Rows
theorem PySem.Challenge.cw_sumorder_k75_trees_refused_holds : PySem.Challenge.rw_sumorder_k75_trees_refused.Holds := by
  w_on; o_law
  refine HandSHeadRun.head_any (r := (OpenLaw.row PySem.Challenge.rw_sumorder_k75_trees_refused)) (q := view (OpenLaw.row PySem.Challenge.rw_sumorder_k75_trees_refused).prog [72]) (H := LS.V2.Y5.K75.E.hk) (ob := LS.V2.Y5.K75.E.ob) (M := 8000) (loose := LS.V2.Y5.K75.E.nm) (d := HandSHeadRun.topDef (OpenLaw.row PySem.Challenge.rw_sumorder_k75_trees_refused).prog 72) (kwd := []) LS.V2.Y5.K75.E.obE
    (by kernel_rfl) (fun s => by kernel_rfl) LS.V2.Y5.K75.E.topRun (by kernel_rfl) (by kernel_rfl) (by kernel_rfl) (by rfl) (by first | assumption | decide +kernel) (by decide +kernel) ⟨rfl, rfl, rfl, rfl, rfl, by decide +kernel⟩ ?hw ?hc
  case hw => w_witness2
  case hc =>
    refine HD.walkW (l := PySem.Challenge.rw_sumorder_k75_trees_refused) (n := 63) (k := 8) (x := "script") (CX := fun w => L2.CX PySem.Challenge.pw_sumorder_k75_trees_refused w) rfl (by decide) (by kernel_rfl) ⟨rfl, by decide, by decide⟩ ?F (fun w H s e s' z => HD.cx_no H s e s' z)
    intro w mg f h Y N hm
    obtain ⟨K, X, c, cx⟩ := Y
    have hf : mg ("law" : PySem.Str) = some (.ref f) := by
      have e : (HandSHeadRun.topDef (OpenLaw.row PySem.Challenge.rw_sumorder_k75_trees_refused).prog 72).name = ("law" : PySem.Str) := by kernel_rfl
      rw [← e]; exact hm
    obtain ⟨fd, hb, hF⟩ := LS.V2.Y5.K75.E.facts (w := w) X N hf c cx
    exact ⟨K, fd, _, X, hb, fun H a ns hl hS => HD.law_sp hl hS, hF⟩
