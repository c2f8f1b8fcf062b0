import PyProof.Rows.All
import Wide.All
import OpenK.AllK
import Wide.FinOn
import HandS.ForMost
import HandS.ForExc
import HandS.TupAny
import HandS.Conv
import HandS.HeadHook1
import HandS.Words
import HandS.WordsExc
import HandS.Ends
import HandS.ExcOwn
import HandS.TupLe
import HandS.Wide
import HandS.Strs
import HandS.SetFor
import HandS.SortInts
import HandS.IsInst
import HandS.Zip
import HandS.Flow
import HandS.Style
import KE.GoesNew
import KE.GoesMore
import HandS.ExcValue
import HandS.ExcIs
import HandS.HeadHook2
import HandS.Text
import KE.KStateDown
import HandS.Defaults
import HandS.Head0
import HandS.Head1
import HandS.Head2
import HandS.HeadEnd
import HandS.HeadNt
import PyProof.ReprRoads
import PyProof.ReprBulk
import PyProof.Rows.RegStrFacts
import HandS.RaiseMore
import KE.GoesEnum
import HandS.TupMul
import KE.KItemsList
import KE.KDictZip
import HandS.ListItems
import KE.KTupSum
import HandS.ForDict
import HandS.Iter
import PyProof.AutoSeq1
import KE.DataMinMax
import PyProof.Rows.RowBridgeK
import KE.KDictSum
import KE.SortData
import KE.DataCmp
import KE.KDictCopyH
import HandS.DictTup
import PyProof.Transfer
import HandS.WordsDict
import HandS.More
import PyProof.WalkInts
import HandS.Deep
import HandS.NoneIn
import HandS.TupSets
import PySem.Challenge.RW_sumorder_k50_trees_of_bags_looked_at
set_option Elab.async false
set_option linter.all false
set_option maxRecDepth 100000
set_option maxHeartbeats 0
set_option autoImplicit false
namespace HD
open PySem PyProof.Rows L2
def TupD (K : PySem.W.Frag) (H : Hp) (a : Addr) (xs : List V) : Prop :=
  (∃ o : Obj, H a = some (.frz o (.tup xs)) ∧ o.dict = none) ∨
    ∃ (o : Obj) (its : Array Value) (n : Nat), K.lookup a = some o ∧ o.cls = .type "tuple" ∧ o.data = .seq its n ∧ its.size ≤ sizeLine ∧ Vals xs its.toList ∧ o.dict = none
theorem TupD.sq {K : PySem.W.Frag} {H : Hp} {a : Addr} {xs : List V} (h : TupD K H a xs) : SqT K H a xs := by
  rcases h with ⟨o, h, _⟩ | ⟨o, its, n, h1, h2, h3, h4, h5, _⟩
  · exact .inl (.inr ⟨o, h⟩)
  · exact .inr ⟨o, its, n, h1, h2, h3, h4, h5⟩
theorem TupD.same {K : PySem.W.Frag} {H H' : Hp} {a : Addr} {xs : List V} (e : Same H H') (h : TupD K H a xs) : TupD K H' a xs := by
  rcases h with ⟨o, h, d⟩ | h
  · exact .inl ⟨o, e _ _ h, d⟩
  · exact .inr h
theorem TupD.noDict {X : Cx} {pins : List (Addr × Obj)} {σ : L2.St} {H : Hp} {s : Shared} {a : Addr} {xs : List V} (I : Inv X pins σ H s) (h : TupD X.K H a xs) : ∃ ob, s.heap.get? a = some ob ∧ ob.dict = none := by
  rcases h with ⟨o, h, d⟩ | ⟨o, its, n, h1, h2, h3, h4, h5, d⟩
  · obtain ⟨e, _⟩ := (show ObjOk X.prog X.w H s.heap a (.frz o (.tup xs)) from I.hok a _ h)
    exact ⟨o, e, d⟩
  · exact ⟨o, I.kIn a o h1, d⟩
def newT (H : Hp) (xs : List V) (Q : VK) : Prop := ∀ (p : Addr) (o : Obj), H p = none → o.dict = none → Q (.ref p) (upd H p (.frz o (.tup xs)))
theorem laidT {X : Cx} {pins : List (Addr × Obj)} {σ : L2.St} {H : Hp} {s : Shared} {Q : VK} {xs : List V} {its : List Value} {tk : Nat} (I : Inv X pins σ H s) (r : Vals xs its) (hz : xs.length ≤ sizeLine) (q : newT H xs Q) :
    EP X pins σ Q (.ref s.heap.objs.size) { s with heap := s.heap.push { cls := .type "tuple", data := .seq its.toArray }, toks := tk } := by
  have hf : H s.heap.objs.size = none := I.hok.fresh (Nat.le_refl _)
  refine ⟨.ref s.heap.objs.size, _, I.laid (t' := tk) (fun b u e => Heap.get?_push_of_some _ e) (Nat.le_refl _) ?_, rfl, q _ { cls := .type "tuple", data := .seq its.toArray } hf rfl⟩
  exact ⟨Heap.get?_push_size _ rfl, hz, its, r, IsTup.new _ _⟩
section
variable {X : Cx}
def tTupF (t : TA) : TE := fun σ H Q => t σ H fun xs H1 => xs.length ≤ sizeLine ∧ newT H1 xs Q
theorem pe_tupF {x1} {es : List Expr} {t : TA} {pos : Pos} (h : PA X es t) : PE X (.Tuple es x1 pos) (tTupF t) := by
  refine ⟨fun pins s σ H Q I hq => ?_⟩
  refine wpAny_Tuple_spliced (thn (h.run pos pins s σ H _ I hq) fun us s1 ⟨xs, H1, I1, r, z, q⟩ => ⟨by rw [← r.length]; exact z, ?_⟩)
  exact laidT (tk := s1.toks) I1 r z q
def rCatF (K : PySem.W.Frag) : R2 := fun x y H Q => ∃ a b xs ys, x = .ref a ∧ y = .ref b ∧ SqT K H a xs ∧ SqT K H b ys ∧ xs.length + ys.length ≤ sizeLine ∧
  (xs = [] → Q (.ref b) H) ∧ (xs ≠ [] → ys = [] → Q (.ref a) H) ∧ (xs ≠ [] → ys ≠ [] → newT H (xs ++ ys) Q)
theorem op_catF : OpR X (binaryOp .Add) (rCatF X.K) := by
  intro pins s σ H x y v u Q I rx ry h
  obtain ⟨a, b, xs, ys, rfl, rfl, ha, hb, hz, q0, q1, q2⟩ := h
  cases rx
  cases ry
  obtain ⟨its, r1, p1, _⟩ := I.tuple ha
  obtain ⟨its2, r2, p2, _⟩ := I.tuple hb
  by_cases hx : xs = []
  · subst hx
    cases r1
    exact cat_tup0 p1 p2 ⟨.ref b, H, I, rfl, q0 rfl⟩
  · refine HT.cat_tup p1 p2 (fun z => hx (r1.nil_iff.mp z)) (fun z => ⟨.ref a, H, I, rfl, q1 hx (r2.nil_iff.mp z)⟩) (fun z => ?_) (by rw [← r1.length, ← r2.length]; exact hz)
    exact laidT (tk := s.toks) I (r1.append r2) (by rw [List.length_append]; exact hz) (q2 hx fun w => z (r2.nil_iff.mpr w))
def rSlF (K : PySem.W.Frag) : V → Option Int → Option Int → Hp → VK → Prop := fun x lo hi H Q => ∃ a xs, x = .ref a ∧ SqT K H a xs ∧
  (HT.sIx xs.length 0 lo = 0 ∧ HT.sIx xs.length xs.length hi = xs.length → Q (.ref a) H) ∧ (¬ (HT.sIx xs.length 0 lo = 0 ∧ HT.sIx xs.length xs.length hi = xs.length) → newT H (cutV xs lo hi) Q)
theorem sl_tupF : SlR X (rSlF X.K) := by
  intro pins s σ H x v vl vu lo hi sl Q I rx hs pl pu h
  obtain ⟨a, xs, rfl, hx, q1, q2⟩ := h
  cases rx
  obtain ⟨its, r, ht, hz⟩ := I.tuple hx
  have hlen : its.toArray.size = xs.length := by
    rw [List.size_toArray]
    exact r.length.symm
  refine ⟨"tuple", _, PyProof.Rows.slot_tuple_getitem.lookup, ht.typeIs, ?_⟩
  by_cases hw : HT.sIx xs.length 0 lo = 0 ∧ HT.sIx xs.length xs.length hi = xs.length
  · exact getItem_tuple_whole ht hs pl pu (by rw [hlen]; exact hw) ⟨.ref a, H, I, rfl, q1 hw⟩
  · refine HT.getItem_tuple_cut ht hs pl pu (by rw [hlen]; exact hw) ?_ (by rw [hlen]; exact hz)
    rw [hlen]
    exact laidT (tk := s.toks) I ((r.drop (HT.sIx xs.length 0 lo)).take (HT.sIx xs.length xs.length hi - HT.sIx xs.length 0 lo)) (Nat.le_trans (cutV_length xs lo hi) hz) (q2 hw)
theorem call_tupleF : CallR X (.type "tuple") (fun xs H Q => ∃ p ys, xs = [.ref p] ∧ ((SqL X.K H p ys ∧ newT H ys Q) ∨ (SqT X.K H p ys ∧ Q (.ref p) H))) := by
  intro pins s σ H xs us Q I r h
  obtain ⟨p, ys, rfl, h⟩ := h
  obtain ⟨u, rfl, rx⟩ := vals1 r
  cases rx
  rcases h with ⟨hq, q⟩ | ⟨hq, q⟩
  · obtain ⟨its, r', pl, hz⟩ := I.list hq
    have hlen := r'.length
    refine call_tuple_list pl.isList (fun h' kp => ?_) (by simp only [List.size_toArray] <;> omega)
    have I1 : Inv X pins σ H { s with heap := h' } := I.kept (t' := s.toks) kp
    exact laidT (tk := s.toks) I1 r' hz q
  · obtain ⟨its, r', pl, hz⟩ := I.tuple hq
    exact call_tuple_same pl ⟨.ref p, H, I, rfl, q⟩
def tTupRgF (te : L2.St → Hp → (Int → Int → Hp → Prop) → Prop) : TE := fun σ H Q => te σ H fun a b H1 => RgOk a b ∧ newT H1 (rgV a b) Q
theorem pe_tupRgF {e : Expr} {te : L2.St → Hp → (Int → Int → Hp → Prop) → Prop} {p pos : Pos} (hc : X.calm = true) (hg : Gl X "tuple") (hm : X.mg "tuple" = none) (he : PRg X e te) (na : starEach [e] X.env = (false, eval e X.env) :: starEach [] X.env) : PE X (.Call (.Name "tuple" p) [e] [] pos) (tTupRgF te) := by
  refine ⟨fun pins s σ H Q I h => ?_⟩
  refine Call_ (ld_blt I hg hm boot_tuple (PyProof.Rows.callWith_type1 (args_cons (thn (he pins s σ H _ I h) fun x s1 ⟨r, a, b, t, u, v, H1, ex, hr, I1, ok, q⟩ => args_nil ?_) na) na))
  subst ex
  obtain ⟨b1, b2, b3, b4, b5⟩ := ok
  refine call_tuple_range (n := (b - a).toNat) (I1.ok.hd hc) hr (small_one b1 b2 b3 b4) (rangeSize_nat a b) b5 fun h' tk acc hk hi => ?_
  have I2 : Inv X pins σ H1 { s1 with heap := h', toks := tk } := I1.kept hk
  have z := laidT (tk := tk) I2 (vals_rg hi) (by rw [rgV_length, sizeLine_eq]; omega) q
  rw [Array.toArray_toList] at z
  exact z
end
end HD
namespace HD
open PySem L2
abbrev clsV (K : PySem.W.Frag) (x : Str) : Value := .ref (He.ga K x)
inductive D where
  | non | bl (b : Bool) | int (i : Int) | str (x : Str) | val (v : V)
  | lst (ds : List D) | tup (ds : List D) | fz (ds : List D) | tk (ds : List D)
  | exc (c : Str)
  | glo (x : Str)
  | dk (ks : List Key) (ds : List D)
  | dt (ks : List (List Int)) (ds : List D)
def hT (ks : List Int) : Int := reduceHash (Builtin.Tuple.tupleHashOf (ks.map hashInt))
def dtO (a : Addr) (kbs : List (List Int × Addr × V)) : HO := .ext fun h => kbs.length ≤ sizeLine ∧ (a == sysModules) = false ∧ (kbs.map (·.1)).Nodup ∧ ∃ (us : List Value) (o : Obj) (es : Array DictEntry) (ep : Nat),
  Vals (kbs.map (·.2.2)) us ∧ h.get? a = some o ∧ o.ExactDict ∧ o.data = .dict es ep ∧ es.toList = (kbs.zip us).map fun x => ⟨hT x.1.1, .ref x.1.2.1, x.2⟩
mutual
def Rep (K : PySem.W.Frag) (F : Hp) : D → V → Prop
  | .non, v => v = .non
  | .bl b, v => v = .bl b
  | .int i, v => v = .int i
  | .str x, v => v = .str x
  | .val u, v => v = u
  | .lst ds, v => ∃ a xs, v = .ref a ∧ F a = some (.lst xs) ∧ Reps K F ds xs
  | .fz ds, v => ∃ a xs, v = .ref a ∧ SqL K F a xs ∧ Reps K F ds xs
  | .tup ds, v => ∃ a xs, v = .ref a ∧ TupD K F a xs ∧ Reps K F ds xs
  | .tk ds, v => ∃ a xs, v = .ref a ∧ SqT K F a xs ∧ Reps K F ds xs
  | .glo x, v => v = .ref (He.ga K x)
  | .exc c, v => ∃ a oe, v = .ref a ∧ F a = some (.frz oe (.own a)) ∧ oe.cls = clsV K c ∧ oe.dict = none ∧ ∃ vs, oe.data = .fields vs
  | .dk ks ds, v => ∃ a od vs, v = .ref a ∧ F a = some (.frz od (.dK vs)) ∧ vs.map (·.1) = ks ∧ Reps K F ds (vs.map (·.2))
  | .dt ks ds, v => ∃ a od kbs, v = .ref a ∧ F a = some (.frz od (dtO a kbs)) ∧ kbs.map (·.1) = ks ∧ (∀ x ∈ kbs, TupD K F x.2.1 (x.1.map V.int)) ∧ Reps K F ds (kbs.map (·.2.2))
def Reps (K : PySem.W.Frag) (F : Hp) : List D → List V → Prop
  | [], vs => vs = []
  | d :: ds, vs => ∃ v r, vs = v :: r ∧ Rep K F d v ∧ Reps K F ds r
end
theorem SqT.same {K : PySem.W.Frag} {F F' : Hp} {a : Addr} {xs : List V} (e : Same F F') (h : SqT K F a xs) : SqT K F' a xs := by
  rcases h with (h | ⟨o, h⟩) | h
  · exact .inl (.inl (e _ _ h))
  · exact .inl (.inr ⟨o, e _ _ h⟩)
  · exact .inr h
section
variable {K : PySem.W.Frag} {F F' : Hp}
mutual
theorem Rep.same (e : Same F F') : ∀ {d : D} {v : V}, Rep K F d v → Rep K F' d v
  | .non, _, h => h
  | .bl _, _, h => h
  | .int _, _, h => h
  | .str _, _, h => h
  | .val _, _, h => h
  | .lst _, _, h => by
    obtain ⟨a, xs, rfl, hs, hr⟩ := h
    exact ⟨a, xs, rfl, e _ _ hs, Reps.same e hr⟩
  | .fz _, _, h => by
    obtain ⟨a, xs, rfl, hs, hr⟩ := h
    exact ⟨a, xs, rfl, e.seq hs, Reps.same e hr⟩
  | .tup _, _, h => by
    obtain ⟨a, xs, rfl, hs, hr⟩ := h
    exact ⟨a, xs, rfl, TupD.same e hs, Reps.same e hr⟩
  | .tk _, _, h => by
    obtain ⟨a, xs, rfl, hs, hr⟩ := h
    exact ⟨a, xs, rfl, SqT.same e hs, Reps.same e hr⟩
  | .glo _, _, h => h
  | .exc _, _, h => by
    obtain ⟨a, oe, rfl, hs, hr⟩ := h
    exact ⟨a, oe, rfl, e _ _ hs, hr⟩
  | .dk _ _, _, h => by
    obtain ⟨a, od, vs, rfl, hs, hk, hr⟩ := h
    exact ⟨a, od, vs, rfl, e _ _ hs, hk, Reps.same e hr⟩
  | .dt _ _, _, h => by
    obtain ⟨a, od, vs, rfl, hs, hk, ht, hr⟩ := h
    exact ⟨a, od, vs, rfl, e _ _ hs, hk, fun x hx => TupD.same e (ht x hx), Reps.same e hr⟩
theorem Reps.same (e : Same F F') : ∀ {ds : List D} {vs : List V}, Reps K F ds vs → Reps K F' ds vs
  | [], _, h => h
  | _ :: _, _, h => by
    obtain ⟨v, r, rfl, h1, h2⟩ := h
    exact ⟨v, r, rfl, Rep.same e h1, Reps.same e h2⟩
end
theorem Reps.nil : Reps K F [] [] := rfl
theorem Reps.cons {d : D} {v : V} {ds : List D} {vs : List V} (h : Rep K F d v) (t : Reps K F ds vs) : Reps K F (d :: ds) (v :: vs) := ⟨v, vs, rfl, h, t⟩
theorem Reps.length : ∀ {ds : List D} {vs : List V}, Reps K F ds vs → ds.length = vs.length
  | [], _, h => by
    have e : _ = [] := h
    rw [e]
    rfl
  | _ :: ds, _, h => by
    obtain ⟨v, r, rfl, _, h2⟩ := h
    rw [List.length_cons, List.length_cons, Reps.length h2]
theorem Reps.get : ∀ {ds : List D} {vs : List V} {i : Nat} {d : D}, Reps K F ds vs → ds[i]? = some d → ∃ v, vs[i]? = some v ∧ Rep K F d v
  | [], _, _, _, _, e => by simp at e
  | _ :: ds, _, 0, _, h, e => by
    obtain ⟨v, r, rfl, h1, _⟩ := h
    have e' := Option.some.inj e
    subst e'
    exact ⟨v, rfl, h1⟩
  | _ :: ds, _, i + 1, _, h, e => by
    obtain ⟨v, r, rfl, _, h2⟩ := h
    exact Reps.get (i := i) h2 e
theorem Reps.of_get : ∀ {ds : List D} {vs : List V}, ds.length = vs.length → (∀ (i : Nat) d v, ds[i]? = some d → vs[i]? = some v → Rep K F d v) → Reps K F ds vs
  | [], [], _, _ => rfl
  | [], _ :: _, e, _ => by simp at e
  | _ :: _, [], e, _ => by simp at e
  | d :: ds, v :: vs, e, h => ⟨v, vs, rfl, h 0 d v rfl rfl, Reps.of_get (by simpa using e) fun i d' v' h1 h2 => h (i + 1) d' v' h1 h2⟩
theorem Reps.append : ∀ {ds es : List D} {vs us : List V}, Reps K F ds vs → Reps K F es us → Reps K F (ds ++ es) (vs ++ us)
  | [], _, _, _, h, g => by
    have e : _ = [] := h
    rw [e]
    exact g
  | _ :: _, _, _, _, h, g => by
    obtain ⟨v, r, rfl, h1, h2⟩ := h
    exact ⟨v, _, rfl, h1, Reps.append h2 g⟩
theorem Reps.one {d : D} {v : V} (h : Rep K F d v) : Reps K F [d] [v] := .cons h .nil
theorem Reps.take {ds : List D} {vs : List V} (h : Reps K F ds vs) (n : Nat) : Reps K F (ds.take n) (vs.take n) := by
  refine Reps.of_get (by rw [List.length_take, List.length_take, h.length]) fun i d v h1 h2 => ?_
  rw [List.getElem?_take] at h1 h2
  split at h1
  · rename_i hi
    rw [if_pos hi] at h2
    obtain ⟨v', e, r⟩ := h.get h1
    rw [h2] at e
    cases e
    exact r
  · cases h1
theorem Reps.drop {ds : List D} {vs : List V} (h : Reps K F ds vs) (n : Nat) : Reps K F (ds.drop n) (vs.drop n) := by
  refine Reps.of_get (by rw [List.length_drop, List.length_drop, h.length]) fun i d v h1 h2 => ?_
  rw [List.getElem?_drop] at h1 h2
  obtain ⟨v', e, r⟩ := h.get h1
  rw [h2] at e
  cases e
  exact r
theorem Reps.set {ds : List D} {vs : List V} (h : Reps K F ds vs) (n : Nat) {d : D} {v : V} (hd : Rep K F d v) : Reps K F (ds.set n d) (vs.set n v) := by
  refine Reps.of_get (by rw [List.length_set, List.length_set, h.length]) fun i d' v' h1 h2 => ?_
  rw [List.getElem?_set] at h1 h2
  split at h1
  · rename_i hi
    rw [if_pos hi] at h2
    split at h1
    · split at h2
      · cases h1
        cases h2
        exact hd
      · cases h2
    · cases h1
  · rename_i hi
    rw [if_neg hi] at h2
    obtain ⟨w, e, r⟩ := h.get h1
    rw [h2] at e
    cases e
    exact r
theorem Reps.eraseIdx : ∀ {ds : List D} {vs : List V} (n : Nat), Reps K F ds vs → Reps K F (ds.eraseIdx n) (vs.eraseIdx n)
  | [], _, _, h => by
    have e : _ = [] := h
    rw [e]
    exact rfl
  | _ :: _, _, 0, h => by
    obtain ⟨v, r, rfl, _, h2⟩ := h
    exact h2
  | _ :: _, _, n + 1, h => by
    obtain ⟨v, r, rfl, h1, h2⟩ := h
    exact ⟨v, _, rfl, h1, Reps.eraseIdx n h2⟩
theorem Reps.ints : ∀ {ns : List Int} {vs : List V}, Reps K F (ns.map D.int) vs → vs = ns.map V.int
  | [], _, h => h
  | n :: ns, _, h => by
    obtain ⟨v, r, rfl, h1, h2⟩ := h
    have e : v = .int n := h1
    rw [e, Reps.ints (ns := ns) h2]
    rfl
theorem Reps.of_ints : ∀ (ns : List Int), Reps K F (ns.map D.int) (ns.map V.int)
  | [] => rfl
  | n :: ns => ⟨_, _, rfl, rfl, Reps.of_ints ns⟩
theorem Reps.bls : ∀ {bs : List Bool} {vs : List V}, Reps K F (bs.map D.bl) vs → vs = bs.map V.bl
  | [], _, h => h
  | n :: ns, _, h => by
    obtain ⟨v, r, rfl, h1, h2⟩ := h
    have e : v = .bl n := h1
    rw [e, Reps.bls (bs := ns) h2]
    rfl
end
inductive OC where
  | lst (ds : List D)
  | dk (kvs : List (Key × D))
  | dt (kvs : List (List Int × D))
  | ins (c : Str) (dx : Addr) (fs : List (Str × D))
  | own (x : Addr)
  | lkK (od : Obj) (vs : List (Key × V)) (kvs : List (Key × D))
  | lkT (od : Obj) (kbs : List (List Int × Addr × V)) (kvs : List (List Int × D))
def OC.ok (K : PySem.W.Frag) (F : Hp) (a : Addr) : OC → HO → Prop
  | .lst ds, o => ∃ vs, o = .lst vs ∧ Reps K F ds vs
  | .dk kvs, o => ∃ vs : List (Key × V), o = .dK vs ∧ vs.map (·.1) = kvs.map (·.1) ∧ Reps K F (kvs.map (·.2)) (vs.map (·.2))
  | .dt kvs, o => ∃ kbs : List (List Int × Addr × V), o = dtO a kbs ∧ kbs.map (·.1) = kvs.map (·.1) ∧ (∀ x ∈ kbs, TupD K F x.2.1 (x.1.map V.int)) ∧ Reps K F (kvs.map (·.2)) (kbs.map (·.2.2))
  | .ins c dx fs, o => ∃ vs : List (Str × V), o = .ins (He.ga K c) dx vs ∧ vs.map (·.1) = fs.map (·.1) ∧ Reps K F (fs.map (·.2)) (vs.map (·.2))
  | .own x, o => o = .own x
  | .lkK od vs kvs, o => o = .frz od (.dK vs) ∧ vs.map (·.1) = kvs.map (·.1) ∧ Reps K F (kvs.map (·.2)) (vs.map (·.2))
  | .lkT od kbs kvs, o => o = .frz od (dtO a kbs) ∧ kbs.map (·.1) = kvs.map (·.1) ∧ (∀ x ∈ kbs, TupD K F x.2.1 (x.1.map V.int)) ∧ Reps K F (kvs.map (·.2)) (kbs.map (·.2.2))
theorem OC.ok.same {K : PySem.W.Frag} {F F' : Hp} {a : Addr} (e : Same F F') : ∀ {c : OC} {o : HO}, OC.ok K F a c o → OC.ok K F' a c o
  | .lst _, _, ⟨vs, h1, h2⟩ => ⟨vs, h1, h2.same e⟩
  | .dk _, _, ⟨vs, h1, h2, h3⟩ => ⟨vs, h1, h2, h3.same e⟩
  | .dt _, _, ⟨vs, h1, h2, h3, h4⟩ => ⟨vs, h1, h2, fun x hx => TupD.same e (h3 x hx), h4.same e⟩
  | .ins _ _ _, _, ⟨vs, h1, h2, h3⟩ => ⟨vs, h1, h2, h3.same e⟩
  | .own _, _, h => h
  | .lkK _ _ _, _, ⟨h1, h2, h3⟩ => ⟨h1, h2, h3.same e⟩
  | .lkT _ _ _, _, ⟨h1, h2, h3, h4⟩ => ⟨h1, h2, fun x hx => TupD.same e (h3 x hx), h4.same e⟩
def Loose (o : HO) : Prop := (∀ xs, o ≠ .tup xs) ∧ ∀ od xs, o ≠ .frz od (.tup xs)
theorem OC.ok.loose {K : PySem.W.Frag} {F : Hp} {a : Addr} : ∀ {c : OC} {o : HO}, OC.ok K F a c o → Loose o
  | .lst _, _, ⟨vs, h1, _⟩ => by subst h1; exact ⟨fun _ z => (nomatch z), fun _ _ z => (nomatch z)⟩
  | .dk _, _, ⟨vs, h1, _⟩ => by subst h1; exact ⟨fun _ z => (nomatch z), fun _ _ z => (nomatch z)⟩
  | .dt _, _, ⟨vs, h1, _⟩ => by subst h1; exact ⟨fun _ z => (nomatch z), fun _ _ z => (nomatch z)⟩
  | .ins _ _ _, _, ⟨vs, h1, _⟩ => by subst h1; exact ⟨fun _ z => (nomatch z), fun _ _ z => (nomatch z)⟩
  | .own _, _, h => by
    have e : _ = HO.own _ := h
    subst e
    exact ⟨fun _ z => (nomatch z), fun _ _ z => (nomatch z)⟩
  | .lkK _ _ _, _, ⟨h1, _⟩ => by subst h1; exact ⟨fun _ z => (nomatch z), fun _ _ z => (nomatch z)⟩
  | .lkT _ _ _, _, ⟨h1, _⟩ => by subst h1; exact ⟨fun _ z => (nomatch z), fun _ _ z => (nomatch z)⟩
inductive Sl where
  | un
  | ext (d : D)
  | lst (a : Addr) (ds : List D)
  | al (i : Nat) (a : Addr)
  | reg (d : D) (cs : List (Addr × OC))
  | ar (i : Nat) (b : Addr)
def Sl.owned : Sl → List Addr
  | .lst a _ => [a]
  | .reg _ cs => cs.map (·.1)
  | _ => []
def cellOf : List (Addr × OC) → Addr → Option OC
  | [], _ => none
  | p :: r, b => if p.1 = b then some p.2 else cellOf r b
def SlOk (K : PySem.W.Frag) (F H : Hp) (v : V) : Sl → Prop
  | .un => True
  | .ext d => Rep K F d v
  | .lst a ds => v = .ref a ∧ F a = none ∧ ∃ vs, H a = some (.lst vs) ∧ Reps K F ds vs
  | .al _ a => v = .ref a
  | .ar _ b => v = .ref b
  | .reg d cs => Rep K F d v ∧ (cs.map (·.1)).Nodup ∧ ∀ p ∈ cs, F p.1 = none ∧ ∃ o, H p.1 = some o ∧ OC.ok K F p.1 p.2 o
theorem SlOk.ndo {K : PySem.W.Frag} {F H : Hp} {v : V} : ∀ {sl : Sl}, SlOk K F H v sl → sl.owned.Nodup
  | .un, _ => List.nodup_nil
  | .ext _, _ => List.nodup_nil
  | .al _ _, _ => List.nodup_nil
  | .lst _ _, _ => List.pairwise_singleton _ _
  | .ar _ _, _ => List.nodup_nil
  | .reg _ _, h => h.2.1
structure Ent where
  F0 : Hp
  H0 : Hp
  A0 : List Addr
abbrev Env' := List Sl
abbrev Tmp := List (V × Sl)
def ownedE (env : Env') : List Addr := env.flatMap Sl.owned
def ownedT (T : Tmp) : List Addr := T.flatMap fun p => p.2.owned
structure Holds (K : PySem.W.Frag) (e : Ent) (env : Env') (T : Tmp) (F : Hp) (σ : St) (H : Hp) : Prop where
  fh : Same F H
  len : env.length = σ.length
  slots : ∀ (i : Nat) sl, env[i]? = some sl → sl = .un ∨ ∃ v, σ[i]? = some (some v) ∧ SlOk K F H v sl
  temps : ∀ p ∈ T, SlOk K F H p.1 p.2
  nd : (ownedE env ++ ownedT T).Nodup
  s1 : Same e.F0 F
  s2 : ∀ a o, e.H0 a = some o → a ∉ e.A0 → H a = some o ∧ (e.F0 a = none → F a = none)
  s3 : ∀ a ∈ ownedE env ++ ownedT T, a ∈ e.A0 ∨ e.H0 a = none
structure Grow (F H F1 H1 : Hp) : Prop where
  ff : Same F F1
  hh : Same H H1
  fh : Same F1 H1
  new : ∀ a, F1 a ≠ none → F a ≠ none ∨ H a = none
theorem Grow.refl {F H : Hp} (h : Same F H) : Grow F H F H := ⟨Same.refl _, Same.refl _, h, fun _ z => .inl z⟩
theorem Grow.trans {F H F1 H1 F2 H2 : Hp} (g : Grow F H F1 H1) (k : Grow F1 H1 F2 H2) : Grow F H F2 H2 :=
  ⟨g.ff.trans k.ff, g.hh.trans k.hh, k.fh, fun a z => by
    rcases k.new a z with z | z
    · exact g.new a z
    · exact .inr (g.hh.free z)⟩
theorem Grow.frozen {F H : Hp} {p : Addr} {o : HO} (fh : Same F H) (n : H p = none) : Grow F H (upd F p o) (upd H p o) where
  ff := fun b x q => by
    rw [upd_ne (ne_of_none (fh _ _ q) n)]
    exact q
  hh := fun b x q => by
    rw [upd_ne (ne_of_none q n)]
    exact q
  fh := fun b x q => by
    by_cases e : b = p
    · subst e
      rw [upd_same] at q ⊢
      exact q
    · rw [upd_ne e] at q ⊢
      exact fh _ _ q
  new := fun a z => by
    by_cases e : a = p
    · subst e
      exact .inr n
    · rw [upd_ne e] at z
      exact .inl z
theorem Grow.loose {F H : Hp} {p : Addr} {o : HO} (fh : Same F H) (n : H p = none) : Grow F H F (upd H p o) where
  ff := Same.refl _
  hh := fun b x q => by
    rw [upd_ne (ne_of_none q n)]
    exact q
  fh := fun b x q => by
    rw [upd_ne (ne_of_none (fh _ _ q) n)]
    exact fh _ _ q
  new := fun a z => .inl z
theorem SlOk.grow {K : PySem.W.Frag} {F H F1 H1 : Hp} {v : V} (g : Grow F H F1 H1) : ∀ {sl : Sl}, SlOk K F H v sl → SlOk K F1 H1 v sl
  | .un, _ => trivial
  | .ext d, h => Rep.same g.ff h
  | .al _ _, h => h
  | .lst a ds, h => by
    obtain ⟨rfl, n, vs, hv, hr⟩ := h
    refine ⟨rfl, ?_, vs, g.hh _ _ hv, hr.same g.ff⟩
    cases q : F1 a with
    | none => rfl
    | some o =>
      rcases g.new a (by rw [q]; simp) with z | z
      · exact absurd n z
      · rw [hv] at z
        cases z
  | .ar _ _, h => h
  | .reg d cs, h => by
    obtain ⟨rd, nd, hc⟩ := h
    refine ⟨Rep.same g.ff rd, nd, fun p hp => ?_⟩
    obtain ⟨n, o, ho, ok⟩ := hc p hp
    refine ⟨?_, o, g.hh _ _ ho, ok.same g.ff⟩
    cases q : F1 p.1 with
    | none => rfl
    | some o' =>
      rcases g.new p.1 (by rw [q]; simp) with z | z
      · exact absurd n z
      · rw [ho] at z
        cases z
section
variable {K : PySem.W.Frag} {e : Ent} {env : Env'} {T : Tmp} {F F1 : Hp} {σ : St} {H H1 : Hp}
theorem Holds.ownedL (h : Holds K e env T F σ H) : ∀ a ∈ ownedE env ++ ownedT T, F a = none ∧ ∃ o, H a = some o ∧ Loose o := fun a ha => by
  have key : ∀ v (sl : Sl), SlOk K F H v sl → a ∈ sl.owned → F a = none ∧ ∃ o, H a = some o ∧ Loose o := fun v sl ok hm => by
    cases sl with
    | un => cases hm
    | ext d => cases hm
    | al i b => cases hm
    | lst b ds =>
      obtain ⟨_, n, vs, hv, _⟩ := ok
      have z : a = b := List.mem_singleton.mp hm
      subst z
      exact ⟨n, _, hv, ⟨fun _ z => (nomatch z), fun _ _ z => (nomatch z)⟩⟩
    | ar i b => cases hm
    | reg b cs =>
      obtain ⟨_, _, hc⟩ := ok
      obtain ⟨p, hp, rfl⟩ := List.mem_map.mp hm
      obtain ⟨n, o, ho, ok⟩ := hc p hp
      exact ⟨n, o, ho, ok.loose⟩
  rcases List.mem_append.mp ha with ha | ha
  · obtain ⟨sl, hs, hm⟩ := List.mem_flatMap.mp ha
    obtain ⟨i, hi, rfl⟩ := List.getElem_of_mem hs
    rcases h.slots i _ (List.getElem?_eq_getElem hi) with z | ⟨v, _, ok⟩
    · rw [z] at hm
      cases hm
    · exact key v _ ok hm
  · obtain ⟨p, hp, hm⟩ := List.mem_flatMap.mp ha
    exact key p.1 p.2 (h.temps p hp) hm
theorem Holds.ownedH (h : Holds K e env T F σ H) : ∀ a ∈ ownedE env ++ ownedT T, F a = none ∧ ∃ o, H a = some o := fun a ha => by
  obtain ⟨n, o, ho, _⟩ := h.ownedL a ha
  exact ⟨n, o, ho⟩
theorem Holds.grow (h : Holds K e env T F σ H) (g : Grow F H F1 H1) : Holds K e env T F1 σ H1 where
  fh := g.fh
  len := h.len
  slots := fun i sl q => by
    rcases h.slots i sl q with z | ⟨v, hv, ok⟩
    · exact .inl z
    · exact .inr ⟨v, hv, ok.grow g⟩
  temps := fun p hp => (h.temps p hp).grow g
  nd := h.nd
  s1 := h.s1.trans g.ff
  s2 := fun a o q n => by
    obtain ⟨q1, q2⟩ := h.s2 a o q n
    refine ⟨g.hh _ _ q1, fun z => ?_⟩
    cases r : F1 a with
    | none => rfl
    | some x =>
      rcases g.new a (by rw [r]; simp) with y | y
      · exact absurd (q2 z) y
      · rw [q1] at y
        cases y
  s3 := h.s3
theorem Holds.push {v : V} {sl : Sl} (h : Holds K e env T F σ H) (g : Grow F H F1 H1) (ok : SlOk K F1 H1 v sl) (own : ∀ a ∈ sl.owned, H a = none) : Holds K e env ((v, sl) :: T) F1 σ H1 := by
  have h1 := h.grow g
  have old := h.ownedH
  have ndo : sl.owned.Nodup := ok.ndo
  have dis : ∀ a ∈ sl.owned, a ∉ ownedE env ++ ownedT T := fun a ha hb => by
    obtain ⟨_, vs, q⟩ := old a hb
    rw [own a ha] at q
    cases q
  refine ⟨h1.fh, h1.len, h1.slots, fun p hp => ?_, ?_, h1.s1, h1.s2, fun a ha => ?_⟩
  · rcases List.mem_cons.mp hp with rfl | hp
    · exact ok
    · exact h1.temps p hp
  · show (ownedE env ++ (sl.owned ++ ownedT T)).Nodup
    have z := h.nd
    rw [List.nodup_append] at z ⊢
    obtain ⟨z1, z2, z3⟩ := z
    refine ⟨z1, ?_, fun a ha b hb => ?_⟩
    · rw [List.nodup_append]
      exact ⟨ndo, z2, fun a ha b hb e => dis a ha (by rw [e]; exact List.mem_append_right _ hb)⟩
    · rcases List.mem_append.mp hb with hb | hb
      · exact fun e => dis b hb (by rw [← e]; exact List.mem_append_left _ ha)
      · exact z3 a ha b hb
  · have ha' : a ∈ ownedE env ++ (sl.owned ++ ownedT T) := ha
    rcases List.mem_append.mp ha' with hb | hb
    · exact h.s3 a (List.mem_append_left _ hb)
    · rcases List.mem_append.mp hb with hb | hb
      · have hn := own a hb
        cases q : e.H0 a with
        | none => exact .inr rfl
        | some o =>
          by_cases hA : a ∈ e.A0
          · exact .inl hA
          · rw [(h.s2 a o q hA).1] at hn
            cases hn
      · exact h.s3 a (List.mem_append_right _ hb)
theorem Holds.pushE {v : V} {d : D} (h : Holds K e env T F σ H) (ok : Rep K F d v) : Holds K e env ((v, .ext d) :: T) F σ H :=
  h.push (Grow.refl h.fh) ok fun a ha => by cases ha
theorem Holds.pushA {i : Nat} {a : Addr} (h : Holds K e env T F σ H) : Holds K e env ((.ref a, .al i a) :: T) F σ H :=
  h.push (Grow.refl h.fh) rfl fun a ha => by cases ha
theorem ownedT_sub {T T' : Tmp} (s : T'.Sublist T) : (ownedT T').Sublist (ownedT T) := by
  unfold ownedT
  induction s with
  | slnil => exact .slnil
  | cons a _ ih => exact ih.trans (List.sublist_append_right _ _)
  | cons_cons a _ ih => exact (List.Sublist.refl _).append ih
theorem Holds.sub {T' : Tmp} (h : Holds K e env T F σ H) (s : T'.Sublist T) : Holds K e env T' F σ H := by
  have so : (ownedT T').Sublist (ownedT T) := ownedT_sub s
  have sa : (ownedE env ++ ownedT T').Sublist (ownedE env ++ ownedT T) := (List.Sublist.refl _).append so
  exact ⟨h.fh, h.len, h.slots, fun p hp => h.temps p (s.subset hp), h.nd.sublist sa, h.s1, h.s2, fun a ha => h.s3 a (sa.subset ha)⟩
theorem Holds.pop {p : V × Sl} (h : Holds K e env (p :: T) F σ H) : Holds K e env T F σ H := h.sub (List.sublist_cons_self _ _)
theorem splitE {env : Env'} {i : Nat} {sl : Sl} (h : env[i]? = some sl) : ∃ A B, ownedE env = A ++ (sl.owned ++ B) ∧ ∀ sl', ownedE (env.set i sl') = A ++ (Sl.owned sl' ++ B) := by
  obtain ⟨hi, rfl⟩ := List.getElem?_eq_some_iff.mp h
  refine ⟨ownedE (env.take i), ownedE (env.drop (i + 1)), ?_, fun sl' => ?_⟩
  · have z : env = env.take i ++ env[i] :: env.drop (i + 1) := by
      rw [List.getElem_cons_drop, List.take_append_drop]
    have y := congrArg ownedE z
    rw [y]
    unfold ownedE
    rw [List.flatMap_append, List.flatMap_cons]
  · rw [List.set_eq_take_append_cons_drop, if_pos hi]
    unfold ownedE
    rw [List.flatMap_append, List.flatMap_cons]
theorem owned_two {env : Env'} {X : List Addr} {i j : Nat} {s1 s2 : Sl} {a : Addr} (nd : (ownedE env ++ X).Nodup) (h1 : env[i]? = some s1) (h2 : env[j]? = some s2) (m1 : a ∈ s1.owned) (m2 : a ∈ s2.owned) : i = j := by
  obtain ⟨A, B, e1, e2⟩ := splitE h1
  rcases Nat.lt_trichotomy i j with h | h | h
  · exfalso
    obtain ⟨hi, rfl⟩ := List.getElem?_eq_some_iff.mp h1
    obtain ⟨hj, rfl⟩ := List.getElem?_eq_some_iff.mp h2
    have z : env = env.take j ++ env[j] :: env.drop (j + 1) := by rw [List.getElem_cons_drop, List.take_append_drop]
    have y : ownedE env = ownedE (env.take j) ++ (env[j].owned ++ ownedE (env.drop (j + 1))) := by
      have y := congrArg ownedE z
      rw [y]
      unfold ownedE
      rw [List.flatMap_append, List.flatMap_cons]
    rw [y, List.append_assoc] at nd
    have q := (List.nodup_append.mp nd).2.2
    refine q a (List.mem_flatMap.mpr ⟨env[i], ?_, m1⟩) a (List.mem_append_left _ (List.mem_append_left _ m2)) rfl
    exact List.mem_iff_getElem?.mpr ⟨i, by rw [List.getElem?_take_of_lt h]; exact List.getElem?_eq_getElem hi⟩
  · exact h
  · exfalso
    obtain ⟨hi, rfl⟩ := List.getElem?_eq_some_iff.mp h1
    obtain ⟨hj, rfl⟩ := List.getElem?_eq_some_iff.mp h2
    have z : env = env.take i ++ env[i] :: env.drop (i + 1) := by rw [List.getElem_cons_drop, List.take_append_drop]
    have y : ownedE env = ownedE (env.take i) ++ (env[i].owned ++ ownedE (env.drop (i + 1))) := by
      have y := congrArg ownedE z
      rw [y]
      unfold ownedE
      rw [List.flatMap_append, List.flatMap_cons]
    rw [y, List.append_assoc] at nd
    have q := (List.nodup_append.mp nd).2.2
    refine q a (List.mem_flatMap.mpr ⟨env[j], ?_, m2⟩) a (List.mem_append_left _ (List.mem_append_left _ m1)) rfl
    exact List.mem_iff_getElem?.mpr ⟨j, by rw [List.getElem?_take_of_lt h]; exact List.getElem?_eq_getElem hj⟩
theorem mem_ownedE {env : Env'} {i : Nat} {sl : Sl} {a : Addr} (h : env[i]? = some sl) (m : a ∈ sl.owned) : a ∈ ownedE env :=
  List.mem_flatMap.mpr ⟨sl, List.mem_iff_getElem?.mpr ⟨i, h⟩, m⟩
theorem SlOk.write {v : V} {a : Addr} {o : HO} : ∀ {sl : Sl}, a ∉ sl.owned → SlOk K F H v sl → SlOk K F (upd H a o) v sl
  | .un, _, _ => trivial
  | .ext _, _, h => h
  | .al _ _, _, h => h
  | .lst b ds, n, h => by
    obtain ⟨rfl, q, vs, hv, hr⟩ := h
    refine ⟨rfl, q, vs, ?_, hr⟩
    have nb : b ≠ a := fun z => n (by rw [z]; exact List.mem_singleton.mpr rfl)
    rw [upd_ne nb]
    exact hv
  | .ar _ _, _, h => h
  | .reg b cs, n, h => by
    obtain ⟨rd, nd, hc⟩ := h
    refine ⟨rd, nd, fun p hp => ?_⟩
    obtain ⟨q, o', ho, ok⟩ := hc p hp
    have nb : p.1 ≠ a := fun z => n (by rw [← z]; exact List.mem_map.mpr ⟨p, hp, rfl⟩)
    exact ⟨q, o', by rw [upd_ne nb]; exact ho, ok⟩
theorem Holds.write {i : Nat} {a : Addr} {ds ds' : List D} {vs' : List V} (h : Holds K e env T F σ H) (hi : env[i]? = some (.lst a ds)) (hr : Reps K F ds' vs') : Holds K e (env.set i (.lst a ds')) T F σ (upd H a (.lst vs')) := by
  obtain ⟨A, B, e1, e2⟩ := splitE hi
  have own : ownedE (env.set i (.lst a ds')) = ownedE env := by
    rw [e1, e2]
    rfl
  have ma : a ∈ ownedE env := mem_ownedE hi (List.mem_singleton.mpr rfl)
  have mm : a ∈ ownedE env ++ ownedT T := List.mem_append_left _ ma
  obtain ⟨Fn, _⟩ := h.ownedH a mm
  refine ⟨fun b o q => ?_, by rw [List.length_set]; exact h.len, fun j sl q => ?_, fun p hp => (h.temps p hp).write fun m => ?_, by rw [own]; exact h.nd, h.s1, fun b o q n => ?_, by rw [own]; exact h.s3⟩
  · have nb : b ≠ a := fun z => by
      rw [z, Fn] at q
      cases q
    rw [upd_ne nb]
    exact h.fh b o q
  · rw [List.getElem?_set] at q
    split at q
    · rename_i ij
      subst ij
      split at q
      · cases q
        right
        rcases h.slots i _ hi with z | ⟨v, hv, rfl, q1, _⟩
        · cases z
        · exact ⟨_, hv, rfl, q1, vs', upd_same, hr⟩
      · cases q
    · rename_i ij
      rcases h.slots j sl q with z | ⟨v, hv, ok⟩
      · exact .inl z
      · refine .inr ⟨v, hv, ok.write fun m => ij (owned_two h.nd hi q (List.mem_singleton.mpr rfl) m)⟩
  · exact (List.nodup_append.mp h.nd).2.2 a ma a (List.mem_flatMap.mpr ⟨p, hp, m⟩) rfl
  · have nb : b ≠ a := fun z => by
      subst z
      rcases h.s3 b mm with y | y
      · exact n y
      · rw [q] at y
        cases y
    rw [upd_ne nb]
    exact h.s2 b o q n
theorem Holds.writeT {v : V} {a : Addr} {ds ds' : List D} {vs' : List V} (h : Holds K e env ((v, .lst a ds) :: T) F σ H) (hr : Reps K F ds' vs') : Holds K e env ((v, .lst a ds') :: T) F σ (upd H a (.lst vs')) := by
  have mT : a ∈ ownedT ((v, Sl.lst a ds) :: T) := List.mem_append_left _ (List.mem_singleton.mpr rfl)
  have mm : a ∈ ownedE env ++ ownedT ((v, Sl.lst a ds) :: T) := List.mem_append_right _ mT
  obtain ⟨Fn, _⟩ := h.ownedH a mm
  have z3 := (List.nodup_append.mp h.nd).2.2
  have zT : ([a] ++ ownedT T).Nodup := (List.nodup_append.mp h.nd).2.1
  refine ⟨fun b o q => ?_, h.len, fun j sl q => ?_, fun p hp => ?_, h.nd, h.s1, fun b o q n => ?_, h.s3⟩
  · have nb : b ≠ a := fun z => by
      rw [z, Fn] at q
      cases q
    rw [upd_ne nb]
    exact h.fh b o q
  · rcases h.slots j sl q with z | ⟨w, hw, ok⟩
    · exact .inl z
    · exact .inr ⟨w, hw, ok.write fun m => z3 a (mem_ownedE q m) a mT rfl⟩
  · rcases List.mem_cons.mp hp with rfl | hp
    · obtain ⟨rfl, q1, _⟩ := h.temps (v, .lst a ds) List.mem_cons_self
      exact ⟨rfl, q1, vs', upd_same, hr⟩
    · refine (h.temps p (List.mem_cons_of_mem _ hp)).write fun m => ?_
      exact (List.nodup_append.mp zT).2.2 a (List.mem_singleton.mpr rfl) a (List.mem_flatMap.mpr ⟨p, hp, m⟩) rfl
  · have nb : b ≠ a := fun z => by
      subst z
      rcases h.s3 b mm with y | y
      · exact n y
      · rw [q] at y
        cases y
    rw [upd_ne nb]
    exact h.s2 b o q n
theorem SlOk.freeze {v : V} {a : Addr} {vs : List V} (hF : F a = none) : ∀ {sl : Sl}, a ∉ sl.owned → SlOk K F H v sl → SlOk K (upd F a (.lst vs)) H v sl := by
  have sm : Same F (upd F a (.lst vs)) := fun b o q => by
    rw [upd_ne (ne_of_none q hF)]
    exact q
  intro sl n h
  cases sl with
  | un => trivial
  | ext d => exact Rep.same sm h
  | al i b => exact h
  | lst b ds =>
    obtain ⟨rfl, q, us, hv, hr⟩ := h
    refine ⟨rfl, ?_, us, hv, hr.same sm⟩
    have nb : b ≠ a := fun z => n (by rw [z]; exact List.mem_singleton.mpr rfl)
    rw [upd_ne nb]
    exact q
  | ar i b => exact h
  | reg b cs =>
    obtain ⟨rd, nd, hc⟩ := h
    refine ⟨Rep.same sm rd, nd, fun p hp => ?_⟩
    obtain ⟨q, o', ho, ok⟩ := hc p hp
    have nb : p.1 ≠ a := fun z => n (by rw [← z]; exact List.mem_map.mpr ⟨p, hp, rfl⟩)
    exact ⟨by rw [upd_ne nb]; exact q, o', ho, ok.same sm⟩
theorem Holds.freezeT {v : V} {a : Addr} {ds : List D} (h : Holds K e env ((v, .lst a ds) :: T) F σ H) : ∃ F1, Same F F1 ∧ Holds K e env ((v, .ext (.lst ds)) :: T) F1 σ H := by
  have mT : a ∈ ownedT ((v, Sl.lst a ds) :: T) := List.mem_append_left _ (List.mem_singleton.mpr rfl)
  have mm : a ∈ ownedE env ++ ownedT ((v, Sl.lst a ds) :: T) := List.mem_append_right _ mT
  obtain ⟨rfl, hF, vs, hv, hr⟩ := h.temps (v, .lst a ds) List.mem_cons_self
  have z3 := (List.nodup_append.mp h.nd).2.2
  have zT : ([a] ++ ownedT T).Nodup := (List.nodup_append.mp h.nd).2.1
  have hF : F a = none := hF
  have sm : Same F (upd F a (.lst vs)) := fun b o q => by
    rw [upd_ne (ne_of_none q hF)]
    exact q
  have sub : (ownedE env ++ ownedT ((V.ref a, Sl.ext (.lst ds)) :: T)).Sublist (ownedE env ++ ownedT ((V.ref a, Sl.lst a ds) :: T)) :=
    (List.Sublist.refl _).append (List.sublist_append_right [a] (ownedT T))
  refine ⟨upd F a (.lst vs), sm, fun b o q => ?_, h.len, fun j sl q => ?_, fun p hp => ?_, h.nd.sublist sub, h.s1.trans sm, fun b o q n => ?_, fun b hb => h.s3 b (sub.subset hb)⟩
  · by_cases nb : b = a
    · rw [nb, upd_same] at q
      rw [nb, hv]
      exact q
    · rw [upd_ne nb] at q
      exact h.fh b o q
  · rcases h.slots j sl q with z | ⟨w, hw, ok⟩
    · exact .inl z
    · exact .inr ⟨w, hw, ok.freeze hF fun m => z3 a (mem_ownedE q m) a mT rfl⟩
  · rcases List.mem_cons.mp hp with rfl | hp
    · exact ⟨a, vs, rfl, upd_same, hr.same sm⟩
    · refine (h.temps p (List.mem_cons_of_mem _ hp)).freeze hF fun m => ?_
      exact (List.nodup_append.mp zT).2.2 a (List.mem_singleton.mpr rfl) a (List.mem_flatMap.mpr ⟨p, hp, m⟩) rfl
  · have nb : b ≠ a := fun z => by
      subst z
      rcases h.s3 b mm with y | y
      · exact n y
      · rw [q] at y
        cases y
    rw [upd_ne nb]
    exact h.s2 b o q n
theorem Holds.unset (h : Holds K e env T F σ H) (i : Nat) : Holds K e (env.set i .un) T F σ H := by
  by_cases hl : i < env.length
  · obtain ⟨A, B, e1, e2⟩ := splitE (List.getElem?_eq_getElem hl)
    have sub : (ownedE (env.set i .un) ++ ownedT T).Sublist (ownedE env ++ ownedT T) := by
      rw [e2, e1]
      exact ((List.Sublist.refl _).append (List.sublist_append_right _ _)).append (List.Sublist.refl _)
    refine ⟨h.fh, by rw [List.length_set]; exact h.len, fun j sl q => ?_, h.temps, h.nd.sublist sub, h.s1, h.s2, fun a ha => h.s3 a (sub.subset ha)⟩
    rw [List.getElem?_set] at q
    split at q
    · cases q
      exact .inl rfl
    · exact h.slots j sl q
  · rw [List.set_eq_of_length_le (by omega)]
    exact h
def Sl.plain : Sl → Prop
  | .al _ _ => False
  | .ar _ _ => False
  | _ => True
theorem Holds.assign {v : V} {sl : Sl} (h : Holds K e env ((v, sl) :: T) F σ H) (i : Nat) (hp : sl.plain) : Holds K e (env.set i sl) T F (σ.set i (some v)) H := by
  by_cases hl : i < env.length
  · obtain ⟨A, B, e1, e2⟩ := splitE (List.getElem?_eq_getElem hl)
    have sub : (A ++ B ++ (sl.owned ++ ownedT T)).Sublist (ownedE env ++ ownedT ((v, sl) :: T)) := by
      rw [e1]
      exact ((List.Sublist.refl _).append (List.sublist_append_right _ _)).append (List.Sublist.refl _)
    have perm : (A ++ B ++ (sl.owned ++ ownedT T)).Perm (ownedE (env.set i sl) ++ ownedT T) := by
      rw [e2, List.append_assoc, List.append_assoc]
      refine List.Perm.append_left A ?_
      rw [List.append_assoc, ← List.append_assoc, ← List.append_assoc]
      exact List.Perm.append_right _ List.perm_append_comm
    refine ⟨h.fh, by rw [List.length_set, List.length_set]; exact h.len, fun j s q => ?_, fun p hp => h.temps p (List.mem_cons_of_mem _ hp), perm.nodup (h.nd.sublist sub), h.s1, h.s2, fun a ha => h.s3 a (sub.subset (perm.mem_iff.mpr ha))⟩
    rw [List.getElem?_set] at q
    rw [List.getElem?_set]
    split at q
    · rename_i ij
      rw [if_pos ij, if_pos (by rw [← h.len]; exact hl)]
      cases q
      exact .inr ⟨v, rfl, h.temps (v, sl) List.mem_cons_self⟩
    · rename_i ij
      rw [if_neg ij]
      exact h.slots j s q
  · rw [List.set_eq_of_length_le (by omega), List.set_eq_of_length_le (by rw [← h.len]; omega)]
    exact h.pop
theorem Holds.take {i : Nat} {sl : Sl} {v : V} (h : Holds K e env T F σ H) (hi : env[i]? = some sl) (hv : σ[i]? = some (some v)) : Holds K e (env.set i .un) ((v, sl) :: T) F σ H := by
  obtain ⟨A, B, e1, e2⟩ := splitE hi
  have perm : (ownedE env ++ ownedT T).Perm (ownedE (env.set i .un) ++ ownedT ((v, sl) :: T)) := by
    rw [e1, e2]
    show (A ++ (sl.owned ++ B) ++ ownedT T).Perm (A ++ ([] ++ B) ++ (sl.owned ++ ownedT T))
    rw [List.append_assoc, List.append_assoc, List.nil_append, List.append_assoc]
    refine List.Perm.append_left A ?_
    rw [← List.append_assoc, ← List.append_assoc]
    exact List.Perm.append_right _ List.perm_append_comm
  refine ⟨h.fh, by rw [List.length_set]; exact h.len, (h.unset i).slots, fun p hp => ?_, perm.nodup h.nd, h.s1, h.s2, fun a ha => h.s3 a (perm.mem_iff.mpr ha)⟩
  rcases List.mem_cons.mp hp with rfl | hp
  · rcases h.slots i sl hi with z | ⟨w, hw, ok⟩
    · subst z
      trivial
    · rw [hv] at hw
      cases hw
      exact ok
  · exact h.temps p hp
theorem Holds.freeze {i : Nat} {a : Addr} {ds : List D} (h : Holds K e env T F σ H) (hi : env[i]? = some (.lst a ds)) : ∃ F1, Same F F1 ∧ Holds K e (env.set i (.ext (.lst ds))) T F1 σ H := by
  rcases h.slots i _ hi with z | ⟨v, hv, ok⟩
  · cases z
  · obtain ⟨F1, sm, h1⟩ := (h.take hi hv).freezeT
    have h2 := h1.assign i trivial
    rw [List.set_set] at h2
    have z : σ.set i (some v) = σ := by
      obtain ⟨hl, e⟩ := List.getElem?_eq_some_iff.mp hv
      rw [← e]
      exact List.set_getElem_self hl
    rw [z] at h2
    exact ⟨F1, sm, h2⟩
theorem Holds.bare (h : Holds K e env T F σ H) : Holds K e env [] F σ H := h.sub (List.nil_sublist _)
end
end HD
namespace HD
open PySem PySem.Spec PyProof.Rows L2
structure FnG (P : Program) (w : World) (K : PySem.W.Frag) (mg : Str → Option Value) (base : Heap) (C : CXT) (k : Nat) (f : Addr) (fd : FuncData) (ps : List Str) (sp : Sp) : Prop where
  fit : ∀ vs H Q E, sp vs H Q E → vs.length = ps.length
  go : ∀ (A : Around) (out : List Env) (t : Shared) (H : Hp) (args : Args) (us : List Value) (vs : List V) (Q : VK) (E : XK), A.guards = some [] → Room k A → Env0 P w K mg base A out t H → BindsTo t fd args (ps.zip us) → Vals vs us → sp vs H Q E →
    codeAny (model P w) A (.call (.ref f) args) (CR C out P w H t Q E) t
section
variable {P : Program} {w : World} {K : PySem.W.Frag} {mg : Str → Option Value} {base : Heap} {C : CXT} {k : Nat} {f : Addr} {fd : FuncData} {N ps : List Str} {sp : Sp} {x qual : Str} {st : Stmt}
theorem fnG_of (hF : Fun K x qual st f fd) (S : FnScope N ps (defScope st)) (fit : ∀ vs H Q E, sp vs H Q E → vs.length = ps.length)
    (body : ∀ (cd : Value) (A : Around) (out : List Env) (t : Shared) (H : Hp) (vs : List V) (Q : VK) (E : XK), A.guards = some [] → Room k (A.deeper (envOfC qual (defScope st) t.heap.objs.size f cd)) → sp vs H Q E →
      ∃ tt, PSs (cxOf C P w K mg base N qual (defScope st) f cd A out t H E) (defBody st) tt ∧ tt { nx := fun _ H' => Q .non H', rt := Q } (L2.start N vs) H) : FnG P w K mg base C (k + 1) f fd ps sp := by
  obtain ⟨oc, od, kV, doc, pm, an, cd, ct, osl, rfl, at_f, code⟩ := hF.ex
  refine ⟨fit, fun A out t H args us vs Q E gd room e0 bnd rel hsp => ?_⟩
  have inK : K.In t.heap := e0.mod.kin.keeps fun b o q => (e0.bs b o q).1
  have noLim : t.heap.NoLimit := e0.mod.nolimit.keeps fun b o q => (e0.bs b o q).1
  refine codeAny_call_function room.depth (inK _ _ at_f) rfl S.co S.gen rfl (PySem.W.codeRec_of inK code) (bnd _ _ _ _ ?_)
  refine wpAny_newFunctionEnv_cells S.kind (fun y hy => ?_) fun env he t1 call => ?_
  · obtain ⟨nm, v⟩ := y
    rcases S.par nm (List.of_mem_zip hy).1 with z | z
    · exact Or.inl z
    · exact Or.inr ⟨z, PySem.W.cellsFrom_some _ _ _ (.inl z)⟩
  · subst he
    refine ⟨noLim.keeps call.toInCall.keep, codeAny_func ?_⟩
    obtain ⟨tt, hb, hq⟩ := body cd A out t H vs Q E gd (room.deeper _) hsp
    have J : L2.Inv (cxOf C P w K mg base N qual (defScope st) f cd A out t H E) [] (L2.start N vs) H t1 := inv_start S room.hd e0 (fit _ _ _ _ hsp) rel call
    refine wpAny_mono (hb.run [] t1 (L2.start N vs) H _ J hq) (fun fl t2 h2 => ?_) fun e t2 h2 => h2
    cases fl with
    | ret u =>
      obtain ⟨v, σ2, H2, J2, rv, q⟩ := h2
      exact ⟨v, H2, J2.os, J2.bare, J2.base, J2.hok, rv, q⟩
    | next =>
      obtain ⟨σ2, H2, J2, q⟩ := h2
      exact ⟨V.non, H2, J2.os, J2.bare, J2.base, J2.hok, rfl, q⟩
    | brk => exact h2.elim fun _ z => z.elim fun _ z => z.2.elim
    | cont => exact h2.elim fun _ z => z.elim fun _ z => z.2.elim
end
section
variable {X : Cx} {C : CXT} {k : Nat} {f : Addr} {fd : FuncData} {ps : List Str} {sp : Sp} {E : L2.St → XK}
theorem runG {pins : List (Addr × Obj)} {σ : L2.St} {H : Hp} {t : Shared} {Q : VK} {us : List Value} {vs : List V} (F : FnG X.prog X.w X.K X.mg X.base C k f fd ps sp) (gd : X.A.guards = some []) (room : Room k X.A) (bnd : Binds X.K fd ps []) (pass : PassesAt C X σ (E σ))
    (J : L2.Inv X pins σ H t) (rel : Vals vs us) (h : sp vs H Q (E σ)) : wpAny (model X.prog X.w) X.A (call (.ref f) us) (EP X pins σ Q) X.xe t := by
  have l1 : us.length = ps.length := by rw [← rel.length]; exact F.fit _ _ _ _ h
  have b := bnd t us J.kIn (by rw [List.append_nil]; exact l1)
  rw [List.append_nil] at b
  refine wpAny_call (codeAny_mono (F.go X.A X.stack t H ⟨us, []⟩ us vs Q (E σ) gd room J.env0 b rel h) fun res t2 hres => ?_)
  cases res with
  | error e => exact pass pins H t e t2 J hres
  | ok fl =>
    cases fl with
    | ret u => exact J.after hres
    | next => exact hres.elim
    | brk => exact hres.elim
    | cont => exact hres.elim
end
theorem law_callG {P : Program} {w : World} {K : PySem.W.Frag} {mg mb : Str → Option Value} {C : CXT} {k : Nat} {fa a : Addr} {fd : FuncData} {x : Str} {sp : Sp} {t1 : Shared} {vs : List Value} {ns : List Int}
    (KX : K.In t1.heap) (hns : t1.heap.Ns mainGlobals mg) (hb : t1.heap.Ns builtinsNs mb) (hbb : ∀ y : Str, y ≠ "__name__" → mb y = bootBuiltins y) (lim : t1.heap.NoLimit) (hg : t1.gens = #[])
    (ha : t1.heap.get? a = some { cls := .type "list", data := .seq vs.toArray }) (hi : IntsAre vs ns) (hl : ns.length ≤ sizeLine) (room : Room k callerA)
    (F : ∀ base : Heap, K.In base → base.Ns mainGlobals mg → FnG P w K mg base C k fa fd [x] sp) (bnd : ∀ (s : Shared) (u : Value), BindsTo s fd ⟨[u], []⟩ [(x, u)])
    (hsp : ∀ H : Hp, L2.Only H → SqL K H a (ns.map V.int) → sp [.ref a] H (fun v _ => v = .bl true) fun _ _ _ => False)
    (noX : ∀ H e s', C [] H t1 (fun _ _ _ => False) e s' → False) :
    codeAny (model P w) callerA (.call (.ref fa) ⟨[.ref a], []⟩) (fun r s' => r = .ok (.ret (.bool true)) ∧ OldK t1.heap s'.heap ∧ s'.os = t1.os ∧ AllBare s'.gens) t1 := by
  have rv := vals_ints hi
  have lenV := hi.length
  have core : ∀ H : Hp, L2.Only H → SqL K H a (ns.map V.int) → HOk P w H t1.heap → (∀ b, H b ≠ none → b = a) → (H a ≠ none → K.lookup a = none) →
      codeAny (model P w) callerA (.call (.ref fa) ⟨[.ref a], []⟩) (fun r s' => r = .ok (.ret (.bool true)) ∧ OldK t1.heap s'.heap ∧ s'.os = t1.os ∧ AllBare s'.gens) t1 := by
    intro H only hS hok hA hK
    have up : ∀ {b : Addr} {o : Obj}, t1.heap.get? b = some o → H b = none → (hidT t1.heap H).get? b = some o := fun e n => hidT_get e n
    have notA : ∀ {b : Addr} {u : HO}, H b = some u → b = a := fun {b u} q => hA b (by rw [q]; simp)
    have dicts : ∀ {b : Addr} {o : Obj} {es : Array DictEntry} {ep : Nat}, t1.heap.get? b = some o → o.data = .dict es ep → H b = none := fun {b o es ep} e d => by
      cases q : H b with
      | none => rfl
      | some u =>
        have e1 := notA q
        subst e1
        rw [ha] at e
        cases e
        cases (show Data.seq vs.toArray _ = Data.dict es ep from d)
    have spaces : ∀ {b : Addr} {m : Str → Option Value}, t1.heap.Ns b m → (hidT t1.heap H).Ns b m := fun {b m} ⟨o, es, ep, e, d, r⟩ => ⟨o, es, ep, up e (dicts e d), d, r⟩
    have inB : K.In (hidT t1.heap H) := fun b o e => up (KX b o e) (by
      cases q : H b with
      | none => rfl
      | some u =>
        have e1 := notA q
        subst e1
        rw [hK (by rw [q]; simp)] at e
        cases e)
    have md : Mod K mg (hidT t1.heap H) := ⟨inB, spaces hns, ⟨mb, spaces hb, hbb⟩, let ⟨mc, h1, h2⟩ := lim; ⟨mc, spaces h1, h2⟩⟩
    have e0 : Env0 P w K mg (hidT t1.heap H) callerA [] t1 H := ⟨rfl, md, fun b o e => of_hidT e, Nat.le_of_eq (hidT_size _ _), True.intro, fun b hb => absurd (show b ∈ ([] : List Addr) from hb) (by simp), hok, .of_eq hg⟩
    refine codeAny_mono ((F _ inB (spaces hns)).go callerA [] t1 H ⟨[.ref a], []⟩ [.ref a] [.ref a] _ _ rfl room e0 (bnd t1 (.ref a)) (.cons rfl .nil) (hsp H only hS)) fun res t2 h => ?_
    cases res with
    | error e => exact (noX H e t2 h).elim
    | ok fl =>
      cases fl with
      | next => exact h.elim
      | brk => exact h.elim
      | cont => exact h.elim
      | ret u =>
        obtain ⟨v, H2, os, bare, un, hok2, r2, q⟩ := h
        cases (show v = .bl true from q)
        cases (show u = Value.bool true from r2)
        refine ⟨rfl, OldK.of_keep fun b o e => ?_, os, bare⟩
        cases q : H b with
        | none => exact un.keep b o e q (by intro z; exact absurd (show b ∈ ([] : List Addr) from z) (by simp)) (by simp)
        | some u =>
          rcases only b with z | ⟨ob, ys, z⟩
          · rw [q] at z; cases z
          · obtain ⟨y1, _⟩ := hok b _ z
            obtain ⟨y2, _⟩ := hok2 b _ (un.frzs b ob _ z)
            rw [e] at y1
            cases y1
            exact y2
  cases hk : K.lookup a with
  | some o =>
    have e := KX a o hk
    rw [ha] at e
    cases e
    exact core (fun _ => none) (fun _ => .inl rfl) (.inr ⟨_, vs.toArray, _, hk, rfl, rfl, rfl, by rw [List.size_toArray, lenV]; exact hl, by simpa using rv⟩) (fun b u z => by cases (show (none : Option HO) = some u from z)) (fun b z => absurd rfl z) fun z => absurd rfl z
  | none =>
    let o0 : Obj := { cls := .type "list", data := .seq vs.toArray }
    refine core (fun b => if b = a then some (.frz o0 (.lst (ns.map V.int))) else none) (fun b => ?_) (.inl (.inr ⟨o0, if_pos rfl⟩)) (fun b u z => ?_) (fun b z => ?_) fun _ => hk
    · by_cases q : b = a
      · exact .inr ⟨_, _, if_pos q⟩
      · exact .inl (if_neg q)
    · by_cases q : b = a
      · cases (if_pos q).symm.trans z
        subst q
        exact ⟨ha, by rw [List.length_map]; exact hl, vs, _, rv, ha⟩
      · cases (if_neg q).symm.trans z
    · by_cases q : b = a
      · exact q
      · exact absurd (if_neg q) z
end HD
namespace HD
open PySem L2
theorem ownedT_perm {T T' : Tmp} (p : T.Perm T') : (ownedT T).Perm (ownedT T') := by
  unfold ownedT
  induction p with
  | nil => exact .refl _
  | cons x _ ih => exact ih.append_left _
  | swap x y l =>
    rw [List.flatMap_cons, List.flatMap_cons, List.flatMap_cons, List.flatMap_cons, ← List.append_assoc, ← List.append_assoc]
    exact List.perm_append_comm.append_right _
  | trans _ _ i1 i2 => exact i1.trans i2
theorem Holds.perm {K : PySem.W.Frag} {e : Ent} {env : Env'} {T T' : Tmp} {F : Hp} {σ : St} {H : Hp} (h : Holds K e env T F σ H) (p : T.Perm T') : Holds K e env T' F σ H :=
  ⟨h.fh, h.len, h.slots, fun x hx => h.temps x (p.mem_iff.mpr hx), ((ownedT_perm p).append_left _).nodup h.nd, h.s1, h.s2, fun a ha => h.s3 a (((ownedT_perm p).append_left _).mem_iff.mpr ha)⟩
abbrev DX := Str → Env' → Prop
abbrev DT := DX → Env' → (Sl → Env' → Prop) → Prop
abbrev DTT := DX → Env' → (Bool → Env' → Prop) → Prop
abbrev DTA := DX → Env' → (List Sl → Env' → Prop) → Prop
def Link (K : PySem.W.Frag) (e : Ent) (W : WX) (Ex : DX) : Prop := ∀ c env F σ H, Holds K e env [] F σ H → Ex c env → W (clsV K c) none σ H
def Im (K : PySem.W.Frag) (W : WX) (te : TE) (t : DT) : Prop :=
  ∀ (e : Ent) (Ex : DX), Link K e W Ex → ∀ (env : Env') (T : Tmp) (F : Hp) (σ : St) (H : Hp) (Q : Sl → Env' → Prop) (R : VK),
    Holds K e env T F σ H → t Ex env Q → (∀ v H' F' env' sl, Holds K e env' ((v, sl) :: T) F' σ H' → Q sl env' → R v H') → te σ H R
def ImT (K : PySem.W.Frag) (W : WX) (tt : TT) (t : DTT) : Prop :=
  ∀ (e : Ent) (Ex : DX), Link K e W Ex → ∀ (env : Env') (T : Tmp) (F : Hp) (σ : St) (H : Hp) (Q : Bool → Env' → Prop) (R : Bool → Hp → Prop),
    Holds K e env T F σ H → t Ex env Q → (∀ b H' F' env', Holds K e env' T F' σ H' → Q b env' → R b H') → tt σ H R
def ImA (K : PySem.W.Frag) (W : WX) (ta : TA) (t : DTA) : Prop :=
  ∀ (e : Ent) (Ex : DX), Link K e W Ex → ∀ (env : Env') (T : Tmp) (F : Hp) (σ : St) (H : Hp) (Q : List Sl → Env' → Prop) (R : List V → Hp → Prop),
    Holds K e env T F σ H → t Ex env Q → (∀ vs H' F' env' xs, vs.length = xs.length → Holds K e env' (vs.zip xs ++ T) F' σ H' → Q xs env' → R vs H') → ta σ H R
structure GG where
  P : Program
  w : World
  K : PySem.W.Frag
  mg : Str → Option Value
  base : Heap
structure SC where
  sc : Scope
  own : Str → Bool
  top : Bool
abbrev fnS (sc : Scope) : SC := ⟨sc, fun _ => true, true⟩
def relab (scope sc : Scope) : Scope :=
  { scope with names := scope.names.map fun (n, k) => if (k == .free && sc.kind == .function && sc.names.lookup n == some .cell) then (n, .cell) else (n, k) }
abbrev lcS (scope : Scope) (sc : SC) : SC := ⟨relab scope sc.sc, fun x => scope.names.lookup x == some .cell, false⟩
structure Sit (G : GG) (N : List Str) (sc : SC) (W : WX) (k : Nat) (X : Cx) : Prop where
  prog : X.prog = G.P
  w : X.w = G.w
  K : X.K = G.K
  mg : X.mg = G.mg
  base : X.base = G.base
  nms : X.N = N
  nd : N.Nodup
  scp : X.env.scope = sc.sc
  calm : X.calm = true
  room : Room k X.A
  tk : Takes X W
  fn : ∀ x, sc.own x = true → X.fn x = true
  own : PassesOwn (model X.prog X.w) X.A X.env X.xe
  stk : sc.top = true → X.stack = X.env :: X.outer ∧ X.env.frame = some X.env.locals
  gd : X.A.guards = some []
structure DE (G : GG) (N : List Str) (sc : SC) (k : Nat) (e : Expr) (t : DT) : Prop where
  ex : ∀ W : WX, ∃ te, (∀ X, Sit G N sc W k X → PE X e te) ∧ Im G.K W te t
structure DTe (G : GG) (N : List Str) (sc : SC) (k : Nat) (e : Expr) (t : DTT) : Prop where
  ex : ∀ W : WX, ∃ te, (∀ X, Sit G N sc W k X → PT X e te) ∧ ImT G.K W te t
structure DAs (G : GG) (N : List Str) (sc : SC) (k : Nat) (es : List Expr) (t : DTA) : Prop where
  ex : ∀ W : WX, ∃ te, (∀ X, Sit G N sc W k X → PA X es te) ∧ ImA G.K W te t
section
variable {G : GG} {N : List Str} {sc : SC} {k : Nat}
def dC (d : D) : DT := fun _ env Q => Q (.ext d) env
def dVar (i : Nat) : DT := fun _ env Q => match env[i]? with
  | some (.ext d) => Q (.ext d) env
  | some (.lst a _) => Q (.al i a) env
  | _ => False
theorem im_const {K : PySem.W.Frag} {W : WX} {v : V} {d : D} (h : ∀ F, Rep K F d v) : Im K W (tC v) (dC d) :=
  fun e Ex _ env T F σ H Q R hh ht hR => hR v H F env (.ext d) (hh.pushE (h F)) ht
theorem im_var {K : PySem.W.Frag} {W : WX} (i : Nat) : Im K W (tVar i) (dVar i) := fun e Ex _ env T F σ H Q R hh ht hR => by
  unfold dVar at ht
  split at ht
  · rename_i d q
    rcases hh.slots i _ q with z | ⟨v, hv, ok⟩
    · cases z
    · exact ⟨v, hv, hR v H F env (.ext d) (hh.pushE ok) ht⟩
  · rename_i a ds q
    rcases hh.slots i _ q with z | ⟨v, hv, ok⟩
    · cases z
    · obtain ⟨rfl, _⟩ := ok
      exact ⟨_, hv, hR _ H F env (.al i a) hh.pushA ht⟩
  · exact ht.elim
theorem Sit.vis {W : WX} {X : Cx} {x : Str} (S : Sit G N sc W k X) (h : Vis sc.sc x) : Vis X.env.scope x := by rw [S.scp]; exact h
theorem de_var (i : Nat) {x : Str} {pos : Pos} (hN : N[i]? = some x := by rfl) (hv : Vis sc.sc x := by first | exact Or.inl rfl | exact Or.inr (Or.inl rfl) | exact Or.inr (Or.inr rfl))
    (hd : (x == ("__debug__" : Str)) = false := by decide) (hcd : (x == ("__classdict__" : Str)) = false := by decide) : DE G N sc k (.Name x pos) (dVar i) :=
  ⟨fun W => ⟨tVar i, fun X S => pe_var (by rw [S.nms]; exact hN) (S.vis hv) hd hcd, im_var i⟩⟩
theorem de_int {i j pos} : DE G N sc k (.Constant (.int i) j pos) (dC (.int i)) := ⟨fun _ => ⟨_, fun _ _ => pe_int, im_const fun _ => rfl⟩⟩
theorem de_bl {i j pos} : DE G N sc k (.Constant (.bool i) j pos) (dC (.bl i)) := ⟨fun _ => ⟨_, fun _ _ => pe_bl, im_const fun _ => rfl⟩⟩
theorem de_non {j pos} : DE G N sc k (.Constant .none j pos) (dC .non) := ⟨fun _ => ⟨_, fun _ _ => pe_non, im_const fun _ => rfl⟩⟩
theorem de_str {i j pos} : DE G N sc k (.Constant (.str i) j pos) (dC (.str i)) := ⟨fun _ => ⟨_, fun _ _ => pe_str, im_const fun _ => rfl⟩⟩
def GlS (sc : SC) (x : Str) : Prop := sc.sc.names.lookup x = some .globalImplicit
theorem Sit.gl {W : WX} {X : Cx} {x : Str} (S : Sit G N sc W k X) (h : GlS sc x) : Gl X x := by
  show X.env.scope.names.lookup x = some .globalImplicit
  rw [S.scp]
  exact h
theorem de_glob {x : Str} {v : V} {u : Value} {d : D} {pos : Pos} (hg : GlS sc x) (hm : G.mg x = some u) (r : RelV v u) (hr : ∀ F, Rep G.K F d v) (hd : (x == ("__debug__" : Str)) = false := by decide) : DE G N sc k (.Name x pos) (dC d) :=
  ⟨fun _ => ⟨tC v, fun X S => pe_glob (S.gl hg) (by rw [S.mg]; exact hm) r hd, im_const hr⟩⟩
theorem de_bltn {x : Str} {v : V} {u : Value} {pos : Pos} (hg : GlS sc x) (hm : G.mg x = none) (hv : bootBuiltins x = some u) (r : RelV v u) (hn : x ≠ "__name__" := by decide) (hd : (x == ("__debug__" : Str)) = false := by decide) : DE G N sc k (.Name x pos) (dC (.val v)) :=
  ⟨fun _ => ⟨tC v, fun X S => pe_bltn (S.gl hg) (by rw [S.mg]; exact hm) hv r hn hd, im_const fun _ => rfl⟩⟩
def dNil : DTA := fun _ env Q => Q [] env
def dCons (t : DT) (u : DTA) : DTA := fun Ex env Q => t Ex env fun x env1 => u Ex env1 fun xs env2 => Q (x :: xs) env2
theorem im_nil {K : PySem.W.Frag} {W : WX} : ImA K W tNil dNil := fun e Ex _ env T F σ H Q R hh ht hR => hR [] H F env [] rfl hh ht
theorem im_cons {K : PySem.W.Frag} {W : WX} {te : TE} {ta : TA} {t : DT} {u : DTA} (h1 : Im K W te t) (h2 : ImA K W ta u) : ImA K W (tCons te ta) (dCons t u) := fun e Ex hl env T F σ H Q R hh ht hR => by
  refine h1 e Ex hl env T F σ H _ _ hh ht fun v H1 F1 env1 sl hh1 q1 => ?_
  refine h2 e Ex hl env1 _ F1 σ H1 _ _ hh1 q1 fun vs H2 F2 env2 xs le hh2 q2 => ?_
  exact hR (v :: vs) H2 F2 env2 (sl :: xs) (by rw [List.length_cons, List.length_cons, le]) (hh2.perm List.perm_middle) q2
theorem da_nil : DAs G N sc k [] dNil := ⟨fun _ => ⟨tNil, fun _ _ => pa_nil, im_nil⟩⟩
abbrev NoStar (e : Expr) (es : List Expr) : Prop := ∀ env, starEach (e :: es) env = (false, eval e env) :: starEach es env
theorem da_cons {e : Expr} {es : List Expr} {t : DT} {u : DTA} (h1 : DE G N sc k e t) (h2 : DAs G N sc k es u) (hs : NoStar e es := by intro _; rfl) : DAs G N sc k (e :: es) (dCons t u) :=
  ⟨fun W => by
    obtain ⟨te, p1, i1⟩ := h1.ex W
    obtain ⟨ta, p2, i2⟩ := h2.ex W
    exact ⟨tCons te ta, fun X S => pa_cons (p1 X S) (p2 X S) (hs _), im_cons i1 i2⟩⟩
theorem cellOf_mem : ∀ {cs : List (Addr × OC)} {b : Addr} {oc : OC}, cellOf cs b = some oc → (b, oc) ∈ cs
  | [], _, _, h => nomatch h
  | p :: r, b, oc, h => by
    unfold cellOf at h
    split at h
    · rename_i e
      cases h
      rw [← e]
      exact List.mem_cons_self
    · exact List.mem_cons_of_mem _ (cellOf_mem h)
theorem Holds.cell {K : PySem.W.Frag} {e : Ent} {env : Env'} {T : Tmp} {F : Hp} {σ : St} {H : Hp} {i : Nat} {d : D} {cs : List (Addr × OC)} {b : Addr} {oc : OC} (h : Holds K e env T F σ H) (hi : env[i]? = some (.reg d cs)) (hc : cellOf cs b = some oc) : F b = none ∧ ∃ o, H b = some o ∧ OC.ok K F b oc o := by
  rcases h.slots i _ hi with z | ⟨v, _, _, _, ok⟩
  · cases z
  · exact ok (b, oc) (cellOf_mem hc)
def RepT (K : PySem.W.Frag) (F H : Hp) (d : D) (v : V) : Prop := Rep K F d v ∨ ∃ a ds vs, d = .lst ds ∧ v = .ref a ∧ H a = some (.lst vs) ∧ Reps K F ds vs
def RepTs (K : PySem.W.Frag) (F H : Hp) : List D → List V → Prop
  | [], vs => vs = []
  | d :: ds, vs => ∃ v r, vs = v :: r ∧ RepT K F H d v ∧ RepTs K F H ds r
def wd (env : Env') (sl : Sl) (k : D → Prop) : Prop := match sl with
  | .ext d => k d
  | .lst _ ds => k (.lst ds)
  | .al i a => match env[i]? with
    | some (.lst b ds) => b = a ∧ k (.lst ds)
    | _ => False
  | .un => False
  | .reg _ _ => False
  | .ar i b => match env[i]? with
    | some (.reg _ cs) => match cellOf cs b with
      | some (.lst ds) => k (.lst ds)
      | _ => False
    | _ => False
def wds (env : Env') : List Sl → (List D → Prop) → Prop
  | [], k => k []
  | s :: ss, k => wd env s fun d => wds env ss fun ds => k (d :: ds)
theorem Holds.wd {K : PySem.W.Frag} {e : Ent} {env : Env'} {T : Tmp} {F : Hp} {σ : St} {H : Hp} {v : V} {sl : Sl} {q : D → Prop} (h : Holds K e env T F σ H) (m : (v, sl) ∈ T) (w : HD.wd env sl q) : ∃ d, RepT K F H d v ∧ q d := by
  have ok := h.temps _ m
  cases sl with
  | un => exact w.elim
  | reg _ _ => exact w.elim
  | ar i b =>
    have w' : (match env[i]? with | some (.reg _ cs) => (match cellOf cs b with | some (.lst ds) => q (.lst ds) | _ => False) | _ => False) := w
    split at w'
    · rename_i d cs hb
      split at w'
      · rename_i ds hc
        obtain ⟨_, o, ho, vs, rfl, hr⟩ := h.cell hb hc
        exact ⟨.lst ds, .inr ⟨b, ds, vs, rfl, ok, ho, hr⟩, w'⟩
      · exact w'.elim
    · exact w'.elim
  | ext d => exact ⟨d, .inl ok, w⟩
  | lst a ds =>
    obtain ⟨e1, _, vs, hv, hr⟩ := ok
    exact ⟨.lst ds, .inr ⟨a, ds, vs, rfl, e1, hv, hr⟩, w⟩
  | al i a =>
    have w' : (match env[i]? with | some (.lst b ds) => b = a ∧ q (.lst ds) | _ => False) := w
    split at w'
    · rename_i b ds hb
      obtain ⟨rfl, w'⟩ := w'
      rcases h.slots i _ hb with z | ⟨u, hu, e1, _, vs, hv, hr⟩
      · cases z
      · exact ⟨.lst ds, .inr ⟨b, ds, vs, rfl, ok, hv, hr⟩, w'⟩
    · exact w'.elim
theorem Holds.wds {K : PySem.W.Frag} {e : Ent} {env : Env'} {T : Tmp} {F : Hp} {σ : St} {H : Hp} (h : Holds K e env T F σ H) : ∀ {vs : List V} {xs : List Sl} {q : List D → Prop}, vs.length = xs.length → (∀ p ∈ vs.zip xs, p ∈ T) → HD.wds env xs q → ∃ ds, RepTs K F H ds vs ∧ q ds
  | [], [], q, _, _, w => ⟨[], rfl, w⟩
  | [], _ :: _, _, e, _, _ => by cases e
  | _ :: _, [], _, e, _, _ => by cases e
  | v :: vs, x :: xs, q, e, m, w => by
    obtain ⟨d, r1, w1⟩ := h.wd (m (v, x) List.mem_cons_self) w
    obtain ⟨ds, r2, w2⟩ := Holds.wds h (by simpa using e) (fun p hp => m p (List.mem_cons_of_mem _ hp)) w1
    exact ⟨d :: ds, ⟨v, vs, rfl, r1, r2⟩, w2⟩
section
variable {K : PySem.W.Frag} {F H : Hp} {v : V}
theorem RepT.int {i : Int} (h : RepT K F H (.int i) v) : v = .int i := by
  rcases h with h | ⟨_, _, _, z, _⟩
  · exact h
  · cases z
theorem RepT.str {x : Str} (h : RepT K F H (.str x) v) : v = .str x := by
  rcases h with h | ⟨_, _, _, z, _⟩
  · exact h
  · cases z
theorem RepT.bl {x : Bool} (h : RepT K F H (.bl x) v) : v = .bl x := by
  rcases h with h | ⟨_, _, _, z, _⟩
  · exact h
  · cases z
theorem RepT.non (h : RepT K F H .non v) : v = .non := by
  rcases h with h | ⟨_, _, _, z, _⟩
  · exact h
  · cases z
theorem RepT.val {x : V} (h : RepT K F H (.val x) v) : v = x := by
  rcases h with h | ⟨_, _, _, z, _⟩
  · exact h
  · cases z
theorem RepT.tup {ds : List D} (fh : Same F H) (h : RepT K F H (.tup ds) v) : ∃ a vs, v = .ref a ∧ SqT K H a vs ∧ TupD K F a vs ∧ Reps K F ds vs := by
  rcases h with ⟨a, vs, e, hs, hr⟩ | ⟨_, _, _, z, _⟩
  · exact ⟨a, vs, e, SqT.same fh hs.sq, hs, hr⟩
  · cases z
theorem RepT.tk {ds : List D} (fh : Same F H) (h : RepT K F H (.tk ds) v) : ∃ a vs, v = .ref a ∧ SqT K H a vs ∧ SqT K F a vs ∧ Reps K F ds vs := by
  rcases h with ⟨a, vs, e, hs, hr⟩ | ⟨_, _, _, z, _⟩
  · exact ⟨a, vs, e, SqT.same fh hs, hs, hr⟩
  · cases z
theorem RepT.lst {ds : List D} (fh : Same F H) (h : RepT K F H (.lst ds) v) : ∃ a vs, v = .ref a ∧ H a = some (.lst vs) ∧ Reps K F ds vs := by
  rcases h with ⟨a, vs, e, hs, hr⟩ | ⟨a, ds', vs, z, e, hs, hr⟩
  · exact ⟨a, vs, e, fh _ _ hs, hr⟩
  · cases z
    exact ⟨a, vs, e, hs, hr⟩
theorem RepT.fz {ds : List D} (fh : Same F H) (h : RepT K F H (.fz ds) v) : ∃ a vs, v = .ref a ∧ SqL K H a vs ∧ Reps K F ds vs := by
  rcases h with ⟨a, vs, e, hs, hr⟩ | ⟨a, ds', vs, z, e, hs, hr⟩
  · exact ⟨a, vs, e, fh.seq hs, hr⟩
  · cases z
theorem RepT.rep {d : D} (fh : Same F H) (h : RepT K F H d v) : Rep K H d v := by
  rcases h with h | ⟨a, ds, vs, rfl, rfl, hs, hr⟩
  · exact Rep.same fh h
  · exact ⟨a, vs, rfl, hs, hr.same fh⟩
theorem RepTs.one {d : D} {vs : List V} (h : RepTs K F H [d] vs) : ∃ v, vs = [v] ∧ RepT K F H d v := by
  obtain ⟨v, r, rfl, h1, h2⟩ := h
  have z : r = [] := h2
  exact ⟨v, by rw [z], h1⟩
theorem RepTs.two {d d' : D} {vs : List V} (h : RepTs K F H [d, d'] vs) : ∃ v v', vs = [v, v'] ∧ RepT K F H d v ∧ RepT K F H d' v' := by
  obtain ⟨v, r, rfl, h1, h2⟩ := h
  obtain ⟨v', e, h3⟩ := RepTs.one h2
  exact ⟨v, v', by rw [e], h1, h3⟩
end
def After (K : PySem.W.Frag) (F H : Hp) (Q : Sl → Prop) (R : VK) : Prop :=
  ∀ v F1 H1 sl, Grow F H F1 H1 → SlOk K F1 H1 v sl → (∀ a ∈ sl.owned, H a = none) → Q sl → R v H1
def Pr (K : PySem.W.Frag) (r : List V → Hp → VK → Prop) (f : List D → (Sl → Prop) → Prop) : Prop :=
  ∀ F H vs ds (Q : Sl → Prop) (R : VK), Same F H → RepTs K F H ds vs → f ds Q → After K F H Q R → r vs H R
def Pr2 (K : PySem.W.Frag) (r : R2) (f : D → D → (Sl → Prop) → Prop) : Prop :=
  ∀ F H v u d d' (Q : Sl → Prop) (R : VK), Same F H → RepT K F H d v → RepT K F H d' u → f d d' Q → After K F H Q R → r v u H R
section
variable {K : PySem.W.Frag} {F H : Hp} {Q : Sl → Prop} {R : VK}
theorem After.ext (h : After K F H Q R) (fh : Same F H) {v : V} {d : D} (r : Rep K F d v) (q : Q (.ext d)) : R v H := h v F H (.ext d) (Grow.refl fh) r (fun _ z => nomatch z) q
theorem After.int (h : After K F H Q R) (fh : Same F H) {i : Int} (q : Q (.ext (.int i))) : R (.int i) H := h.ext (d := .int i) fh rfl q
theorem After.bl (h : After K F H Q R) (fh : Same F H) {i : Bool} (q : Q (.ext (.bl i))) : R (.bl i) H := h.ext (d := .bl i) fh rfl q
theorem After.str (h : After K F H Q R) (fh : Same F H) {i : Str} (q : Q (.ext (.str i))) : R (.str i) H := h.ext (d := .str i) fh rfl q
theorem After.lst (h : After K F H Q R) (fh : Same F H) {p : Addr} {ds : List D} {vs : List V} (n : H p = none) (r : Reps K F ds vs) (q : Q (.lst p ds)) : R (.ref p) (upd H p (.lst vs)) :=
  h _ F _ (.lst p ds) (Grow.loose fh n) ⟨rfl, fh.free n, vs, upd_same, r⟩ (fun a z => by rw [List.mem_singleton.mp z]; exact n) q
theorem After.tup (h : After K F H Q R) (fh : Same F H) {ds : List D} {vs : List V} (r : Reps K F ds vs) (q : Q (.ext (.tup ds))) : newT H vs R := fun p o n d =>
  h _ (upd F p (.frz o (.tup vs))) _ (.ext (.tup ds)) (Grow.frozen fh n) ⟨p, vs, rfl, .inl ⟨o, upd_same, d⟩, r.same (Grow.frozen fh n).ff⟩ (fun _ z => nomatch z) q
theorem After.more (h : After K F H Q R) {p : Addr} {o : HO} (fh : Same F H) (n : H p = none) : After K F (upd H p o) Q R := fun v F1 H1 sl g ok own q =>
  h v F1 H1 sl ((Grow.loose fh n).trans g) ok (fun a ha => (Grow.loose fh n).hh.free (own a ha)) q
end
theorem Holds.done {K : PySem.W.Frag} {e : Ent} {env : Env'} {T : Tmp} {F : Hp} {σ : St} {H : Hp} {Q : Sl → Env' → Prop} {R : VK} (h : Holds K e env T F σ H) (hR : ∀ v H' F' env' sl, Holds K e env' ((v, sl) :: T) F' σ H' → Q sl env' → R v H') : After K F H (fun sl => Q sl env) R :=
  fun v F1 H1 sl g ok own q => hR v H1 F1 env sl (h.push g ok own) q
def dOp (f : D → D → (Sl → Prop) → Prop) (ta tb : DT) : DT := fun Ex env Q => ta Ex env fun x env1 => tb Ex env1 fun y env2 => wd env2 x fun d => wd env2 y fun d' => f d d' fun sl => Q sl env2
theorem im_op {K : PySem.W.Frag} {W : WX} {r : R2} {f : D → D → (Sl → Prop) → Prop} {ta tb : TE} {sa sb : DT} (hr : Pr2 K r f) (ha : Im K W ta sa) (hb : Im K W tb sb) : Im K W (tOp r ta tb) (dOp f sa sb) := fun e Ex hl env T F σ H Q R hh ht hR => by
  refine ha e Ex hl env T F σ H _ _ hh ht fun v H1 F1 env1 x hh1 q1 => ?_
  refine hb e Ex hl env1 _ F1 σ H1 _ _ hh1 q1 fun u H2 F2 env2 y hh2 q2 => ?_
  obtain ⟨d, rd, q3⟩ := hh2.wd (v := v) (sl := x) (List.mem_cons_of_mem _ List.mem_cons_self) q2
  obtain ⟨d', rd', q4⟩ := hh2.wd (v := u) (sl := y) List.mem_cons_self q3
  exact hr F2 H2 v u d d' _ R hh2.fh rd rd' q4 (hh2.pop.pop.done hR)
theorem Sit.units {W : WX} {X : Cx} (S : Sit G N sc W k X) : X.A.units + 64 < cLine := S.room.units
end
end HD
namespace HD
open PySem L2
def fAdd : D → D → (Sl → Prop) → Prop
  | .int i, .int j, Q => Q (.ext (.int (i + j)))
  | .str x, .str y, Q => x.length + y.length ≤ sizeLine ∧ Q (.ext (.str (x ++ y)))
  | .lst xs, .lst ys, Q => xs.length + ys.length ≤ sizeLine ∧ ∀ a, Q (.lst a (xs ++ ys))
  | .tup xs, .tup ys, Q => xs.length + ys.length ≤ sizeLine ∧ Q (.ext (.tup (xs ++ ys)))
  | _, _, _ => False
def rAddD (K : PySem.W.Frag) : R2 := fun x y H Q => (rI0 fun i j => .int (i + j)) x y H Q ∨ (∃ i j, x = .str i ∧ y = .str j ∧ i.length + j.length ≤ sizeLine ∧ Q (.str (i ++ j)) H) ∨ rCat x y H Q ∨ rCatF K x y H Q
theorem op_addD {X : Cx} : OpR X (binaryOp .Add) (rAddD X.K) := op_add.or (op_add_str.or (op_cat.or op_catF))
theorem pr_add {K : PySem.W.Frag} : Pr2 K (rAddD K) fAdd := fun F H v u d d' Q R fh h1 h2 hf ha => by
  unfold fAdd at hf
  split at hf
  · exact .inl ⟨_, _, h1.int, h2.int, ha.int fh hf⟩
  · exact .inr (.inl ⟨_, _, h1.str, h2.str, hf.1, ha.str fh hf.2⟩)
  · obtain ⟨a, vs, rfl, e1, r1⟩ := h1.lst fh
    obtain ⟨b, us, rfl, e2, r2⟩ := h2.lst fh
    exact .inr (.inr (.inl ⟨a, b, vs, us, rfl, rfl, e1, e2, by rw [← r1.length, ← r2.length]; exact hf.1, fun p n => ha.lst fh n (r1.append r2) (hf.2 p)⟩))
  · obtain ⟨a, vs, rfl, e1, e1', r1⟩ := h1.tup fh
    obtain ⟨b, us, rfl, e2, e2', r2⟩ := h2.tup fh
    refine .inr (.inr (.inr ⟨a, b, vs, us, rfl, rfl, e1, e2, by rw [← r1.length, ← r2.length]; exact hf.1, fun z => ?_, fun _ z => ?_, fun _ _ => ha.tup fh (r1.append r2) hf.2⟩))
    · refine ha.ext (d := .tup _) fh ⟨b, us, rfl, e2', ?_⟩ hf.2
      have q := r1.append r2
      rw [z] at q
      exact q
    · refine ha.ext (d := .tup _) fh ⟨a, vs, rfl, e1', ?_⟩ hf.2
      have q := r1.append r2
      rw [z, List.append_nil] at q
      exact q
  · exact hf.elim
def fSub : D → D → (Sl → Prop) → Prop
  | .int i, .int j, Q => Q (.ext (.int (i - j)))
  | _, _, _ => False
theorem pr_sub {K : PySem.W.Frag} : Pr2 K (rI0 fun i j => .int (i - j)) fSub := fun F H v u d d' Q R fh h1 h2 hf ha => by
  unfold fSub at hf
  split at hf
  · exact ⟨_, _, h1.int, h2.int, ha.int fh hf⟩
  · exact hf.elim
def fMul : D → D → (Sl → Prop) → Prop
  | .int i, .int j, Q => CMulW i j ∧ Q (.ext (.int (i * j)))
  | .lst xs, .int k, Q => k < 2 ^ 63 ∧ 0 ≤ k ∧ xs.length * k.toNat ≤ sizeLine ∧ ∀ a, Q (.lst a (List.replicate k.toNat xs).flatten)
  | _, _, _ => False
theorem Reps.rep {K : PySem.W.Frag} {F : Hp} {ds : List D} {vs : List V} (h : Reps K F ds vs) : ∀ k : Nat, Reps K F (List.replicate k ds).flatten (List.replicate k vs).flatten
  | 0 => rfl
  | k + 1 => by
    rw [List.replicate_succ, List.replicate_succ, List.flatten_cons, List.flatten_cons]
    exact h.append (Reps.rep h k)
theorem pr_mul {K : PySem.W.Frag} : Pr2 K (fun x y H Q => (rI CMulW fun i j => .int (i * j)) x y H Q ∨ rRep x y H Q) fMul := fun F H v u d d' Q R fh h1 h2 hf ha => by
  unfold fMul at hf
  split at hf
  · exact .inl ⟨_, _, h1.int, h2.int, hf.1, ha.int fh hf.2⟩
  · obtain ⟨a, vs, rfl, e1, r1⟩ := h1.lst fh
    obtain ⟨hf1, hf0, hf2, hf3⟩ := hf
    exact .inr ⟨a, _, vs, rfl, h2.int, e1, Int.le_trans (by decide) hf0, hf1, by rw [← r1.length]; exact hf2, fun p n => ha.lst fh n (r1.rep _) (hf3 p)⟩
  · exact hf.elim
theorem op_mulD {X : Cx} : OpR X (binaryOp .Mult) (fun x y H Q => (rI CMulW fun i j => .int (i * j)) x y H Q ∨ rRep x y H Q) := op_mulW.or op_rep
def fDiv : D → D → (Sl → Prop) → Prop
  | .int i, .int j, Q => CDivW i j ∧ Q (.ext (.int (i / j)))
  | _, _, _ => False
theorem pr_div {K : PySem.W.Frag} : Pr2 K (rI CDivW fun i j => .int (i / j)) fDiv := fun F H v u d d' Q R fh h1 h2 hf ha => by
  unfold fDiv at hf
  split at hf
  · exact ⟨_, _, h1.int, h2.int, hf.1, ha.int fh hf.2⟩
  · exact hf.elim
def fMod : D → D → (Sl → Prop) → Prop
  | .int i, .int j, Q => 0 < j ∧ Q (.ext (.int (i % j)))
  | _, _, _ => False
theorem pr_mod {K : PySem.W.Frag} : Pr2 K (rI (fun _ j => 0 < j) fun i j => .int (i % j)) fMod := fun F H v u d d' Q R fh h1 h2 hf ha => by
  unfold fMod at hf
  split at hf
  · exact ⟨_, _, h1.int, h2.int, hf.1, ha.int fh hf.2⟩
  · exact hf.elim
def fPow : D → D → (Sl → Prop) → Prop
  | .int i, .int j, Q => CPow i j ∧ Q (.ext (.int (i ^ j.toNat)))
  | _, _, _ => False
theorem pr_pow {K : PySem.W.Frag} : Pr2 K (rI CPow fun i j => .int (i ^ j.toNat)) fPow := fun F H v u d d' Q R fh h1 h2 hf ha => by
  unfold fPow at hf
  split at hf
  · exact ⟨_, _, h1.int, h2.int, hf.1, ha.int fh hf.2⟩
  · exact hf.elim
section
variable {G : GG} {N : List Str} {sc : SC} {k : Nat} {a b : Expr} {ta tb : DT} {pos : Pos}
theorem de_bin {op : Operator} {r : PySem.W.Frag → R2} {f : D → D → (Sl → Prop) → Prop} (hr : ∀ K, Pr2 K (r K) f) (ho : ∀ X : Cx, OpR X (binaryOp op) (r X.K)) (ha : DE G N sc k a ta) (hb : DE G N sc k b tb) : DE G N sc k (.BinOp a op b pos) (dOp f ta tb) :=
  ⟨fun W => by
    obtain ⟨te, p1, i1⟩ := ha.ex W
    obtain ⟨tf, p2, i2⟩ := hb.ex W
    exact ⟨tOp (r G.K) te tf, fun X S => pe_op (by rw [← S.K]; exact ho X) (p1 X S) (p2 X S), im_op (hr _) i1 i2⟩⟩
theorem de_add (ha : DE G N sc k a ta) (hb : DE G N sc k b tb) : DE G N sc k (.BinOp a .Add b pos) (dOp fAdd ta tb) := de_bin (r := rAddD) (fun _ => pr_add) (fun _ => op_addD) ha hb
theorem de_sub (ha : DE G N sc k a ta) (hb : DE G N sc k b tb) : DE G N sc k (.BinOp a .Sub b pos) (dOp fSub ta tb) := de_bin (r := fun _ => _) (fun _ => pr_sub) (fun _ => op_sub) ha hb
theorem de_mul (ha : DE G N sc k a ta) (hb : DE G N sc k b tb) : DE G N sc k (.BinOp a .Mult b pos) (dOp fMul ta tb) := de_bin (r := fun _ => _) (fun _ => pr_mul) (fun _ => op_mulD) ha hb
theorem de_div (ha : DE G N sc k a ta) (hb : DE G N sc k b tb) : DE G N sc k (.BinOp a .FloorDiv b pos) (dOp fDiv ta tb) := de_bin (r := fun _ => _) (fun _ => pr_div) (fun _ => op_fdivW) ha hb
theorem de_mod (ha : DE G N sc k a ta) (hb : DE G N sc k b tb) : DE G N sc k (.BinOp a .Mod b pos) (dOp fMod ta tb) := de_bin (r := fun _ => _) (fun _ => pr_mod) (fun _ => op_mod) ha hb
theorem de_pow (ha : DE G N sc k a ta) (hb : DE G N sc k b tb) : DE G N sc k (.BinOp a .Pow b pos) (dOp fPow ta tb) := de_bin (r := fun _ => _) (fun _ => pr_pow) (fun _ => op_pow) ha hb
end
def dNeg (ta : DT) : DT := fun Ex env Q => ta Ex env fun x env1 => wd env1 x fun d => match d with
  | .int i => Q (.ext (.int (-i))) env1
  | _ => False
theorem de_neg {G : GG} {N : List Str} {sc : SC} {k : Nat} {a : Expr} {ta : DT} {pos : Pos} (ha : DE G N sc k a ta) : DE G N sc k (.UnaryOp .USub a pos) (dNeg ta) :=
  ⟨fun W => by
    obtain ⟨te, p1, i1⟩ := ha.ex W
    refine ⟨tUn (rU fun i => .int (-i)) te, fun X S => pe_un un_neg (p1 X S), fun e Ex hl env T F σ H Q R hh ht hR => ?_⟩
    refine i1 e Ex hl env T F σ H _ _ hh ht fun v H1 F1 env1 x hh1 q1 => ?_
    obtain ⟨d, rd, q3⟩ := hh1.wd (v := v) (sl := x) List.mem_cons_self q1
    cases d <;> first
      | exact q3.elim
      | exact ⟨_, rd.int, (hh1.pop.done hR).int hh1.fh q3⟩⟩
mutual
def D.py : D → PyData
  | .non => .none
  | .bl b => .bool b
  | .int i => .int i
  | .str x => .str x
  | .val _ => .none
  | .lst ds => .list (D.pys ds)
  | .fz ds => .list (D.pys ds)
  | .tup ds => .tuple (D.pys ds)
  | .tk ds => .tuple (D.pys ds)
  | .exc _ => .none
  | .glo _ => .none
  | .dk _ _ => .none
  | .dt _ _ => .none
def D.pys : List D → List PyData
  | [] => []
  | d :: ds => D.py d :: D.pys ds
end
mutual
def D.noVal : D → Bool
  | .val _ => false
  | .exc _ => false
  | .glo _ => false
  | .dk _ _ => false
  | .dt _ _ => false
  | .lst ds => D.noVals ds
  | .fz ds => D.noVals ds
  | .tup ds => D.noVals ds
  | .tk ds => D.noVals ds
  | _ => true
def D.noVals : List D → Bool
  | [] => true
  | d :: ds => D.noVal d && D.noVals ds
end
section
variable {K : PySem.W.Frag} {H : Hp}
mutual
theorem Rep.dp : ∀ {d : D} {v : V}, d.noVal = true → Rep K H d v → Dp K H v d.py
  | .non, _, _, h => by
    have e : _ = V.non := h
    rw [e]
    exact .non
  | .bl b, _, _, h => by
    have e : _ = V.bl b := h
    rw [e]
    exact .bl b
  | .int b, _, _, h => by
    have e : _ = V.int b := h
    rw [e]
    exact .int b
  | .str b, _, _, h => by
    have e : _ = V.str b := h
    rw [e]
    exact .str b
  | .val _, _, n, _ => nomatch n
  | .exc _, _, n, _ => nomatch n
  | .glo _, _, n, _ => nomatch n
  | .dk _ _, _, n, _ => nomatch n
  | .dt _ _, _, n, _ => nomatch n
  | .lst ds, _, n, h => by
    obtain ⟨a, xs, rfl, hs, hr⟩ := h
    exact .lst (SqL.of hs) (Reps.dp n hr)
  | .fz ds, _, n, h => by
    obtain ⟨a, xs, rfl, hs, hr⟩ := h
    exact .lst hs (Reps.dp n hr)
  | .tup ds, _, n, h => by
    obtain ⟨a, xs, rfl, hs, hr⟩ := h
    exact .tup hs.sq (Reps.dp n hr)
  | .tk ds, _, n, h => by
    obtain ⟨a, xs, rfl, hs, hr⟩ := h
    exact .tup hs (Reps.dp n hr)
theorem Reps.dp : ∀ {ds : List D} {vs : List V}, D.noVals ds = true → Reps K H ds vs → DpAll K H vs (D.pys ds)
  | [], _, _, h => by
    have e : _ = [] := h
    rw [e]
    exact .nil
  | d :: ds, _, n, h => by
    obtain ⟨v, r, rfl, h1, h2⟩ := h
    have n' : (D.noVal d && D.noVals ds) = true := n
    rw [Bool.and_eq_true] at n'
    exact .cons (Rep.dp n'.1 h1) (Reps.dp n'.2 h2)
end
end
def D.cmp (d : D) : Prop := d.noVal = true ∧ SeqAt.shaped d.py = true
def D.eqv (d e : D) : Bool := PyData.eqv d.py e.py
def fEq : D → D → (Sl → Prop) → Prop
  | .int i, .int j, Q => Q (.ext (.bl (i == j)))
  | .str i, .str j, Q => Q (.ext (.bl (i == j)))
  | .bl i, .bl j, Q => Q (.ext (.bl (i == j)))
  | d, e, Q => d.cmp ∧ e.cmp ∧ Q (.ext (.bl (d.eqv e)))
def fNe : D → D → (Sl → Prop) → Prop
  | .int i, .int j, Q => Q (.ext (.bl (!(i == j))))
  | .str i, .str j, Q => Q (.ext (.bl (!(i == j))))
  | .bl i, .bl j, Q => Q (.ext (.bl (!(i == j))))
  | d, e, Q => d.cmp ∧ e.cmp ∧ Q (.ext (.bl (!d.eqv e)))
def rEqA (K : PySem.W.Frag) : R2 := fun x y H Q => rEq x y H Q ∨ rEqD K x y H Q
def rNeA (K : PySem.W.Frag) : R2 := fun x y H Q => rNe x y H Q ∨ rNeD K x y H Q
theorem pr_eq {K : PySem.W.Frag} : Pr2 K (rEqA K) fEq := fun F H v u d d' Q R fh h1 h2 hf ha => by
  unfold fEq at hf
  split at hf
  · rw [h1.int, h2.int]
    exact .inl ⟨rfl, by rw [dec_int]; exact ha.bl fh hf⟩
  · rw [h1.str, h2.str]
    exact .inl ⟨rfl, by rw [dec_str]; exact ha.bl fh hf⟩
  · rw [h1.bl, h2.bl]
    exact .inl ⟨rfl, by rw [dec_bl]; exact ha.bl fh hf⟩
  · obtain ⟨c1, c2, q⟩ := hf
    exact .inr ⟨d.py, d'.py, Rep.dp c1.1 (h1.rep fh), Rep.dp c2.1 (h2.rep fh), c1.2, c2.2, ha.bl fh q⟩
theorem pr_ne {K : PySem.W.Frag} : Pr2 K (rNeA K) fNe := fun F H v u d d' Q R fh h1 h2 hf ha => by
  unfold fNe at hf
  split at hf
  · rw [h1.int, h2.int]
    exact .inl ⟨rfl, by rw [dec_int]; exact ha.bl fh hf⟩
  · rw [h1.str, h2.str]
    exact .inl ⟨rfl, by rw [dec_str]; exact ha.bl fh hf⟩
  · rw [h1.bl, h2.bl]
    exact .inl ⟨rfl, by rw [dec_bl]; exact ha.bl fh hf⟩
  · obtain ⟨c1, c2, q⟩ := hf
    exact .inr ⟨d.py, d'.py, Rep.dp c1.1 (h1.rep fh), Rep.dp c2.1 (h2.rep fh), c1.2, c2.2, ha.bl fh q⟩
def fCmp (p : Int → Int → Bool) : D → D → (Sl → Prop) → Prop
  | .int i, .int j, Q => Q (.ext (.bl (p i j)))
  | _, _, _ => False
theorem pr_cmp {K : PySem.W.Frag} {p : Int → Int → Bool} : Pr2 K (rI0 fun i j => .bl (p i j)) (fCmp p) := fun F H v u d d' Q R fh h1 h2 hf ha => by
  unfold fCmp at hf
  split at hf
  · exact ⟨_, _, h1.int, h2.int, ha.bl fh hf⟩
  · exact hf.elim
def D.flat : D → Bool
  | .non => true
  | .bl _ => true
  | .int _ => true
  | .str _ => true
  | _ => false
def D.toV : D → V
  | .non => .non
  | .bl b => .bl b
  | .int i => .int i
  | .str x => .str x
  | .val v => v
  | _ => .non
def D.isIn (x : D) (xs : List D) : Bool := inV x.toV (xs.map D.toV)
def fIn (neg : Bool) : D → D → (Sl → Prop) → Prop
  | d, .lst ds, Q => d.flat = true ∧ ds.all D.flat = true ∧ Q (.ext (.bl (if neg then !d.isIn ds else d.isIn ds)))
  | d, .tup ds, Q => d.flat = true ∧ ds.all D.flat = true ∧ Q (.ext (.bl (if neg then !d.isIn ds else d.isIn ds)))
  | _, _, _ => False
theorem flat_rep {K : PySem.W.Frag} {F : Hp} {d : D} {v : V} (h : Rep K F d v) (f : d.flat = true) : v = d.toV ∧ flatV v = true := by
  cases d with
  | non =>
    have e : v = .non := h
    rw [e]
    exact ⟨rfl, rfl⟩
  | bl b =>
    have e : v = .bl b := h
    rw [e]
    exact ⟨rfl, rfl⟩
  | int b =>
    have e : v = .int b := h
    rw [e]
    exact ⟨rfl, rfl⟩
  | str b =>
    have e : v = .str b := h
    rw [e]
    exact ⟨rfl, rfl⟩
  | val u => exact nomatch f
  | lst ds => exact nomatch f
  | fz ds => exact nomatch f
  | tup ds => exact nomatch f
  | tk ds => exact nomatch f
  | exc c => exact nomatch f
  | glo c => exact nomatch f
  | dk _ _ => exact nomatch f
  | dt _ _ => exact nomatch f
theorem flat_reps {K : PySem.W.Frag} {F : Hp} : ∀ {ds : List D} {vs : List V}, Reps K F ds vs → ds.all D.flat = true → vs = ds.map D.toV ∧ vs.all flatV = true
  | [], _, h, _ => by
    have e : _ = [] := h
    rw [e]
    exact ⟨rfl, rfl⟩
  | d :: ds, _, h, f => by
    obtain ⟨v, r, rfl, h1, h2⟩ := h
    rw [List.all_cons, Bool.and_eq_true] at f
    obtain ⟨e1, f1⟩ := flat_rep h1 f.1
    obtain ⟨e2, f2⟩ := flat_reps h2 f.2
    rw [List.all_cons, f1, f2, List.map_cons, ← e1, ← e2]
    exact ⟨rfl, rfl⟩
theorem pr_in {K : PySem.W.Frag} (neg : Bool) : Pr2 K (rIn K neg) (fIn neg) := fun F H v u d d' Q R fh h1 h2 hf ha => by
  unfold fIn at hf
  split at hf
  · rename_i ds
    obtain ⟨b, us, rfl, e2, r2⟩ := h2.lst fh
    obtain ⟨f1, f2, q⟩ := hf
    obtain ⟨x1, x2⟩ := flat_rep (h1.rep fh) f1
    obtain ⟨y1, y2⟩ := flat_reps r2 f2
    refine ⟨b, us, rfl, .inl (SqL.of e2), x2, y2, ?_⟩
    rw [x1, y1]
    exact ha.bl fh q
  · rename_i ds
    obtain ⟨b, us, rfl, e2, _, r2⟩ := h2.tup fh
    obtain ⟨f1, f2, q⟩ := hf
    obtain ⟨x1, x2⟩ := flat_rep (h1.rep fh) f1
    obtain ⟨y1, y2⟩ := flat_reps r2 f2
    refine ⟨b, us, rfl, .inr e2, x2, y2, ?_⟩
    rw [x1, y1]
    exact ha.bl fh q
  · exact hf.elim
section
variable {G : GG} {N : List Str} {sc : SC} {k : Nat} {a b c : Expr} {ta tb tc : DT} {pos : Pos}
def CmpR (op : CmpOp) (f : D → D → (Sl → Prop) → Prop) : Prop := ∃ r : PySem.W.Frag → R2, (∀ K, Pr2 K (r K) f) ∧ ∀ X : Cx, X.A.units + 64 < cLine → OpR X (compareOp op) (r X.K)
theorem c_eq : CmpR .Eq fEq := ⟨rEqA, fun _ => pr_eq, fun _ h => op_eq.or (op_eqD h)⟩
theorem c_ne : CmpR .NotEq fNe := ⟨rNeA, fun _ => pr_ne, fun _ h => op_ne.or (op_neD h)⟩
theorem c_lt : CmpR .Lt (fCmp fun i j => decide (i < j)) := ⟨fun _ => _, fun _ => pr_cmp, fun _ _ => op_lt⟩
theorem c_le : CmpR .LtE (fCmp fun i j => decide (i ≤ j)) := ⟨fun _ => _, fun _ => pr_cmp, fun _ _ => op_le⟩
theorem c_gt : CmpR .Gt (fCmp fun i j => decide (j < i)) := ⟨fun _ => _, fun _ => pr_cmp, fun _ _ => op_gt⟩
theorem c_ge : CmpR .GtE (fCmp fun i j => decide (j ≤ i)) := ⟨fun _ => _, fun _ => pr_cmp, fun _ _ => op_ge⟩
theorem c_in : CmpR .In (fIn false) := ⟨fun K => rIn K false, fun _ => pr_in false, fun _ _ => op_in_seq⟩
theorem c_notin : CmpR .NotIn (fIn true) := ⟨fun K => rIn K true, fun _ => pr_in true, fun _ _ => op_notIn_seq⟩
def D.knN : D → Bool
  | .val _ => false
  | _ => true
def D.isNon : D → Bool
  | .non => true
  | _ => false
def fIsN : D → D → (Sl → Prop) → Prop
  | d, .non, Q => d.knN = true ∧ Q (.ext (.bl d.isNon))
  | _, _, _ => False
theorem isN_dec {K : PySem.W.Frag} {F : Hp} {d : D} {v : V} (n : d.knN = true) (h : Rep K F d v) : decide (v = .non) = d.isNon := by
  cases d with
  | non =>
    have e : v = .non := h
    rw [e]
    rfl
  | val u => cases n
  | bl b =>
    have e : v = .bl b := h
    rw [e]
    rfl
  | int b =>
    have e : v = .int b := h
    rw [e]
    rfl
  | str b =>
    have e : v = .str b := h
    rw [e]
    exact decide_eq_false fun z => nomatch z
  | lst ds =>
    obtain ⟨a, xs, rfl, _⟩ := h
    rfl
  | fz ds =>
    obtain ⟨a, xs, rfl, _⟩ := h
    rfl
  | tup ds =>
    obtain ⟨a, xs, rfl, _⟩ := h
    rfl
  | tk ds =>
    obtain ⟨a, xs, rfl, _⟩ := h
    rfl
  | exc c =>
    obtain ⟨a, oe, rfl, _⟩ := h
    rfl
  | dk _ _ =>
    obtain ⟨a, _, _, rfl, _⟩ := h
    rfl
  | dt _ _ =>
    obtain ⟨a, _, _, rfl, _⟩ := h
    rfl
  | glo c =>
    have e : v = .ref _ := h
    rw [e]
    rfl
theorem c_is : CmpR .Is fIsN := ⟨fun _ => _, fun K F H v u d d' Q R fh h1 h2 hf ha => by
    unfold fIsN at hf
    split at hf
    · refine ⟨h2.non, ?_⟩
      rw [isN_dec hf.1 (h1.rep fh)]
      exact ha.bl fh hf.2
    · exact hf.elim, fun _ _ => op_isN⟩
def fNotN : D → D → (Sl → Prop) → Prop
  | d, .non, Q => d.knN = true ∧ Q (.ext (.bl (!d.isNon)))
  | _, _, _ => False
theorem de_cmp {op : CmpOp} {f : D → D → (Sl → Prop) → Prop} (hr : CmpR op f) (ha : DE G N sc k a ta) (hb : DE G N sc k b tb) (hm : behindInMarks op b = false := by first | exact nomark _ | rfl) : DE G N sc k (.Compare a [op] [b] pos) (dOp f ta tb) :=
  ⟨fun W => by
    obtain ⟨r, h1, h2⟩ := hr
    obtain ⟨te, p1, i1⟩ := ha.ex W
    obtain ⟨tf, p2, i2⟩ := hb.ex W
    exact ⟨tOp (r G.K) te tf, fun X S => pe_cmpR (by rw [← S.K]; exact h2 X S.units) (p1 X S) (p2 X S) hm, im_op (h1 _) i1 i2⟩⟩
def dTest (t : DT) : DTT := fun Ex env Q => t Ex env fun x env1 => match x with
  | .ext (.bl b) => Q b env1
  | _ => False
theorem imT_of {K : PySem.W.Frag} {W : WX} {te : TE} {t : DT} {tt : TT} (h : Im K W te t) (hs : ∀ σ H Q, te σ H (fun x H1 => ∃ c, x = .bl c ∧ Q c H1) → tt σ H Q) : ImT K W tt (dTest t) := fun e Ex hl env T F σ H Q R hh ht hR => by
  refine hs _ _ _ (h e Ex hl env T F σ H _ _ hh ht fun v H1 F1 env1 x hh1 q1 => ?_)
  cases x with
  | ext d =>
    cases d with
    | bl b => exact ⟨b, hh1.temps (v, .ext (.bl b)) List.mem_cons_self, hR b H1 F1 env1 hh1.pop q1⟩
    | _ => exact q1.elim
  | _ => exact q1.elim
theorem dt_cmp {op : CmpOp} {f : D → D → (Sl → Prop) → Prop} (hr : CmpR op f) (ha : DE G N sc k a ta) (hb : DE G N sc k b tb) (hm : behindInMarks op b = false := by first | exact nomark _ | rfl) : DTe G N sc k (.Compare a [op] [b] pos) (dTest (dOp f ta tb)) :=
  ⟨fun W => by
    obtain ⟨r, h1, h2⟩ := hr
    obtain ⟨te, p1, i1⟩ := ha.ex W
    obtain ⟨tf, p2, i2⟩ := hb.ex W
    exact ⟨tTest (tOp (r G.K) te tf), fun X S => pt_cmpR (by rw [← S.K]; exact h2 X S.units) (p1 X S) (p2 X S) hm, imT_of (im_op (h1 _) i1 i2) fun _ _ _ h => h⟩⟩
theorem dt_val {e : Expr} {t : DT} (h : DE G N sc k e t) (he : ∀ env whole, isTrue e env whole = (do let v ← whole; standAt e.pos; holding [v] (truthy v)) := by intro _ _; rfl) : DTe G N sc k e (dTest t) :=
  ⟨fun W => by
    obtain ⟨te, p1, i1⟩ := h.ex W
    exact ⟨tB te, fun X S => pt_val (p1 X S) (he _), imT_of i1 fun _ _ _ h => h⟩⟩
def dChain (f f' : D → D → (Sl → Prop) → Prop) (ta tb tc : DT) : DT := fun Ex env Q => ta Ex env fun x env1 => tb Ex env1 fun y env2 => wd env2 x fun d => wd env2 y fun d' => f d d' fun z => match z with
  | .ext (.bl true) => tc Ex env2 fun w env3 => wd env3 y fun d1 => wd env3 w fun d2 => f' d1 d2 fun sl => Q sl env3
  | .ext (.bl false) => Q (.ext (.bl false)) env2
  | _ => False
theorem de_chain {op op' : CmpOp} {f f' : D → D → (Sl → Prop) → Prop} (hr : CmpR op f) (hr' : CmpR op' f') (ha : DE G N sc k a ta) (hb : DE G N sc k b tb) (hc : DE G N sc k c tc)
    (hm : lastMarks [op, op'] [b, c] = false := by with_unfolding_all rfl) : DE G N sc k (.Compare a [op, op'] [b, c] pos) (dChain f f' ta tb tc) :=
  ⟨fun W => by
    obtain ⟨r, h1, h2⟩ := hr
    obtain ⟨r', h1', h2'⟩ := hr'
    obtain ⟨te, p1, i1⟩ := ha.ex W
    obtain ⟨tf, p2, i2⟩ := hb.ex W
    obtain ⟨tg, p3, i3⟩ := hc.ex W
    refine ⟨tChain (r G.K) (r' G.K) te tf tg, fun X S => pe_chain (by rw [← S.K]; exact h2 X S.units) (by rw [← S.K]; exact h2' X S.units) (p1 X S) (p2 X S) (p3 X S) hm, fun e Ex hl env T F σ H Q R hh ht hR => ?_⟩
    refine i1 e Ex hl env T F σ H _ _ hh ht fun v H1 F1 env1 x hh1 q1 => ?_
    refine i2 e Ex hl env1 _ F1 σ H1 _ _ hh1 q1 fun u H2 F2 env2 y hh2 q2 => ?_
    obtain ⟨d, rd, q3⟩ := hh2.wd (v := v) (sl := x) (List.mem_cons_of_mem _ List.mem_cons_self) q2
    obtain ⟨d', rd', q4⟩ := hh2.wd (v := u) (sl := y) List.mem_cons_self q3
    refine h1 _ F2 H2 v u d d' _ _ hh2.fh rd rd' q4 fun z F3 H3 sl g ok own q5 => ?_
    have hh3 := hh2.push g ok own
    cases sl with
    | ext dz =>
      cases dz with
      | bl bb =>
        refine ⟨bb, hh3.temps (z, .ext (.bl bb)) List.mem_cons_self, ?_⟩
        cases bb with
        | true =>
          rw [if_pos rfl]
          refine i3 e Ex hl env2 _ F3 σ H3 _ _ hh3.pop q5 fun w H4 F4 env4 x4 hh4 q6 => ?_
          obtain ⟨d1, rd1, q7⟩ := hh4.wd (v := u) (sl := y) (List.mem_cons_of_mem _ List.mem_cons_self) q6
          obtain ⟨d2, rd2, q8⟩ := hh4.wd (v := w) (sl := x4) List.mem_cons_self q7
          exact h1' _ F4 H4 u w d1 d2 _ R hh4.fh rd1 rd2 q8 (hh4.pop.pop.pop.done hR)
        | false =>
          rw [if_neg Bool.false_ne_true]
          exact hR (.bl false) H3 F3 env2 (.ext (.bl false)) (hh3.pop.pop.pop.pushE rfl) q5
      | _ => exact q5.elim
    | _ => exact q5.elim⟩
theorem dt_chain {op op' : CmpOp} {f f' : D → D → (Sl → Prop) → Prop} (hr : CmpR op f) (hr' : CmpR op' f') (ha : DE G N sc k a ta) (hb : DE G N sc k b tb) (hc : DE G N sc k c tc)
    (hm : lastMarks [op, op'] [b, c] = false := by with_unfolding_all rfl) : DTe G N sc k (.Compare a [op, op'] [b, c] pos) (dTest (dChain f f' ta tb tc)) :=
  ⟨fun W => by
    obtain ⟨r, h1, h2⟩ := hr
    obtain ⟨r', h1', h2'⟩ := hr'
    obtain ⟨te, p1, i1⟩ := ha.ex W
    obtain ⟨tf, p2, i2⟩ := hb.ex W
    obtain ⟨tg, p3, i3⟩ := hc.ex W
    refine ⟨tTest (tChain (r G.K) (r' G.K) te tf tg), fun X S => pt_chain (by rw [← S.K]; exact h2 X S.units) (by rw [← S.K]; exact h2' X S.units) (p1 X S) (p2 X S) (p3 X S) hm, imT_of (te := tChain (r G.K) (r' G.K) te tf tg) (fun e Ex hl env T F σ H Q R hh ht hR => ?_) fun _ _ _ h => h⟩
    refine i1 e Ex hl env T F σ H _ _ hh ht fun v H1 F1 env1 x hh1 q1 => ?_
    refine i2 e Ex hl env1 _ F1 σ H1 _ _ hh1 q1 fun u H2 F2 env2 y hh2 q2 => ?_
    obtain ⟨d, rd, q3⟩ := hh2.wd (v := v) (sl := x) (List.mem_cons_of_mem _ List.mem_cons_self) q2
    obtain ⟨d', rd', q4⟩ := hh2.wd (v := u) (sl := y) List.mem_cons_self q3
    refine h1 _ F2 H2 v u d d' _ _ hh2.fh rd rd' q4 fun z F3 H3 sl g ok own q5 => ?_
    have hh3 := hh2.push g ok own
    cases sl with
    | ext dz =>
      cases dz with
      | bl bb =>
        refine ⟨bb, hh3.temps (z, .ext (.bl bb)) List.mem_cons_self, ?_⟩
        cases bb with
        | true =>
          rw [if_pos rfl]
          refine i3 e Ex hl env2 _ F3 σ H3 _ _ hh3.pop q5 fun w H4 F4 env4 x4 hh4 q6 => ?_
          obtain ⟨d1, rd1, q7⟩ := hh4.wd (v := u) (sl := y) (List.mem_cons_of_mem _ List.mem_cons_self) q6
          obtain ⟨d2, rd2, q8⟩ := hh4.wd (v := w) (sl := x4) List.mem_cons_self q7
          exact h1' _ F4 H4 u w d1 d2 _ R hh4.fh rd1 rd2 q8 (hh4.pop.pop.pop.done hR)
        | false =>
          rw [if_neg Bool.false_ne_true]
          exact hR (.bl false) H3 F3 env2 (.ext (.bl false)) (hh3.pop.pop.pop.pushE rfl) q5
      | _ => exact q5.elim
    | _ => exact q5.elim⟩
def dAnd (t u : DTT) : DTT := fun Ex env Q => t Ex env fun b env1 => if b = true then u Ex env1 Q else Q false env1
def dOr (t u : DTT) : DTT := fun Ex env Q => t Ex env fun b env1 => if b = true then Q true env1 else u Ex env1 Q
def dNot (t : DTT) : DTT := fun Ex env Q => t Ex env fun b env1 => Q (!b) env1
structure DWe (G : GG) (N : List Str) (sc : SC) (k : Nat) (e : Expr) (t : DTT) : Prop where
  ex : ∀ W : WX, ∃ te, (∀ X, Sit G N sc W k X → PW X e te) ∧ ImT G.K W te t
variable {rest : List Expr} {t u : DTT}
theorem imT_and {K : PySem.W.Frag} {W : WX} {te tf : TT} (h : ImT K W te t) (g : ImT K W tf u) : ImT K W (tAnd te tf) (dAnd t u) := fun e Ex hl env T F σ H Q R hh ht hR => by
  refine h e Ex hl env T F σ H _ _ hh ht fun b H1 F1 env1 hh1 q1 => ?_
  cases b with
  | true =>
    rw [if_pos rfl] at q1 ⊢
    exact g e Ex hl env1 T F1 σ H1 _ _ hh1 q1 hR
  | false =>
    rw [if_neg Bool.false_ne_true] at q1 ⊢
    exact hR false H1 F1 env1 hh1 q1
theorem imT_or {K : PySem.W.Frag} {W : WX} {te tf : TT} (h : ImT K W te t) (g : ImT K W tf u) : ImT K W (tOr te tf) (dOr t u) := fun e Ex hl env T F σ H Q R hh ht hR => by
  refine h e Ex hl env T F σ H _ _ hh ht fun b H1 F1 env1 hh1 q1 => ?_
  cases b with
  | true =>
    rw [if_pos rfl] at q1 ⊢
    exact hR true H1 F1 env1 hh1 q1
  | false =>
    rw [if_neg Bool.false_ne_true] at q1 ⊢
    exact g e Ex hl env1 T F1 σ H1 _ _ hh1 q1 hR
theorem dw_and1 (h : DTe G N sc k a t) : DWe G N sc k (.BoolOp .And [a] pos) t := ⟨fun W => by
  obtain ⟨te, p1, i1⟩ := h.ex W
  exact ⟨te, fun X S => pw_and1 (p1 X S), i1⟩⟩
theorem dw_or1 (h : DTe G N sc k a t) : DWe G N sc k (.BoolOp .Or [a] pos) t := ⟨fun W => by
  obtain ⟨te, p1, i1⟩ := h.ex W
  exact ⟨te, fun X S => pw_or1 (p1 X S), i1⟩⟩
theorem dw_and (h : DTe G N sc k a t) (g : DWe G N sc k (.BoolOp .And (b :: rest) pos) u) : DWe G N sc k (.BoolOp .And (a :: b :: rest) pos) (dAnd t u) := ⟨fun W => by
  obtain ⟨te, p1, i1⟩ := h.ex W
  obtain ⟨tf, p2, i2⟩ := g.ex W
  exact ⟨tAnd te tf, fun X S => pw_and (p1 X S) (p2 X S), imT_and i1 i2⟩⟩
theorem dw_or (h : DTe G N sc k a t) (g : DWe G N sc k (.BoolOp .Or (b :: rest) pos) u) : DWe G N sc k (.BoolOp .Or (a :: b :: rest) pos) (dOr t u) := ⟨fun W => by
  obtain ⟨te, p1, i1⟩ := h.ex W
  obtain ⟨tf, p2, i2⟩ := g.ex W
  exact ⟨tOr te tf, fun X S => pw_or (p1 X S) (p2 X S), imT_or i1 i2⟩⟩
theorem DWe.te {e : Expr} (h : DWe G N sc k e t) : DTe G N sc k e t := ⟨fun W => by
  obtain ⟨te, p1, i1⟩ := h.ex W
  exact ⟨te, fun X S => (p1 X S).pt, i1⟩⟩
theorem dt_not (h : DTe G N sc k a t) : DTe G N sc k (.UnaryOp .Not a pos) (dNot t) := ⟨fun W => by
  obtain ⟨te, p1, i1⟩ := h.ex W
  exact ⟨tNot te, fun X S => pt_not (p1 X S), fun e Ex hl env T F σ H Q R hh ht hR => i1 e Ex hl env T F σ H _ _ hh ht fun b H1 F1 env1 hh1 q1 => hR (!b) H1 F1 env1 hh1 q1⟩⟩
def dAndV (ta tb : DT) : DT := fun Ex env Q => ta Ex env fun x env1 => match x with
  | .ext (.bl true) => tb Ex env1 Q
  | .ext (.bl false) => Q (.ext (.bl false)) env1
  | _ => False
def dOrV (ta tb : DT) : DT := fun Ex env Q => ta Ex env fun x env1 => match x with
  | .ext (.bl false) => tb Ex env1 Q
  | .ext (.bl true) => Q (.ext (.bl true)) env1
  | _ => False
def dNotV (ta : DT) : DT := fun Ex env Q => ta Ex env fun x env1 => match x with
  | .ext (.bl b) => Q (.ext (.bl (!b))) env1
  | _ => False
theorem de_one {op} {t : DT} (h : DE G N sc k a t) : DE G N sc k (.BoolOp op [a] pos) t := ⟨fun W => by
  obtain ⟨te, p1, i1⟩ := h.ex W
  exact ⟨te, fun X S => pe_one (p1 X S), i1⟩⟩
theorem de_and (h : DE G N sc k a ta) (g : DE G N sc k (.BoolOp .And (b :: rest) pos) tb) : DE G N sc k (.BoolOp .And (a :: b :: rest) pos) (dAndV ta tb) := ⟨fun W => by
  obtain ⟨te, p1, i1⟩ := h.ex W
  obtain ⟨tf, p2, i2⟩ := g.ex W
  refine ⟨tAndV te tf, fun X S => pe_and (p1 X S) (p2 X S), fun e Ex hl env T F σ H Q R hh ht hR => ?_⟩
  refine i1 e Ex hl env T F σ H _ _ hh ht fun v H1 F1 env1 x hh1 q1 => ?_
  cases x with
  | ext d =>
    cases d with
    | bl bb =>
      refine ⟨bb, hh1.temps (v, .ext (.bl bb)) List.mem_cons_self, ?_⟩
      cases bb with
      | true =>
        rw [if_pos rfl]
        exact i2 e Ex hl env1 T F1 σ H1 _ _ hh1.pop q1 hR
      | false =>
        rw [if_neg Bool.false_ne_true]
        exact hR (.bl false) H1 F1 env1 (.ext (.bl false)) (hh1.pop.pushE rfl) q1
    | _ => exact q1.elim
  | _ => exact q1.elim⟩
theorem de_not (h : DE G N sc k a ta) : DE G N sc k (.UnaryOp .Not a pos) (dNotV ta) := ⟨fun W => by
  obtain ⟨te, p1, i1⟩ := h.ex W
  refine ⟨tNotV te, fun X S => pe_not (p1 X S), fun e Ex hl env T F σ H Q R hh ht hR => ?_⟩
  refine i1 e Ex hl env T F σ H _ _ hh ht fun v H1 F1 env1 x hh1 q1 => ?_
  cases x with
  | ext d =>
    cases d with
    | bl bb => exact ⟨bb, hh1.temps (v, .ext (.bl bb)) List.mem_cons_self, hR _ H1 F1 env1 (.ext (.bl (!bb))) (hh1.pop.pushE rfl) q1⟩
    | _ => exact q1.elim
  | _ => exact q1.elim⟩
def dIf (t : DTT) (ta tb : DT) : DT := fun Ex env Q => t Ex env fun b env1 => if b = true then ta Ex env1 Q else tb Ex env1 Q
theorem de_if {t : DTT} (hc : DTe G N sc k c t) (ha : DE G N sc k a ta) (hb : DE G N sc k b tb) : DE G N sc k (.IfExp c a b pos) (dIf t ta tb) := ⟨fun W => by
  obtain ⟨tc, p0, i0⟩ := hc.ex W
  obtain ⟨te, p1, i1⟩ := ha.ex W
  obtain ⟨tf, p2, i2⟩ := hb.ex W
  refine ⟨tIf tc te tf, fun X S => pe_ifExp (p0 X S) (p1 X S) (p2 X S), fun e Ex hl env T F σ H Q R hh ht hR => ?_⟩
  refine i0 e Ex hl env T F σ H _ _ hh ht fun bb H1 F1 env1 hh1 q1 => ?_
  cases bb with
  | true =>
    rw [if_pos rfl] at q1 ⊢
    exact i1 e Ex hl env1 T F1 σ H1 _ _ hh1 q1 hR
  | false =>
    rw [if_neg Bool.false_ne_true] at q1 ⊢
    exact i2 e Ex hl env1 T F1 σ H1 _ _ hh1 q1 hR⟩
def froz (env : Env') : Sl → (D → Prop) → Prop
  | .ext d, q => q d
  | .lst _ ds, q => q (.lst ds)
  | _, _ => False
def frozs (env : Env') : List Sl → (List D → Prop) → Prop
  | [], q => q []
  | s :: ss, q => froz env s fun d => frozs env ss fun ds => q (d :: ds)
theorem Holds.froz1 {K : PySem.W.Frag} {e : Ent} {env : Env'} {T : Tmp} {F : Hp} {σ : St} {H : Hp} {v : V} {sl : Sl} {q : D → Prop} (h : Holds K e env ((v, sl) :: T) F σ H) (w : froz env sl q) : ∃ d F1, Same F F1 ∧ Holds K e env T F1 σ H ∧ Rep K F1 d v ∧ q d := by
  cases sl with
  | un => exact w.elim
  | reg _ _ => exact w.elim
  | ar _ _ => exact w.elim
  | al i a => exact w.elim
  | ext d => exact ⟨d, F, Same.refl _, h.pop, h.temps (v, .ext d) List.mem_cons_self, w⟩
  | lst a ds =>
    obtain ⟨F1, sm, h1⟩ := h.freezeT
    exact ⟨.lst ds, F1, sm, h1.pop, h1.temps (v, .ext (.lst ds)) List.mem_cons_self, w⟩
theorem Holds.frozs {K : PySem.W.Frag} {e : Ent} {env : Env'} {T : Tmp} {σ : St} {H : Hp} : ∀ {vs : List V} {xs : List Sl} {q : List D → Prop} {F : Hp}, vs.length = xs.length → Holds K e env (vs.zip xs ++ T) F σ H → HD.frozs env xs q → ∃ ds F1, Same F F1 ∧ Holds K e env T F1 σ H ∧ Reps K F1 ds vs ∧ q ds
  | [], [], q, F, _, h, w => ⟨[], F, Same.refl _, h, rfl, w⟩
  | [], _ :: _, _, _, e, _, _ => by cases e
  | _ :: _, [], _, _, e, _, _ => by cases e
  | v :: vs, x :: xs, q, F, le, h, w => by
    obtain ⟨d, F1, sm, h1, r1, w1⟩ := h.froz1 w
    obtain ⟨ds, F2, sm2, h2, r2, w2⟩ := Holds.frozs (vs := vs) (xs := xs) (by simpa using le) h1 w1
    exact ⟨d :: ds, F2, sm.trans sm2, h2, ⟨v, vs, rfl, Rep.same sm2 r1, r2⟩, w2⟩
def frzD (env : Env') : Sl → (D → Env' → Prop) → Prop
  | .ext d, q => q d env
  | .lst _ ds, q => q (.lst ds) env
  | .al i a, q => match env[i]? with
    | some (.lst b ds) => b = a ∧ q (.lst ds) (env.set i (.ext (.lst ds)))
    | some (.ext (.lst ds)) => False
    | _ => False
  | .un, _ => False
  | .reg _ _, _ => False
  | .ar _ _, _ => False
def frzDs (env : Env') : List Sl → (List D → Env' → Prop) → Prop
  | [], q => q [] env
  | s :: ss, q => frzD env s fun d env1 => frzDs env1 ss fun ds env2 => q (d :: ds) env2
theorem Holds.frz1 {K : PySem.W.Frag} {e : Ent} {env : Env'} {T : Tmp} {F : Hp} {σ : St} {H : Hp} {v : V} {sl : Sl} {q : D → Env' → Prop} (h : Holds K e env ((v, sl) :: T) F σ H) (w : frzD env sl q) : ∃ d F1 env', Same F F1 ∧ Holds K e env' T F1 σ H ∧ Rep K F1 d v ∧ q d env' := by
  cases sl with
  | un => exact w.elim
  | reg _ _ => exact w.elim
  | ar _ _ => exact w.elim
  | ext d => exact ⟨d, F, env, Same.refl _, h.pop, h.temps (v, .ext d) List.mem_cons_self, w⟩
  | lst a ds =>
    obtain ⟨F1, sm, h1⟩ := h.freezeT
    exact ⟨.lst ds, F1, env, sm, h1.pop, h1.temps (v, .ext (.lst ds)) List.mem_cons_self, w⟩
  | al i a =>
    have ev : v = .ref a := h.temps (v, .al i a) List.mem_cons_self
    have w' : (match env[i]? with | some (.lst b ds) => b = a ∧ q (.lst ds) (env.set i (.ext (.lst ds))) | some (.ext (.lst ds)) => False | _ => False) := w
    split at w'
    · rename_i b ds hb
      obtain ⟨rfl, w'⟩ := w'
      obtain ⟨F1, sm, h1⟩ := h.pop.freeze hb
      refine ⟨.lst ds, F1, _, sm, h1, ?_, w'⟩
      have hi : i < env.length := (List.getElem?_eq_some_iff.mp hb).1
      rcases h.slots i _ hb with z | ⟨u, hu, e1, _⟩
      · cases z
      · rcases h1.slots i (.ext (.lst ds)) (by rw [List.getElem?_set, if_pos rfl, if_pos hi]) with z | ⟨u', hu', ok⟩
        · cases z
        · rw [hu] at hu'
          cases hu'
          rw [ev, ← e1]
          exact ok
    · exact w'.elim
    · exact w'.elim
theorem Holds.frzs {K : PySem.W.Frag} {e : Ent} {T : Tmp} {σ : St} {H : Hp} : ∀ {vs : List V} {xs : List Sl} {q : List D → Env' → Prop} {F : Hp} {env : Env'}, vs.length = xs.length → Holds K e env (vs.zip xs ++ T) F σ H → HD.frzDs env xs q → ∃ ds F1 env', Same F F1 ∧ Holds K e env' T F1 σ H ∧ Reps K F1 ds vs ∧ q ds env'
  | [], [], q, F, env, _, h, w => ⟨[], F, env, Same.refl _, h, rfl, w⟩
  | [], _ :: _, _, _, _, e, _, _ => by cases e
  | _ :: _, [], _, _, _, e, _, _ => by cases e
  | v :: vs, x :: xs, q, F, env, le, h, w => by
    obtain ⟨d, F1, env1, sm, h1, r1, w1⟩ := h.frz1 w
    obtain ⟨ds, F2, env2, sm2, h2, r2, w2⟩ := Holds.frzs (vs := vs) (xs := xs) (by simpa using le) h1 w1
    exact ⟨d :: ds, F2, env2, sm.trans sm2, h2, ⟨v, vs, rfl, Rep.same sm2 r1, r2⟩, w2⟩
def dTup (t : DTA) : DT := fun Ex env Q => t Ex env fun xs env1 => xs.length ≤ sizeLine ∧ frzDs env1 xs fun ds env2 => Q (.ext (.tup ds)) env2
def dLst (t : DTA) : DT := fun Ex env Q => t Ex env fun xs env1 => xs.length ≤ sizeLine ∧ frzDs env1 xs fun ds env2 => ∀ a, Q (.lst a ds) env2
variable {es : List Expr} {tA : DTA}
theorem de_tup {x1} (h : DAs G N sc k es tA) : DE G N sc k (.Tuple es x1 pos) (dTup tA) := ⟨fun W => by
  obtain ⟨te, p1, i1⟩ := h.ex W
  refine ⟨tTupF te, fun X S => pe_tupF (p1 X S), fun e Ex hl env T F σ H Q R hh ht hR => ?_⟩
  refine i1 e Ex hl env T F σ H _ _ hh ht fun vs H1 F1 env1 xs le hh1 q1 => ⟨by rw [le]; exact q1.1, ?_⟩
  obtain ⟨ds, F2, env2, sm, hh2, r2, q2⟩ := hh1.frzs le q1.2
  exact (hh2.done hR).tup hh2.fh r2 q2⟩
theorem de_lst (h : DAs G N sc k es tA) : DE G N sc k (.List es pos) (dLst tA) := ⟨fun W => by
  obtain ⟨te, p1, i1⟩ := h.ex W
  refine ⟨tLst te, fun X S => pe_lst (p1 X S), fun e Ex hl env T F σ H Q R hh ht hR => ?_⟩
  refine i1 e Ex hl env T F σ H _ _ hh ht fun vs H1 F1 env1 xs le hh1 q1 => ⟨by rw [le]; exact q1.1, fun p n => ?_⟩
  obtain ⟨ds, F2, env2, sm, hh2, r2, q2⟩ := hh1.frzs le q1.2
  exact (hh2.done hR).lst hh2.fh n r2 (q2 p)⟩
def fIx : D → D → (Sl → Prop) → Prop
  | .lst ds, .int i, Q => ∃ d, atI ds i = some d ∧ Q (.ext d)
  | .tup ds, .int i, Q => ∃ d, atI ds i = some d ∧ Q (.ext d)
  | .tk ds, .int i, Q => ∃ d, atI ds i = some d ∧ Q (.ext d)
  | .fz ds, .int i, Q => ∃ d, atI ds i = some d ∧ Q (.ext d)
  | .str z, .int i, Q => z.length ≤ sizeLine ∧ ∃ c, atI z.cps.toList i = some c ∧ Q (.ext (.str ⟨#[c]⟩))
  | _, _, _ => False
theorem Reps.atI {K : PySem.W.Frag} {F : Hp} {ds : List D} {vs : List V} {i : Int} {d : D} (h : Reps K F ds vs) (e : L2.atI ds i = some d) : ∃ v, L2.atI vs i = some v ∧ Rep K F d v := by
  unfold L2.atI at e ⊢
  rw [← h.length]
  cases q : ixN ds.length i with
  | none =>
    rw [q] at e
    cases e
  | some j =>
    rw [q] at e
    exact h.get e
theorem pr_ix {K : PySem.W.Frag} : Pr2 K (rIx K) fIx := fun F H v u d d' Q R fh h1 h2 hf ha => by
  unfold fIx at hf
  split at hf
  · obtain ⟨a, vs, rfl, e1, r1⟩ := h1.lst fh
    obtain ⟨d, e, q⟩ := hf
    obtain ⟨w, e', r⟩ := r1.atI e
    exact .inl ⟨a, vs, _, w, rfl, h2.int, SqL.of e1, e', ha.ext fh r q⟩
  · obtain ⟨a, vs, rfl, e1, _, r1⟩ := h1.tup fh
    obtain ⟨d, e, q⟩ := hf
    obtain ⟨w, e', r⟩ := r1.atI e
    exact .inr (.inl ⟨a, vs, _, w, rfl, h2.int, e1, e', ha.ext fh r q⟩)
  · obtain ⟨a, vs, rfl, e1, _, r1⟩ := h1.tk fh
    obtain ⟨d, e, q⟩ := hf
    obtain ⟨w, e', r⟩ := r1.atI e
    exact .inr (.inl ⟨a, vs, _, w, rfl, h2.int, e1, e', ha.ext fh r q⟩)
  · obtain ⟨a, vs, rfl, e1, r1⟩ := h1.fz fh
    obtain ⟨d, e, q⟩ := hf
    obtain ⟨w, e', r⟩ := r1.atI e
    exact .inl ⟨a, vs, _, w, rfl, h2.int, e1, e', ha.ext fh r q⟩
  · obtain ⟨hz, c, e, q⟩ := hf
    exact .inr (.inr ⟨_, _, c, h1.str, h2.int, hz, e, ha.str fh q⟩)
  · exact hf.elim
theorem de_ix (ha : DE G N sc k a ta) (hb : DE G N sc k b tb) (hs : PlainIx b := by intro _ _; rfl) : DE G N sc k (.Subscript a b pos) (dOp fIx ta tb) := ⟨fun W => by
  obtain ⟨te, p1, i1⟩ := ha.ex W
  obtain ⟨tf, p2, i2⟩ := hb.ex W
  exact ⟨tOp (rIx G.K) te tf, fun X S => pe_ix (by rw [← S.K]; exact ix_seq) (p1 X S) (p2 X S) hs, im_op pr_ix i1 i2⟩⟩
abbrev DTO := DX → Env' → (Option Int → Env' → Prop) → Prop
def ImO (K : PySem.W.Frag) (W : WX) (to : TO) (t : DTO) : Prop :=
  ∀ (e : Ent) (Ex : DX), Link K e W Ex → ∀ (env : Env') (T : Tmp) (F : Hp) (σ : St) (H : Hp) (Q : Option Int → Env' → Prop) (R : Option Int → Hp → Prop),
    Holds K e env T F σ H → t Ex env Q → (∀ o H' F' env', Holds K e env' T F' σ H' → Q o env' → R o H') → to σ H R
structure DO' (G : GG) (N : List Str) (sc : SC) (k : Nat) (e : Option Expr) (t : DTO) : Prop where
  ex : ∀ W : WX, ∃ te, (∀ X, Sit G N sc W k X → PO X e te) ∧ ImO G.K W te t
def dNoPart : DTO := fun _ env Q => Q none env
def dPart (t : DT) : DTO := fun Ex env Q => t Ex env fun x env1 => match x with
  | .ext (.int i) => Q (some i) env1
  | _ => False
theorem do_none : DO' G N sc k none dNoPart := ⟨fun W => ⟨tNoPart, fun X S => po_none, fun e Ex hl env T F σ H Q R hh ht hR => hR none H F env hh ht⟩⟩
theorem do_some (h : DE G N sc k a ta) : DO' G N sc k (some a) (dPart ta) := ⟨fun W => by
  obtain ⟨te, p1, i1⟩ := h.ex W
  refine ⟨tPart te, fun X S => po_some (p1 X S), fun e Ex hl env T F σ H Q R hh ht hR => ?_⟩
  refine i1 e Ex hl env T F σ H _ _ hh ht fun v H1 F1 env1 x hh1 q1 => ?_
  cases x with
  | ext d =>
    cases d with
    | int i => exact ⟨i, hh1.temps (v, .ext (.int i)) List.mem_cons_self, hR (some i) H1 F1 env1 hh1.pop q1⟩
    | _ => exact q1.elim
  | _ => exact q1.elim⟩
def cutD (xs : List D) (lo hi : Option Int) : List D := (xs.drop (HT.sIx xs.length 0 lo)).take (HT.sIx xs.length xs.length hi - HT.sIx xs.length 0 lo)
theorem Reps.cut {K : PySem.W.Frag} {F : Hp} {ds : List D} {vs : List V} (h : Reps K F ds vs) (lo hi : Option Int) : Reps K F (cutD ds lo hi) (cutV vs lo hi) := by
  unfold cutD cutV
  rw [h.length]
  exact (h.drop _).take _
def fSl (d : D) (lo hi : Option Int) (Q : Sl → Prop) : Prop := match d with
  | .lst ds => ∀ a, Q (.lst a (cutD ds lo hi))
  | .fz ds => ∀ a, Q (.lst a (cutD ds lo hi))
  | .tup ds => Q (.ext (.tup (cutD ds lo hi)))
  | _ => False
def dSl (ta : DT) (tl th : DTO) : DT := fun Ex env Q => ta Ex env fun x env1 => tl Ex env1 fun lo env2 => th Ex env2 fun hi env3 => wd env3 x fun d => fSl d lo hi fun sl => Q sl env3
theorem cut_whole {α : Type} {xs : List α} {lo hi : Option Int} (h : HT.sIx xs.length 0 lo = 0 ∧ HT.sIx xs.length xs.length hi = xs.length) : (xs.drop (HT.sIx xs.length 0 lo)).take (HT.sIx xs.length xs.length hi - HT.sIx xs.length 0 lo) = xs := by
  rw [h.1, h.2, List.drop_zero, Nat.sub_zero, List.take_length]
theorem de_slice {lo hi : Option Expr} {tl th : DTO} {p2 : Pos} (h : DE G N sc k a ta) (hl : DO' G N sc k lo tl) (hh : DO' G N sc k hi th) : DE G N sc k (.Subscript a (.Slice lo hi none p2) pos) (dSl ta tl th) := ⟨fun W => by
  obtain ⟨te, p1, i1⟩ := h.ex W
  obtain ⟨tl', p2', i2⟩ := hl.ex W
  obtain ⟨th', p3, i3⟩ := hh.ex W
  refine ⟨tSl (fun x lo hi H Q => rSlL G.K x lo hi H Q ∨ rSlF G.K x lo hi H Q) te tl' th', fun X S => pe_slice (by rw [← S.K]; exact sl_list.or sl_tupF) (p1 X S) (p2' X S) (p3 X S), fun e Ex hl env T F σ H Q R hh ht hR => ?_⟩
  refine i1 e Ex hl env T F σ H _ _ hh ht fun v H1 F1 env1 x hh1 q1 => ?_
  refine i2 e Ex hl env1 _ F1 σ H1 _ _ hh1 q1 fun lo' H2 F2 env2 hh2 q2 => ?_
  refine i3 e Ex hl env2 _ F2 σ H2 _ _ hh2 q2 fun hi' H3 F3 env3 hh3 q3 => ?_
  obtain ⟨d, rd, q4⟩ := hh3.wd (v := v) (sl := x) List.mem_cons_self q3
  have dn := hh3.pop.done hR
  cases d with
  | lst ds =>
    obtain ⟨b, vs, rfl, e1, r1⟩ := rd.lst hh3.fh
    exact .inl ⟨b, vs, rfl, SqL.of e1, fun p n => dn.lst hh3.fh n (r1.cut lo' hi') (q4 p)⟩
  | fz ds =>
    obtain ⟨b, vs, rfl, e1, r1⟩ := rd.fz hh3.fh
    exact .inl ⟨b, vs, rfl, e1, fun p n => dn.lst hh3.fh n (r1.cut lo' hi') (q4 p)⟩
  | tup ds =>
    obtain ⟨b, vs, rfl, e1, e2, r1⟩ := rd.tup hh3.fh
    refine .inr ⟨b, vs, rfl, e1, fun z => ?_, fun _ => dn.tup hh3.fh (r1.cut lo' hi') q4⟩
    refine dn.ext (d := .tup (cutD ds lo' hi')) hh3.fh ⟨b, vs, rfl, e2, ?_⟩ q4
    have q := r1.cut lo' hi'
    unfold cutV at q
    rw [cut_whole z] at q
    exact q
  | _ => exact q4.elim⟩
end
end HD
namespace HD
open PySem L2
abbrev DSpec := List Sl → (Sl → List Sl → Prop) → (Str → List Sl → Prop) → Prop
abbrev entOf (F H : Hp) (args : Env') : Ent := ⟨F, H, ownedE args⟩
def toSp (K : PySem.W.Frag) (n : Nat) (spec : DSpec) : Sp := fun vs H Q E => ∃ (F : Hp) (args : Env') (Qd : Sl → List Sl → Prop) (Xd : Str → List Sl → Prop),
  vs.length = n ∧ Holds K (entOf F H args) args [] F (vs.map some) H ∧ spec args Qd Xd ∧
  (∀ v H' F' r fin, Holds K (entOf F H args) fin [(v, r)] F' (vs.map some) H' → Qd r fin → Q v H') ∧
  (∀ c H' F' fin, Holds K (entOf F H args) fin [] F' (vs.map some) H' → Xd c fin → E (clsV K c) none H')
def rootOf : D → Option Addr
  | .val (.ref a) => some a
  | _ => none
theorem rootOf_some {d : D} {a : Addr} (h : rootOf d = some a) : d = .val (.ref a) := by
  unfold rootOf at h
  split at h
  · cases h; rfl
  · cases h
theorem rootOf_eq {d d' : D} (h : (rootOf d).isSome = true ∧ rootOf d = rootOf d') : d = d' := by
  obtain ⟨h1, h2⟩ := h
  cases e : rootOf d with
  | none => rw [e] at h1; cases h1
  | some a =>
    have e2 : rootOf d' = some a := by rw [← h2]; exact e
    rw [rootOf_some e, rootOf_some e2]
def fin1 : Sl → Option Sl → Sl
  | .ext d, _ => .ext d
  | .lst a _, some (.lst b ds) => if a = b then .lst a ds else .un
  | .reg d _, some (.reg d' cs) => if (rootOf d).isSome = true ∧ rootOf d = rootOf d' then .reg d cs else .un
  | _, _ => .un
def finals (args env : Env') : Env' := (List.range args.length).map fun i => fin1 (args.getD i .un) env[i]?
theorem finals_get {args env : Env'} {i : Nat} {sl : Sl} (h : (finals args env)[i]? = some sl) : ∃ s, args[i]? = some s ∧ sl = fin1 s env[i]? := by
  unfold finals at h
  rw [List.getElem?_map] at h
  by_cases hi : i < args.length
  · rw [List.getElem?_range hi] at h
    have e := Option.some.inj h
    refine ⟨args[i], List.getElem?_eq_getElem hi, ?_⟩
    rw [← e]
    show fin1 (args.getD i .un) _ = _
    rw [List.getD_eq_getElem?_getD, List.getElem?_eq_getElem hi]
    rfl
  · rw [List.getElem?_eq_none (by rw [List.length_range]; omega)] at h
    cases h
theorem fin1_owned (s : Sl) (o : Option Sl) : (fin1 s o).owned.Sublist ((o.getD .un).owned) := by
  cases s with
  | un => exact List.nil_sublist _
  | ext d => exact List.nil_sublist _
  | al i a => exact List.nil_sublist _
  | ar i a => exact List.nil_sublist _
  | reg d cs =>
    cases o with
    | none => exact List.nil_sublist _
    | some s' =>
      cases s' with
      | reg d' cs' =>
        show (if (rootOf d).isSome = true ∧ rootOf d = rootOf d' then Sl.reg d cs' else .un).owned.Sublist (cs'.map (·.1))
        split
        · exact List.Sublist.refl _
        · exact List.nil_sublist _
      | _ => exact List.nil_sublist _
  | lst a ds =>
    cases o with
    | none => exact List.nil_sublist _
    | some s' =>
      cases s' with
      | lst b es =>
        show (if a = b then Sl.lst a es else .un).owned.Sublist [b]
        split
        · rename_i e
          subst e
          exact List.Sublist.refl _
        · exact List.nil_sublist _
      | _ => exact List.nil_sublist _
theorem finals_owned (args env : Env') : (ownedE (finals args env)).Sublist (ownedE env) := by
  have key : ∀ (n : Nat), (ownedE ((List.range n).map fun i => fin1 (args.getD i .un) env[i]?)).Sublist (ownedE (env.take n)) := by
    intro n
    induction n with
    | zero => exact List.nil_sublist _
    | succ n ih =>
      rw [List.range_succ, List.map_append]
      unfold ownedE at ih ⊢
      rw [List.flatMap_append, List.take_add_one, List.flatMap_append]
      refine ih.append ?_
      rw [List.map_cons, List.map_nil, List.flatMap_cons, List.flatMap_nil, List.append_nil]
      refine (fin1_owned _ _).trans ?_
      cases env[n]? with
      | none => exact List.Sublist.refl _
      | some s =>
        show s.owned.Sublist ([s].flatMap Sl.owned)
        rw [List.flatMap_cons, List.flatMap_nil, List.append_nil]
        exact List.Sublist.refl _
  refine (key args.length).trans ?_
  unfold ownedE
  have z := congrArg (List.flatMap Sl.owned) (List.take_append_drop args.length env)
  rw [List.flatMap_append] at z
  rw [← z]
  exact List.sublist_append_left _ _
theorem Holds.finals {K : PySem.W.Frag} {F H F' H' : Hp} {args env : Env'} {T : Tmp} {σ' : St} {vs : List V} (h0 : Holds K (entOf F H args) args [] F (vs.map some) H) (h : Holds K (entOf F H args) env T F' σ' H') : Holds K (entOf F H args) (HD.finals args env) T F' (vs.map some) H' := by
  have sub : (ownedE (HD.finals args env) ++ ownedT T).Sublist (ownedE env ++ ownedT T) := (finals_owned args env).append (List.Sublist.refl _)
  refine ⟨h.fh, ?_, fun i sl q => ?_, h.temps, h.nd.sublist sub, h.s1, h.s2, fun a ha => h.s3 a (sub.subset ha)⟩
  · rw [← h0.len]
    unfold HD.finals
    rw [List.length_map, List.length_range]
  · obtain ⟨s, hs, rfl⟩ := finals_get q
    rcases h0.slots i s hs with z | ⟨v, hv, ok⟩
    · subst z
      exact .inl rfl
    · cases s with
      | un => exact .inl rfl
      | al j a => exact .inl rfl
      | ar j a => exact .inl rfl
      | reg d cs =>
        cases e : env[i]? with
        | none => exact .inl rfl
        | some s' =>
          cases s' with
          | reg d' cs' =>
            show (if (rootOf d).isSome = true ∧ rootOf d = rootOf d' then Sl.reg d cs' else .un) = .un ∨ ∃ v, _ ∧ SlOk K F' H' v (if (rootOf d).isSome = true ∧ rootOf d = rootOf d' then Sl.reg d cs' else .un)
            split
            · rename_i dd
              have ed := rootOf_eq dd
              subst ed
              rcases h.slots i _ e with z | ⟨w, _, ok'⟩
              · cases z
              · exact .inr ⟨v, hv, Rep.same h.s1 ok.1, ok'.2⟩
            · exact .inl rfl
          | _ => exact .inl rfl
      | ext d => exact .inr ⟨v, hv, Rep.same h.s1 ok⟩
      | lst a ds =>
        obtain ⟨rfl, _⟩ := ok
        cases e : env[i]? with
        | none => exact .inl rfl
        | some s' =>
          cases s' with
          | lst b es =>
            show (if a = b then Sl.lst a es else .un) = .un ∨ ∃ v, _ ∧ SlOk K F' H' v (if a = b then Sl.lst a es else .un)
            split
            · rename_i ab
              subst ab
              rcases h.slots i _ e with z | ⟨w, _, ok'⟩
              · cases z
              · obtain ⟨rfl, r⟩ := ok'
                exact .inr ⟨_, hv, rfl, r⟩
            · exact .inl rfl
          | _ => exact .inl rfl
mutual
def D.imm : D → Bool
  | .lst _ => false
  | .exc _ => false
  | .fz _ => false
  | .dk _ _ => false
  | .dt _ _ => false
  | .tup ds => D.imms ds
  | .tk ds => D.imms ds
  | _ => true
def D.imms : List D → Bool
  | [] => true
  | d :: ds => D.imm d && D.imms ds
end
mutual
theorem Rep.ofT {K : PySem.W.Frag} {F F' : Hp} (t : ∀ a xs, SqT K F a xs → SqT K F' a xs) (t2 : ∀ a xs, TupD K F a xs → TupD K F' a xs) : ∀ {d : D} {v : V}, d.imm = true → Rep K F d v → Rep K F' d v
  | .non, _, _, h => h
  | .bl _, _, _, h => h
  | .int _, _, _, h => h
  | .str _, _, _, h => h
  | .val _, _, _, h => h
  | .lst _, _, n, _ => nomatch n
  | .fz _, _, n, _ => nomatch n
  | .exc _, _, n, _ => nomatch n
  | .dk _ _, _, n, _ => nomatch n
  | .dt _ _, _, n, _ => nomatch n
  | .glo _, _, _, h => h
  | .tup _, _, n, h => by
    obtain ⟨a, xs, rfl, hs, hr⟩ := h
    exact ⟨a, xs, rfl, t2 _ _ hs, Reps.ofT t t2 n hr⟩
  | .tk _, _, n, h => by
    obtain ⟨a, xs, rfl, hs, hr⟩ := h
    exact ⟨a, xs, rfl, t _ _ hs, Reps.ofT t t2 n hr⟩
theorem Reps.ofT {K : PySem.W.Frag} {F F' : Hp} (t : ∀ a xs, SqT K F a xs → SqT K F' a xs) (t2 : ∀ a xs, TupD K F a xs → TupD K F' a xs) : ∀ {ds : List D} {vs : List V}, D.imms ds = true → Reps K F ds vs → Reps K F' ds vs
  | [], _, _, h => h
  | d :: ds, _, n, h => by
    obtain ⟨v, r, rfl, h1, h2⟩ := h
    have n' : (D.imm d && D.imms ds) = true := n
    rw [Bool.and_eq_true] at n'
    exact ⟨v, r, rfl, Rep.ofT t t2 n'.1 h1, Reps.ofT t t2 n'.2 h2⟩
end
def Sl.imm : Sl → Bool
  | .ext d => d.imm
  | .lst _ ds => D.imms ds
  | _ => false
section
variable {K : PySem.W.Frag} {e : Ent} {env : Env'} {T : Tmp} {F : Hp} {σ : St} {H : Hp}
structure Left (A : List Addr) (F H F' H' : Hp) : Prop where
  ff : Same F F'
  fh : Same F' H'
  out : ∀ b o, H b = some o → b ∉ A → H' b = some o ∧ (F b = none → F' b = none)
theorem SlOk.left {A : List Addr} {F' H' : Hp} {v : V} {sl : Sl} (l : Left A F H F' H') (n : ∀ a ∈ sl.owned, a ∉ A) (h : SlOk K F H v sl) : SlOk K F' H' v sl := by
  cases sl with
  | un => trivial
  | ext d => exact Rep.same l.ff h
  | al i b => exact h
  | lst b ds =>
    obtain ⟨rfl, q, us, hv, hr⟩ := h
    obtain ⟨q1, q2⟩ := l.out b _ hv (n b (List.mem_singleton.mpr rfl))
    exact ⟨rfl, q2 q, us, q1, hr.same l.ff⟩
  | ar i b => exact h
  | reg b cs =>
    obtain ⟨rd, nd, hc⟩ := h
    refine ⟨Rep.same l.ff rd, nd, fun p hp => ?_⟩
    obtain ⟨q, o', ho, ok⟩ := hc p hp
    obtain ⟨q1, q2⟩ := l.out p.1 _ ho (n p.1 (List.mem_map.mpr ⟨p, hp, rfl⟩))
    exact ⟨q2 q, o', q1, ok.same l.ff⟩
theorem Holds.left0 {F' H' : Hp} {v : V} {r : Sl} (h : Holds K e env T F σ H) (l : Left [] F H F' H') (ok : SlOk K F' H' v r) (own : ∀ a ∈ r.owned, H a = none) : Holds K e env ((v, r) :: T) F' σ H' := by
  have h1 : Holds K e env T F' σ H' := by
    refine ⟨l.fh, h.len, fun i sl q => ?_, fun p hp => (h.temps p hp).left l (fun _ _ z => nomatch z), h.nd, h.s1.trans l.ff, fun a o q n => ?_, h.s3⟩
    · rcases h.slots i sl q with z | ⟨w, hw, ok⟩
      · exact .inl z
      · exact .inr ⟨w, hw, ok.left l fun _ _ z => nomatch z⟩
    · obtain ⟨q1, q2⟩ := h.s2 a o q n
      obtain ⟨r1, r2⟩ := l.out a o q1 (fun z => nomatch z)
      exact ⟨r1, fun z => r2 (q2 z)⟩
  have old := h.ownedH
  have ndo : r.owned.Nodup := ok.ndo
  have dis : ∀ a ∈ r.owned, a ∉ ownedE env ++ ownedT T := fun a ha hb => by
    obtain ⟨_, vs, q⟩ := old a hb
    rw [own a ha] at q
    cases q
  refine ⟨h1.fh, h1.len, h1.slots, fun p hp => ?_, ?_, h1.s1, h1.s2, fun a ha => ?_⟩
  · rcases List.mem_cons.mp hp with rfl | hp
    · exact ok
    · exact h1.temps p hp
  · show (ownedE env ++ (r.owned ++ ownedT T)).Nodup
    have z := h.nd
    rw [List.nodup_append] at z ⊢
    obtain ⟨z1, z2, z3⟩ := z
    refine ⟨z1, ?_, fun a ha b hb => ?_⟩
    · rw [List.nodup_append]
      exact ⟨ndo, z2, fun a ha b hb e => dis a ha (by rw [e]; exact List.mem_append_right _ hb)⟩
    · rcases List.mem_append.mp hb with hb | hb
      · exact fun e => dis b hb (by rw [← e]; exact List.mem_append_left _ ha)
      · exact z3 a ha b hb
  · have ha' : a ∈ ownedE env ++ (r.owned ++ ownedT T) := ha
    rcases List.mem_append.mp ha' with hb | hb
    · exact h.s3 a (List.mem_append_left _ hb)
    · rcases List.mem_append.mp hb with hb | hb
      · have hn := own a hb
        cases q : e.H0 a with
        | none => exact .inr rfl
        | some o =>
          by_cases hA : a ∈ e.A0
          · exact .inl hA
          · rw [(h.s2 a o q hA).1] at hn
            cases hn
      · exact h.s3 a (List.mem_append_right _ hb)
theorem Holds.left1 {F' H' : Hp} {v : V} {r s' : Sl} {i : Nat} {a : Addr} {ds : List D} (h : Holds K e env T F σ H) (hi : env[i]? = some (.lst a ds)) (l : Left [a] F H F' H') (ok : SlOk K F' H' v r) (ok' : SlOk K F' H' (.ref a) s')
    (own : ∀ b ∈ s'.owned ++ r.owned, b = a ∨ H b = none) (nd : (s'.owned ++ r.owned).Nodup) (hp : s'.plain) : Holds K e (env.set i s') ((v, r) :: T) F' σ H' := by
  obtain ⟨hv0, hF0⟩ : (∃ w, σ[i]? = some (some w) ∧ w = .ref a) ∧ F a = none := by
    rcases h.slots i _ hi with z | ⟨w, hw, e1, e2, _⟩
    · cases z
    · exact ⟨⟨w, hw, e1⟩, e2⟩
  obtain ⟨w, hw, rfl⟩ := hv0
  -- the slot's object as a temp, then dropped: the others
  have h0 := (h.take hi hw).pop
  have hx := h.take hi hw
  have na : ∀ b ∈ ownedE (env.set i .un) ++ ownedT T, b ≠ a := fun b hb z => by
    subst z
    have nd := hx.nd
    have perm : (ownedE (env.set i .un) ++ (([b] : List Addr) ++ ownedT T)).Perm ([b] ++ (ownedE (env.set i .un) ++ ownedT T)) := by
      rw [← List.append_assoc, ← List.append_assoc]
      exact List.Perm.append_right _ List.perm_append_comm
    have nd' : ([b] ++ (ownedE (env.set i .un) ++ ownedT T)).Nodup := perm.nodup nd
    exact (List.nodup_append.mp nd').2.2 b (List.mem_singleton.mpr rfl) b hb rfl
  have h1 : Holds K e (env.set i .un) T F' σ H' := by
    refine ⟨l.fh, h0.len, fun j sl q => ?_, fun p hp => (h0.temps p hp).left l (fun b hb z => ?_), h0.nd, h0.s1.trans l.ff, fun b o q n => ?_, h0.s3⟩
    · rcases h0.slots j sl q with z | ⟨w, hw, ok⟩
      · exact .inl z
      · refine .inr ⟨w, hw, ok.left l fun b hb z => ?_⟩
        exact na b (List.mem_append_left _ (mem_ownedE q hb)) (List.mem_singleton.mp z)
    · exact na b (List.mem_append_right _ (List.mem_flatMap.mpr ⟨p, hp, hb⟩)) (List.mem_singleton.mp z)
    · obtain ⟨q1, q2⟩ := h0.s2 b o q n
      have nb : b ∉ [a] := fun z => by
        rw [List.mem_singleton.mp z] at q n
        have mm : a ∈ ownedE env ++ ownedT T := List.mem_append_left _ (mem_ownedE hi (List.mem_singleton.mpr rfl))
        rcases h.s3 a mm with y | y
        · exact n y
        · rw [q] at y
          cases y
      obtain ⟨r1, r2⟩ := l.out b o q1 nb
      exact ⟨r1, fun z => r2 (q2 z)⟩
  have old := h0.ownedH
  have dis : ∀ b ∈ s'.owned ++ r.owned, b ∉ ownedE (env.set i .un) ++ ownedT T := fun b hb hc => by
    rcases own b hb with z | z
    · exact na b hc z
    · obtain ⟨_, vs, q⟩ := old b hc
      rw [z] at q
      cases q
  have fin3 : ∀ b ∈ s'.owned ++ r.owned, b ∈ e.A0 ∨ e.H0 b = none := fun b hb => by
    rcases own b hb with z | z
    · subst z
      exact h.s3 b (List.mem_append_left _ (mem_ownedE hi (List.mem_singleton.mpr rfl)))
    · cases q : e.H0 b with
      | none => exact .inr rfl
      | some o =>
        by_cases hA : b ∈ e.A0
        · exact .inl hA
        · rw [(h.s2 b o q hA).1] at z
          cases z
  -- both come in as temps, then the slot is set
  have h2 : Holds K e (env.set i .un) ((.ref a, s') :: (v, r) :: T) F' σ H' := by
    refine ⟨h1.fh, h1.len, h1.slots, fun p hp => ?_, ?_, h1.s1, h1.s2, fun b hb => ?_⟩
    · rcases List.mem_cons.mp hp with rfl | hp
      · exact ok'
      · rcases List.mem_cons.mp hp with rfl | hp
        · exact ok
        · exact h1.temps p hp
    · show (ownedE (env.set i .un) ++ (s'.owned ++ (r.owned ++ ownedT T))).Nodup
      have z := h0.nd
      rw [← List.append_assoc s'.owned]
      rw [List.nodup_append] at z ⊢
      obtain ⟨z1, z2, z3⟩ := z
      refine ⟨z1, ?_, fun b hb c hc => ?_⟩
      · rw [List.nodup_append]
        exact ⟨nd, z2, fun b hb c hc e => dis b hb (by rw [e]; exact List.mem_append_right _ hc)⟩
      · rcases List.mem_append.mp hc with hc | hc
        · exact fun e => dis c hc (by rw [← e]; exact List.mem_append_left _ hb)
        · exact z3 b hb c hc
    · have hb' : b ∈ ownedE (env.set i .un) ++ (s'.owned ++ (r.owned ++ ownedT T)) := hb
      rw [← List.append_assoc s'.owned] at hb'
      rcases List.mem_append.mp hb' with hc | hc
      · exact h0.s3 b (List.mem_append_left _ hc)
      · rcases List.mem_append.mp hc with hc | hc
        · exact fin3 b hc
        · exact h0.s3 b (List.mem_append_right _ hc)
  have h3 := h2.assign i hp
  rw [List.set_set] at h3
  have z : σ.set i (some (.ref a)) = σ := by
    obtain ⟨hl, q⟩ := List.getElem?_eq_some_iff.mp hw
    rw [← q]
    exact List.set_getElem_self hl
  rw [z] at h3
  exact h3
end
def anyAl : List Sl → Bool
  | [] => false
  | .al _ _ :: _ => true
  | .ar _ _ :: _ => true
  | _ :: r => anyAl r
section
variable {K : PySem.W.Frag} {e : Ent} {env : Env'} {T : Tmp} {σ : St} {H : Hp}
theorem Holds.lend : ∀ {vs : List V} {xs : List Sl} {q : List D → Prop} {F : Hp}, vs.length = xs.length → Holds K e env (vs.zip xs ++ T) F σ H → HD.wds env xs q →
    ∃ ds F1 Fc, q ds ∧ Holds K e env T F1 σ H ∧ Same F F1 ∧ Same F1 Fc ∧ Reps K Fc ds vs ∧ Same Fc H ∧ (∀ b, Fc b ≠ none → F1 b ≠ none ∨ b ∈ ownedE env) ∧ (anyAl xs = false → Fc = F1)
  | [], [], q, F, _, h, w => ⟨[], F, F, w, h, Same.refl _, Same.refl _, rfl, h.fh, fun _ z => .inl z, fun _ => rfl⟩
  | [], _ :: _, _, _, le, _, _ => by cases le
  | _ :: _, [], _, _, le, _, _ => by cases le
  | v :: vs, x :: xs, q, F, le, h, w => by
    have le' : vs.length = xs.length := by simpa using le
    cases x with
    | un => exact w.elim
    | reg _ _ => exact w.elim
    | ar i b =>
      have ev : v = .ref b := h.temps (v, .ar i b) List.mem_cons_self
      have h' : Holds K e env (vs.zip xs ++ T) F σ H := h.pop
      have w' : (match env[i]? with | some (.reg _ cs) => (match cellOf cs b with | some (.lst ds) => HD.wds env xs (fun es => q (.lst ds :: es)) | _ => False) | _ => False) := w
      split at w'
      · rename_i dr cs hb
        split at w'
        · rename_i es hc
          obtain ⟨ds, F1, Fc, w1, h1, s1, s2, r, fh, nw, na⟩ := Holds.lend (q := fun ds => q (.lst es :: ds)) le' h' w'
          obtain ⟨e2, o, hv, us, rfl, hr⟩ := h1.cell hb hc
          have s3 : Same Fc (upd Fc b (.lst us)) := fun c o qc => by
            by_cases nc : c = b
            · rw [nc] at qc ⊢
              have := fh _ _ qc
              rw [hv] at this
              rw [upd_same]
              exact this
            · rw [upd_ne nc]
              exact qc
          refine ⟨.lst es :: ds, F1, upd Fc b (.lst us), w1, h1, s1, s2.trans s3, ⟨v, vs, rfl, ⟨b, us, ev, upd_same, hr.same (s2.trans s3)⟩, r.same s3⟩, fun c o qc => ?_, fun c nc => ?_, fun z => nomatch z⟩
          · by_cases ec : c = b
            · rw [ec, upd_same] at qc
              rw [ec, hv]
              exact qc
            · rw [upd_ne ec] at qc
              exact fh _ _ qc
          · by_cases ec : c = b
            · rw [ec]
              exact .inr (mem_ownedE hb (List.mem_map.mpr ⟨(b, .lst es), cellOf_mem hc, rfl⟩))
            · rw [upd_ne ec] at nc
              exact nw c nc
        · exact w'.elim
      · exact w'.elim
    | ext d =>
      have rd : Rep K F d v := h.temps (v, .ext d) List.mem_cons_self
      have h' : Holds K e env (vs.zip xs ++ T) F σ H := h.pop
      obtain ⟨ds, F1, Fc, w1, h1, s1, s2, r, fh, nw, na⟩ := Holds.lend (q := fun ds => q (d :: ds)) le' h' w
      exact ⟨d :: ds, F1, Fc, w1, h1, s1, s2, ⟨v, vs, rfl, Rep.same (s1.trans s2) rd, r⟩, fh, nw, na⟩
    | lst a es =>
      obtain ⟨F0, s0, h0⟩ := h.freezeT
      have rd : Rep K F0 (.lst es) v := h0.temps (v, .ext (.lst es)) List.mem_cons_self
      have h' : Holds K e env (vs.zip xs ++ T) F0 σ H := h0.pop
      obtain ⟨ds, F1, Fc, w1, h1, s1, s2, r, fh, nw, na⟩ := Holds.lend (q := fun ds => q (.lst es :: ds)) le' h' w
      exact ⟨.lst es :: ds, F1, Fc, w1, h1, s0.trans s1, s2, ⟨v, vs, rfl, Rep.same (s1.trans s2) rd, r⟩, fh, nw, na⟩
    | al i a =>
      have ev : v = .ref a := h.temps (v, .al i a) List.mem_cons_self
      have h' : Holds K e env (vs.zip xs ++ T) F σ H := h.pop
      have w' : (match env[i]? with | some (.lst b ds) => b = a ∧ HD.wds env xs (fun es => q (.lst ds :: es)) | _ => False) := w
      split at w'
      · rename_i b es hb
        obtain ⟨rfl, w'⟩ := w'
        obtain ⟨ds, F1, Fc, w1, h1, s1, s2, r, fh, nw, na⟩ := Holds.lend (q := fun ds => q (.lst es :: ds)) le' h' w'
        rcases h1.slots i _ hb with z | ⟨u, hu, e1, e2, us, hv, hr⟩
        · cases z
        · have s3 : Same Fc (upd Fc b (.lst us)) := fun c o qc => by
            by_cases nc : c = b
            · rw [nc] at qc ⊢
              have := fh _ _ qc
              rw [hv] at this
              rw [upd_same]
              exact this
            · rw [upd_ne nc]
              exact qc
          refine ⟨.lst es :: ds, F1, upd Fc b (.lst us), w1, h1, s1, s2.trans s3, ⟨v, vs, rfl, ⟨b, us, ev, upd_same, hr.same (s2.trans s3)⟩, r.same s3⟩, fun c o qc => ?_, fun c nc => ?_, fun z => nomatch z⟩
          · by_cases ec : c = b
            · rw [ec, upd_same] at qc
              rw [ec, hv]
              exact qc
            · rw [upd_ne ec] at qc
              exact fh _ _ qc
          · by_cases ec : c = b
            · rw [ec]
              exact .inr (mem_ownedE hb (List.mem_singleton.mpr rfl))
            · rw [upd_ne ec] at nc
              exact nw c nc
      · exact w'.elim
theorem Holds.thaw {F1 Fc F' H' : Hp} (h : Holds K e env T F1 σ H) (s2 : Same F1 Fc) (nw : ∀ b, Fc b ≠ none → F1 b ≠ none ∨ b ∈ ownedE env) (l : Left [] Fc H F' H') :
    ∃ F2, Left [] F1 H F2 H' ∧ (∀ (d : D) (v : V), d.imm = true → Rep K F' d v → Rep K F2 d v) ∧ (∀ (ds : List D) (vs : List V), D.imms ds = true → Reps K F' ds vs → Reps K F2 ds vs) ∧ ∀ b, F' b = none → F2 b = none := by
  have old := h.ownedL
  have sT : ∀ a xs, SqT K F' a xs → SqT K (fun b => if b ∈ ownedE env then none else F' b) a xs := fun a xs hs => by
    have out : ∀ o, F' a = some o → a ∈ ownedE env → Loose o := fun o q m => by
      obtain ⟨_, us, hu, lo⟩ := old a (List.mem_append_left _ m)
      have z := (l.out a _ hu (fun z => nomatch z)).1
      rw [l.fh _ _ q] at z
      rw [Option.some.inj z]
      exact lo
    rcases hs with (hs | ⟨o, hs⟩) | hs
    · refine .inl (.inl ?_)
      have n : a ∉ ownedE env := fun m => by
        obtain ⟨z1, z2⟩ := out _ hs m
        first | exact z1 _ rfl | exact z2 _ _ rfl
      show (if a ∈ ownedE env then none else F' a) = _
      rw [if_neg n]
      exact hs
    · refine .inl (.inr ⟨o, ?_⟩)
      have n : a ∉ ownedE env := fun m => by
        obtain ⟨z1, z2⟩ := out _ hs m
        first | exact z1 _ rfl | exact z2 _ _ rfl
      show (if a ∈ ownedE env then none else F' a) = _
      rw [if_neg n]
      exact hs
    · exact .inr hs
  have sD : ∀ a xs, TupD K F' a xs → TupD K (fun b => if b ∈ ownedE env then none else F' b) a xs := fun a xs hs => by
    rcases hs with ⟨o, hs, d⟩ | hs
    · refine .inl ⟨o, ?_, d⟩
      have n : a ∉ ownedE env := fun m => by
        obtain ⟨_, us, hu, lo⟩ := old a (List.mem_append_left _ m)
        have z := (l.out a _ hu (fun z => nomatch z)).1
        rw [l.fh _ _ hs] at z
        cases z
        obtain ⟨z1, z2⟩ := lo
        first | exact z1 _ rfl | exact z2 _ _ rfl
      show (if a ∈ ownedE env then none else F' a) = _
      rw [if_neg n]
      exact hs
    · exact .inr hs
  refine ⟨fun b => if b ∈ ownedE env then none else F' b, ⟨fun b o q => ?_, fun b o q => ?_, fun b o q n => ?_⟩, fun d v n r => Rep.ofT sT sD n r, fun ds vs n r => Reps.ofT sT sD n r, fun b q => ?_⟩
  · have n : b ∉ ownedE env := fun m => by
      rw [(old b (List.mem_append_left _ m)).1] at q
      cases q
    show (if b ∈ ownedE env then none else F' b) = _
    rw [if_neg n]
    exact l.ff _ _ (s2 _ _ q)
  · have q' : (if b ∈ ownedE env then none else F' b) = some o := q
    split at q'
    · cases q'
    · exact l.fh _ _ q'
  · obtain ⟨r1, r2⟩ := l.out b o q n
    refine ⟨r1, fun z => ?_⟩
    show (if b ∈ ownedE env then none else F' b) = none
    by_cases m : b ∈ ownedE env
    · rw [if_pos m]
    · rw [if_neg m]
      refine r2 ?_
      cases y : Fc b with
      | none => rfl
      | some o' =>
        rcases nw b (by rw [y]; simp) with t | t
        · exact absurd z t
        · exact absurd t m
  · show (if b ∈ ownedE env then none else F' b) = none
    split
    · rfl
    · exact q
theorem ownedE_ext (ds : List D) : ownedE (ds.map Sl.ext) = [] := by
  unfold ownedE
  rw [List.flatMap_eq_nil_iff]
  intro x hx
  obtain ⟨d, _, rfl⟩ := List.mem_map.mp hx
  rfl
theorem argsE {F : Hp} {ds : List D} {vs : List V} (fh : Same F H) (r : Reps K F ds vs) : Holds K (entOf F H (ds.map .ext)) (ds.map .ext) [] F (vs.map some) H := by
  have own := ownedE_ext ds
  refine ⟨fh, by rw [List.length_map, List.length_map, r.length], fun i sl q => ?_, (fun p hp => nomatch hp), by rw [own]; exact List.nodup_nil, Same.refl _, fun a o q _ => ⟨q, fun z => z⟩, fun a ha => ?_⟩
  · rw [List.getElem?_map] at q
    cases z : ds[i]? with
    | none =>
      rw [z] at q
      cases q
    | some d =>
      rw [z] at q
      have e := Option.some.inj q
      subst e
      obtain ⟨v, hv, rd⟩ := r.get z
      exact .inr ⟨v, by rw [List.getElem?_map, hv]; rfl, rd⟩
  · rw [own] at ha
    cases ha
end
def dCall (spec : DSpec) (ta : DTA) : DT := fun Ex env Q => ta Ex env fun xs env1 => wds env1 xs fun ds =>
  spec (ds.map .ext) (fun r _ => (anyAl xs = false ∨ r.imm = true) ∧ r.plain ∧ Q r env1) (fun c _ => Ex c env1)
theorem im_call {K : PySem.W.Frag} {W : WX} {spec : DSpec} {n : Nat} {ta : TA} {t : DTA} (h : ImA K W ta t) (hn : ∀ ds Q X, spec ds Q X → ds.length = n) : Im K W (tCallS (toSp K n spec) (WE W) ta) (dCall spec t) := fun e Ex hl env T F σ H Q R hh ht hR => by
  refine h e Ex hl env T F σ H _ _ hh ht fun vs H1 F1 env1 xs le hh1 q1 => ?_
  obtain ⟨ds, F2, Fc, q2, hh2, sm1, sm2, rr, fh, nw, na⟩ := hh1.lend le q1
  have back : ∀ (H' F' : Hp), Same Fc F' → Same F' H' → (∀ a o, H1 a = some o → a ∉ ownedE (ds.map Sl.ext) → H' a = some o ∧ (Fc a = none → F' a = none)) → Left [] Fc H1 F' H' := fun H' F' a b c => ⟨a, b, fun x o q _ => c x o q (by rw [ownedE_ext]; exact fun z => nomatch z)⟩
  refine ⟨Fc, ds.map .ext, _, _, ?_, argsE fh rr, q2, fun v H' F' r fin hf hq => ?_, fun c H' F' fin hf hq => ?_⟩
  · rw [← hn _ _ _ q2, List.length_map, rr.length]
  · obtain ⟨qi, qp, q3⟩ := hq
    have l := back H' F' hf.s1 hf.fh hf.s2
    have own : ∀ a ∈ r.owned, H1 a = none := fun a ha => by
      have m : a ∈ ownedE fin ++ ownedT [(v, r)] := List.mem_append_right _ (by
        show a ∈ r.owned ++ []
        rw [List.append_nil]
        exact ha)
      rcases hf.s3 a m with z | z
      · have z' : a ∈ ownedE (ds.map Sl.ext) := z
        rw [ownedE_ext] at z'
        cases z'
      · exact z
    have ok := hf.temps (v, r) List.mem_cons_self
    by_cases al : anyAl xs = false
    · have ec := na al
      subst ec
      exact hR v H' F' env1 r (hh2.left0 l ok own) q3
    · have im : r.imm = true := by
        rcases qi with z | z
        · exact absurd z al
        · exact z
      obtain ⟨F3, l3, t1, t2, t3⟩ := hh2.thaw sm2 nw l
      refine hR v H' F3 env1 r (hh2.left0 l3 ?_ own) q3
      cases r with
      | un => exact nomatch im
      | al i a => exact nomatch im
      | reg _ _ => exact nomatch im
      | ar _ _ => exact nomatch im
      | ext d => exact t1 d v im ok
      | lst a es =>
        obtain ⟨e1, e2, us, hu, hr⟩ := ok
        exact ⟨e1, t3 _ e2, us, hu, t2 es us im hr⟩
  · have l := back H' F' hf.s1 hf.fh hf.s2
    obtain ⟨F3, l3, _, _, _⟩ := hh2.thaw sm2 nw l
    have h4 := hh2.left0 (v := .non) (r := .ext .non) l3 rfl (fun a z => nomatch z)
    exact hl c env1 F3 σ H' h4.bare hq
def dCallJ (spec : DSpec) (i : Nat) (ta : DTA) : DT := fun Ex env Q => match env[i]? with
  | some (.lst a _) => ta Ex env fun xs env1 => match env1[i]? with
    | some (.lst b ds) => b = a ∧ frozs env1 xs fun es => spec (.lst a ds :: es.map .ext)
        (fun r fin => match fin with | s' :: _ => s'.plain ∧ r.plain ∧ Q r (env1.set i s') | [] => False) (fun c fin => match fin with | s' :: _ => s'.plain ∧ Ex c (env1.set i s') | [] => False)
    | _ => False
  | _ => False
theorem im_callJ {K : PySem.W.Frag} {W : WX} {spec : DSpec} {n i : Nat} {ta : TA} {t : DTA} (h : ImA K W ta t) (hn : ∀ ds Q X, spec ds Q X → ds.length = n) : Im K W (tCallS (toSp K n spec) (WE W) (tCons (tVar i) ta)) (dCallJ spec i t) := fun e Ex hl env T F σ H Q R hh ht hR => by
  unfold dCallJ at ht
  split at ht
  · rename_i a ds0 hi0
    rcases hh.slots i _ hi0 with z | ⟨v0, hv0, e0, _⟩
    · cases z
    · subst e0
      refine ⟨_, hv0, ?_⟩
      refine h e Ex hl env T F σ H _ _ hh ht fun vs H1 F1 env1 xs le hh1 q1 => ?_
      split at q1
      · rename_i b ds hi
        obtain ⟨rfl, q1⟩ := q1
        obtain ⟨es, F2, sm, hh2, rr, q2⟩ := hh1.frozs le q1
        have own0 : ownedE (Sl.lst b ds :: es.map Sl.ext) = [b] := by
          show [b] ++ ownedE (es.map Sl.ext) = [b]
          rw [ownedE_ext, List.append_nil]
        have hs := hh2.slots i _ hi
        have okJ : SlOk K F2 H1 (.ref b) (.lst b ds) := by
          rcases hs with z | ⟨w, _, e1, r⟩
          · cases z
          · exact ⟨rfl, r⟩
        have hE := argsE (K := K) hh2.fh rr
        have hA : Holds K (entOf F2 H1 (Sl.lst b ds :: es.map Sl.ext)) (Sl.lst b ds :: es.map Sl.ext) [] F2 ((V.ref b :: vs).map some) H1 := by
          refine ⟨hh2.fh, ?_, fun j sl q => ?_, (fun p hp => nomatch hp), ?_, Same.refl _, fun a o q _ => ⟨q, fun z => z⟩, fun a ha => ?_⟩
          · have z := hE.len
            show (es.map Sl.ext).length + 1 = (vs.map some).length + 1
            rw [z]
          · cases j with
            | zero =>
              have z := Option.some.inj q
              subst z
              exact .inr ⟨.ref b, rfl, okJ⟩
            | succ j => exact hE.slots j sl q
          · rw [own0]
            show ([b] ++ ([] : List Addr)).Nodup
            simp
          · rw [show ownedT ([] : Tmp) = [] from rfl, List.append_nil] at ha
            exact .inl ha
        have back : ∀ (H' F' : Hp) (fin : Env') (U : Tmp), Holds K (entOf F2 H1 (Sl.lst b ds :: es.map Sl.ext)) fin U F' ((V.ref b :: vs).map some) H' → Left [b] F2 H1 F' H' := fun H' F' fin U hf =>
          ⟨hf.s1, hf.fh, fun x o q nx => hf.s2 x o q (by
            show x ∉ ownedE (Sl.lst b ds :: es.map Sl.ext)
            rw [own0]
            exact nx)⟩
        have ownF : ∀ (H' F' : Hp) (fin : Env') (U : Tmp), Holds K (entOf F2 H1 (Sl.lst b ds :: es.map Sl.ext)) fin U F' ((V.ref b :: vs).map some) H' → ∀ x ∈ ownedE fin ++ ownedT U, x = b ∨ H1 x = none := fun H' F' fin U hf x hx => by
          rcases hf.s3 x hx with z | z
          · have z' : x ∈ ownedE (Sl.lst b ds :: es.map Sl.ext) := z
            rw [own0] at z'
            exact .inl (List.mem_singleton.mp z')
          · exact .inr z
        refine ⟨F2, Sl.lst b ds :: es.map Sl.ext, _, _, ?_, hA, q2, fun v H' F' r fin hf hq => ?_, fun c H' F' fin hf hq => ?_⟩
        · rw [← hn _ _ _ q2]
          show vs.length + 1 = (es.map Sl.ext).length + 1
          rw [List.length_map, rr.length]
        · cases fin with
          | nil => exact hq.elim
          | cons s' fr =>
            obtain ⟨qs, qr, q3⟩ := hq
            have ok' : SlOk K F' H' (.ref b) s' := by
              rcases hf.slots 0 s' rfl with z | ⟨w, hw, ok⟩
              · subst z
                trivial
              · have z := Option.some.inj (Option.some.inj hw)
                subst z
                exact ok
            have sub : (s'.owned ++ r.owned).Sublist (ownedE (s' :: fr) ++ ownedT [(v, r)]) := by
              show (s'.owned ++ r.owned).Sublist ((s'.owned ++ ownedE fr) ++ (r.owned ++ []))
              rw [List.append_nil]
              exact (List.sublist_append_left _ _).append (List.Sublist.refl _)
            exact hR v H' F' _ r (hh2.left1 hi (back H' F' _ _ hf) (hf.temps (v, r) List.mem_cons_self) ok' (fun x hx => ownF H' F' _ _ hf x (sub.subset hx)) (hf.nd.sublist sub) qs) q3
        · cases fin with
          | nil => exact hq.elim
          | cons s' fr =>
            obtain ⟨qs, q3⟩ := hq
            have ok' : SlOk K F' H' (.ref b) s' := by
              rcases hf.slots 0 s' rfl with z | ⟨w, hw, ok⟩
              · subst z
                trivial
              · have z := Option.some.inj (Option.some.inj hw)
                subst z
                exact ok
            have sub : (s'.owned ++ (Sl.ext .non).owned).Sublist (ownedE (s' :: fr) ++ ownedT []) := by
              show (s'.owned ++ []).Sublist ((s'.owned ++ ownedE fr) ++ [])
              rw [List.append_nil, List.append_nil]
              exact List.sublist_append_left _ _
            have h5 := hh2.left1 (v := .non) (r := .ext .non) hi (back H' F' _ _ hf) rfl ok' (fun x hx => ownF H' F' _ _ hf x (sub.subset hx)) (hf.nd.sublist sub) qs
            exact hl c _ F' σ H' h5.bare q3
      · exact q1.elim
  · exact ht.elim
structure Def (G : GG) (kf : Nat) (x : Str) (n : Nat) (spec : DSpec) : Prop where
  ex : ∃ f fd ps, FnG G.P G.w G.K G.mg G.base (L2.CX G.P G.w) kf f fd ps (toSp G.K n spec) ∧ G.mg x = some (.ref f) ∧ PySem.W.keepIn G.K (.ref f) = true ∧ Binds G.K fd ps []
  len : ∀ ds Q X, spec ds Q X → ds.length = n
section
variable {G : GG} {N : List Str} {sc : SC} {k kf n : Nat} {x : Str} {spec : DSpec} {e : Expr} {es : List Expr} {p pos : Pos}
theorem Def.pe {W : WX} {X : Cx} {ta : TA} (d : Def G kf x n spec) (S : Sit G N sc W k X) (hk : kf ≤ k) (hg : GlS sc x) (ha : PA X (e :: es) ta) (hdb : (x == ("__debug__" : Str)) = false) (he : NoStar e es) (hpl : ∀ env, (backTo pos (starEach es env)).any (·.1) = false) :
    PE X (.Call (.Name x p) (e :: es) [] pos) (tCallS (toSp G.K n spec) (WE W) ta) := by
  obtain ⟨f, fd, ps, h1, h2, h3, h4⟩ := d.ex
  have pass : ∀ σ, PassesAt (L2.CX X.prog X.w) X σ (WE W σ) := fun σ => passAt S.tk σ
  rw [← S.prog, ← S.w, ← S.K, ← S.mg, ← S.base] at h1
  rw [← S.K] at h3 h4 ⊢
  rw [← S.mg] at h2
  refine ⟨fun pins s σ H Q I h => ?_⟩
  refine wpAny_Call_Name_kw (ld_glob I (S.gl hg) h2 ?_ hdb)
  refine PySem.W.callWith_K (h₀ := X.base) I.ok.mod.kin h3 (thn (ha.run pos pins s σ H _ I h) fun us s1 ⟨vs, H1, I1, r, q⟩ => ⟨I1.kIn, ?_⟩) (he _) (hpl _)
  exact runG h1 S.gd (S.room.mono hk) h4 (pass σ) I1 r q
theorem de_call {ta : DTA} (d : Def G kf x n spec) (ha : DAs G N sc k (e :: es) ta) (hk : kf ≤ k := by decide) (hg : GlS sc x := by rfl) (hdb : (x == ("__debug__" : Str)) = false := by decide) (he : NoStar e es := by intro _; rfl) (hpl : ∀ env, (backTo pos (starEach es env)).any (·.1) = false := by intro _; rfl) :
    DE G N sc k (.Call (.Name x p) (e :: es) [] pos) (dCall spec ta) := ⟨fun W => by
  obtain ⟨te, p1, i1⟩ := ha.ex W
  exact ⟨tCallS (toSp G.K n spec) (WE W) te, fun X S => d.pe S hk hg (p1 X S) hdb he hpl, im_call i1 d.len⟩⟩
theorem de_callJ {ta : DTA} {y : Str} {py : Pos} (i : Nat) (d : Def G kf x n spec) (ha : DAs G N sc k es ta) (hk : kf ≤ k := by decide) (hg : GlS sc x := by rfl) (hN : N[i]? = some y := by rfl)
    (hv : Vis sc.sc y := by first | exact Or.inl rfl | exact Or.inr (Or.inl rfl) | exact Or.inr (Or.inr rfl)) (hdb : (x == ("__debug__" : Str)) = false := by decide) (hdy : (y == ("__debug__" : Str)) = false := by decide) (hcy : (y == ("__classdict__" : Str)) = false := by decide)
    (he : NoStar (.Name y py) es := by intro _; rfl) (hpl : ∀ env, (backTo pos (starEach es env)).any (·.1) = false := by intro _; rfl) :
    DE G N sc k (.Call (.Name x p) (.Name y py :: es) [] pos) (dCallJ spec i ta) := ⟨fun W => by
  obtain ⟨te, p1, i1⟩ := ha.ex W
  refine ⟨tCallS (toSp G.K n spec) (WE W) (tCons (tVar i) te), fun X S => d.pe S hk hg (pa_cons (pe_var (by rw [S.nms]; exact hN) (S.vis hv) hdy hcy) (p1 X S) (he _)) hdb he hpl, im_callJ i1 d.len⟩⟩
end
end HD
namespace HD
open PySem L2
structure DEnds where
  nx : Env' → Prop
  rt : Sl → Env' → Prop
  bk : Env' → Prop := fun _ => False
  ct : Env' → Prop := fun _ => False
abbrev DTS := DX → DEnds → Env' → Prop
structure EndsOk (K : PySem.W.Frag) (e : Ent) (E : DEnds) (Dn : Ends) : Prop where
  nx : ∀ env F σ H, Holds K e env [] F σ H → E.nx env → Dn.nx σ H
  rt : ∀ env F σ H v r, Holds K e env [(v, r)] F σ H → E.rt r env → Dn.rt v H
  bk : ∀ env F σ H, Holds K e env [] F σ H → E.bk env → Dn.bk σ H
  ct : ∀ env F σ H, Holds K e env [] F σ H → E.ct env → Dn.ct σ H
def ImS (K : PySem.W.Frag) (W : WX) (ts : TS) (t : DTS) : Prop :=
  ∀ (e : Ent) (Ex : DX), Link K e W Ex → ∀ (env : Env') (F : Hp) (σ : St) (H : Hp) (E : DEnds) (Dn : Ends), Holds K e env [] F σ H → t Ex E env → EndsOk K e E Dn → ts Dn σ H
structure DS (G : GG) (N : List Str) (sc : SC) (k : Nat) (st : Stmt) (t : DTS) : Prop where
  ex : ∀ W : WX, ∃ ts, (∀ X, Sit G N sc W k X → PS X st ts) ∧ ImS G.K W ts t
structure DSs (G : GG) (N : List Str) (sc : SC) (k : Nat) (st : List Stmt) (t : DTS) : Prop where
  ex : ∀ W : WX, ∃ ts, (∀ X, Sit G N sc W k X → PSs X st ts) ∧ ImS G.K W ts t
section
variable {G : GG} {N : List Str} {sc : SC} {k : Nat} {st : Stmt} {rest : List Stmt} {t u : DTS} {a : Expr} {ta : DT} {pos : Pos}
def sNext : DTS := fun _ E env => E.nx env
def sSeq (t u : DTS) : DTS := fun Ex E env => t Ex { E with nx := fun env1 => u Ex E env1 } env
theorem dss_nil : DSs G N sc k [] sNext := ⟨fun W => ⟨tNext, fun X S => pss_nil, fun e Ex hl env F σ H E Dn hh ht ok => ok.nx env F σ H hh ht⟩⟩
theorem dss_cons (h1 : DS G N sc k st t) (h2 : DSs G N sc k rest u) : DSs G N sc k (st :: rest) (sSeq t u) := ⟨fun W => by
  obtain ⟨ts, p1, i1⟩ := h1.ex W
  obtain ⟨us, p2, i2⟩ := h2.ex W
  refine ⟨tSeq ts us, fun X S => pss_cons (p1 X S) (p2 X S), fun e Ex hl env F σ H E Dn hh ht ok => ?_⟩
  exact i1 e Ex hl env F σ H _ _ hh ht ⟨fun env1 F1 σ1 H1 hh1 q1 => i2 e Ex hl env1 F1 σ1 H1 E Dn hh1 q1 ok, ok.rt, ok.bk, ok.ct⟩⟩
theorem dss_one (h1 : DS G N sc k st t) : DSs G N sc k [st] t := ⟨fun W => by
  obtain ⟨ts, p1, i1⟩ := h1.ex W
  exact ⟨ts, fun X S => pss_one (p1 X S), i1⟩⟩
def sBreak : DTS := fun _ E env => E.bk env
def sCont : DTS := fun _ E env => E.ct env
def sDrop (t : DT) : DTS := fun Ex E env => t Ex env fun _ env1 => E.nx env1
theorem ds_expr (h : DE G N sc k a ta) (hs : ∀ env, swapsWith a none pos.line env = pure false := by intro _; rfl) : DS G N sc k (.Expr a pos) (sDrop ta) := ⟨fun W => by
  obtain ⟨te, p1, i1⟩ := h.ex W
  refine ⟨tDrop te, fun X S => ps_expr (p1 X S) (hs _), fun e Ex hl env F σ H E Dn hh ht ok => ?_⟩
  exact i1 e Ex hl env [] F σ H _ _ hh ht fun v H1 F1 env1 x hh1 q1 => ok.nx env1 F1 σ H1 hh1.pop q1⟩
def retD (env : Env') (x : Sl) (q : Sl → Env' → Prop) : Prop := match x with
  | .al i a => match env[i]? with
    | some (.lst b ds) => b = a ∧ q (.lst a ds) (env.set i .un)
    | _ => False
  | .un => False
  | .ext d => q (.ext d) env
  | .lst a ds => q (.lst a ds) env
  | .reg a cs => q (.reg a cs) env
  | .ar _ _ => False
def sRet (t : DT) : DTS := fun Ex E env => t Ex env fun x env1 => retD env1 x E.rt
theorem Holds.ret {K : PySem.W.Frag} {e : Ent} {env : Env'} {T : Tmp} {F : Hp} {σ : St} {H : Hp} {v : V} {x : Sl} {q : Sl → Env' → Prop} (h : Holds K e env ((v, x) :: T) F σ H) (w : retD env x q) : ∃ r env', Holds K e env' ((v, r) :: T) F σ H ∧ r.plain ∧ q r env' := by
  cases x with
  | un => exact w.elim
  | ext d => exact ⟨_, _, h, trivial, w⟩
  | lst a ds => exact ⟨_, _, h, trivial, w⟩
  | reg a ds => exact ⟨_, _, h, trivial, w⟩
  | ar _ _ => exact w.elim
  | al i a =>
    have ev : v = .ref a := h.temps (v, .al i a) List.mem_cons_self
    have w' : (match env[i]? with | some (.lst b ds) => b = a ∧ q (.lst a ds) (env.set i .un) | _ => False) := w
    split at w'
    · rename_i b ds hb
      obtain ⟨rfl, w'⟩ := w'
      rcases h.slots i _ hb with z | ⟨u, hu, e1, _⟩
      · cases z
      · subst e1
        subst ev
        exact ⟨_, _, h.pop.take hb hu, trivial, w'⟩
    · exact w'.elim
theorem ds_ret (h : DE G N sc k a ta) : DS G N sc k (.Return (some a) pos) (sRet ta) := ⟨fun W => by
  obtain ⟨te, p1, i1⟩ := h.ex W
  refine ⟨tRet te, fun X S => ps_ret (p1 X S), fun e Ex hl env F σ H E Dn hh ht ok => ?_⟩
  refine i1 e Ex hl env [] F σ H _ _ hh ht fun v H1 F1 env1 x hh1 q1 => ?_
  obtain ⟨r, env2, hh2, _, q2⟩ := hh1.ret q1
  exact ok.rt env2 F1 σ H1 v r hh2 q2⟩
def sRetN : DTS := fun _ E env => E.rt (.ext .non) env
def sIf (c : DTT) (t u : DTS) : DTS := fun Ex E env => c Ex env fun b env1 => if b = true then t Ex E env1 else u Ex E env1
theorem ds_if {c : Expr} {x y : List Stmt} {tc : DTT} (hc : DTe G N sc k c tc) (h1 : DSs G N sc k x t) (h2 : DSs G N sc k y u) : DS G N sc k (.If c x y pos) (sIf tc t u) := ⟨fun W => by
  obtain ⟨tt, p0, i0⟩ := hc.ex W
  obtain ⟨ts, p1, i1⟩ := h1.ex W
  obtain ⟨us, p2, i2⟩ := h2.ex W
  refine ⟨tIfS tt ts us, fun X S => ps_if (p0 X S) (p1 X S) (p2 X S), fun e Ex hl env F σ H E Dn hh ht ok => ?_⟩
  refine i0 e Ex hl env [] F σ H _ _ hh ht fun b H1 F1 env1 hh1 q1 => ?_
  cases b with
  | true =>
    rw [if_pos rfl] at q1 ⊢
    exact i1 e Ex hl env1 F1 σ H1 E Dn hh1 q1 ok
  | false =>
    rw [if_neg Bool.false_ne_true] at q1 ⊢
    exact i2 e Ex hl env1 F1 σ H1 E Dn hh1 q1 ok⟩
def sFz (i : Nat) (t : DTS) : DTS := fun Ex E env => match env[i]? with
  | some (.lst _ ds) => t Ex E (env.set i (.ext (.lst ds)))
  | _ => t Ex E env
abbrev DTG := D → Env' → (Env' → Prop) → Prop
def Only (vs : List Nat) (σ σ' : St) : Prop := (∀ i, i ∉ vs → σ'[i]? = σ[i]?) ∧ σ'.length = σ.length
def ImG (K : PySem.W.Frag) (vs : List Nat) (g : TG) (t : DTG) : Prop := ∀ (e : Ent) (env : Env') (T : Tmp) (F : Hp) (σ : St) (H : Hp) (v : V) (d : D) (Q : Env' → Prop) (R : St → Hp → Prop),
  Holds K e env T F σ H → Rep K F d v → t d env Q → (∀ env' σ', Holds K e env' T F σ' H → Only vs σ σ' → Q env' → R σ' H) → g v σ H R
structure DG (G : GG) (N : List Str) (sc : SC) (tg : Expr) (vs : List Nat) (t : DTG) : Prop where
  ex : ∃ g, (∀ W k X, Sit G N sc W k X → PG X tg g) ∧ ImG G.K vs g t
def LocS (sc : SC) (x : Str) : Prop := sc.sc.names.lookup x = some .local ∨ (sc.sc.names.lookup x = some .cell ∧ sc.own x = true)
theorem Sit.loc {W : WX} {X : Cx} {x : Str} (S : Sit G N sc W k X) (h : LocS sc x) : Loc X.env.scope x ∧ (X.fn x = true ∨ X.env.scope.names.lookup x = some .local) := by
  rcases h with h | h
  · exact ⟨.inl (by rw [S.scp]; exact h), .inr (by rw [S.scp]; exact h)⟩
  · exact ⟨.inr (by rw [S.scp]; exact h.1), .inl (S.fn x h.2)⟩
def gSet (i : Nat) : DTG := fun d env Q => Q (env.set i (.ext d))
theorem dg_name {x : Str} (i : Nat) (hi : N[i]? = some x := by rfl) (hx : LocS sc x := by first | exact Or.inl rfl | exact Or.inr ⟨rfl, rfl⟩) : DG G N sc (.Name x pos) [i] (gSet i) :=
  ⟨gName i, fun W k X S => pg_name (by rw [S.nms]; exact S.nd) (by rw [S.nms]; exact hi) (S.loc hx).1 (S.loc hx).2,
    fun e env T F σ H v d Q R hh rd ht hR => hR _ _ ((hh.pushE rd).assign i trivial) ⟨fun j hj => List.getElem?_set_ne (fun z => hj (by rw [← z]; exact List.mem_singleton.mpr rfl)), List.length_set⟩ ht⟩
abbrev DTGs := List D → Env' → (Env' → Prop) → Prop
def ImGs (K : PySem.W.Frag) (us : List Nat) (g : TGs) (t : DTGs) : Prop := ∀ (e : Ent) (env : Env') (T : Tmp) (F : Hp) (σ : St) (H : Hp) (vs : List V) (ds : List D) (Q : Env' → Prop) (R : St → Hp → Prop),
  Holds K e env T F σ H → Reps K F ds vs → t ds env Q → (∀ env' σ', Holds K e env' T F σ' H → Only us σ σ' → Q env' → R σ' H) → g vs σ H R
structure DGs (G : GG) (N : List Str) (sc : SC) (tgs : List Expr) (vs : List Nat) (t : DTGs) : Prop where
  ex : ∃ g, (∀ W k X, Sit G N sc W k X → PGs X tgs g) ∧ ImGs G.K vs g t
def gsNil : DTGs := fun ds env Q => ds = [] ∧ Q env
def gsCons (t : DTG) (u : DTGs) : DTGs := fun ds env Q => match ds with
  | d :: r => t d env fun env1 => u r env1 Q
  | [] => False
theorem dgs_nil : DGs G N sc [] [] gsNil := ⟨gNil, fun W k X S => pgs_nil, fun e env T F σ H vs ds Q R hh rd ht hR => by
    obtain ⟨rfl, ht⟩ := ht
    exact ⟨rd, hR env σ hh ⟨fun _ _ => rfl, rfl⟩ ht⟩⟩
theorem dgs_cons {e : Expr} {es : List Expr} {vs us : List Nat} {t : DTG} {u : DTGs} (h1 : DG G N sc e vs t) (h2 : DGs G N sc es us u)
    (hs : ∀ env, (assignEach (e :: es) env).map (·.2) = assign e env :: (assignEach es env).map (·.2) := by intro _; rfl) : DGs G N sc (e :: es) (vs ++ us) (gsCons t u) := by
  obtain ⟨g, p1, i1⟩ := h1.ex
  obtain ⟨gs, p2, i2⟩ := h2.ex
  refine ⟨gCons g gs, fun W k X S => pgs_cons (p1 W k X S) (p2 W k X S) (hs _), fun en env T F σ H xs ds Q R hh rd ht hR => ?_⟩
  cases ds with
  | nil => exact ht.elim
  | cons d r =>
    obtain ⟨v, vr, rfl, r1, r2⟩ := rd
    refine ⟨v, vr, rfl, i1 en env T F σ H v d _ _ hh r1 ht fun env1 σ1 hh1 o1 q1 => ?_⟩
    exact i2 en env1 T F σ1 H vr r Q R hh1 r2 q1 fun env2 σ2 hh2 o2 q2 => hR env2 σ2 hh2 ⟨fun i hi => (o2.1 i fun z => hi (List.mem_append_right _ z)).trans (o1.1 i fun z => hi (List.mem_append_left _ z)), o2.2.trans o1.2⟩ q2
def gTupD (n : Nat) (t : DTGs) : DTG := fun d env Q => match d with
  | .tup ds => ds.length = n ∧ t ds env Q
  | .tk ds => ds.length = n ∧ t ds env Q
  | _ => False
theorem dg_tup {es : List Expr} {kk : Nat} {vs : List Nat} {t : DTGs} {n : Nat} (h : DGs G N sc es vs t) (hn : ∀ env, (assignEach es env).length = n := by intro _; rfl) (hst : ∀ env, (assignEach es env).findIdx? (·.1) = none := by intro _; rfl) : DG G N sc (.Tuple es kk pos) vs (gTupD n t) := by
  obtain ⟨g, p1, i1⟩ := h.ex
  refine ⟨gTup G.K n g, fun W k X S => ?_, fun en env T F σ H v d Q R hh rd ht hR => ?_⟩
  · rw [← S.K]
    exact pg_tup S.calm (p1 W k X S) (hn _) (hst _)
  · cases d with
    | tup ds =>
      obtain ⟨a, xs, rfl, hs, hr⟩ := rd
      obtain ⟨hl, ht⟩ := ht
      exact ⟨a, xs, rfl, SqT.same hh.fh hs.sq, by rw [← hr.length]; exact hl, i1 en env T F σ H xs ds Q R hh hr ht hR⟩
    | tk ds =>
      obtain ⟨a, xs, rfl, hs, hr⟩ := rd
      obtain ⟨hl, ht⟩ := ht
      exact ⟨a, xs, rfl, SqT.same hh.fh hs, by rw [← hr.length]; exact hl, i1 en env T F σ H xs ds Q R hh hr ht hR⟩
    | _ => exact ht.elim
def sSet (i : Nat) (t : DT) : DTS := fun Ex E env => t Ex env fun x env1 => retD env1 x fun r env2 => E.nx (env2.set i r)
theorem imS_set {K : PySem.W.Frag} {W : WX} {te : TE} {t : DT} (i : Nat) (h : Im K W te t) : ImS K W (tAsg te (gName i)) (sSet i t) := fun e Ex hl env F σ H E Dn hh ht ok => by
  refine h e Ex hl env [] F σ H _ _ hh ht fun v H1 F1 env1 x hh1 q1 => ?_
  obtain ⟨r, env2, hh2, hp, q2⟩ := hh1.ret q1
  exact ok.nx _ F1 _ H1 (hh2.assign i hp) q2
theorem ds_set {x : Str} {pos' : Pos} (i : Nat) (h : DE G N sc k a ta) (hi : N[i]? = some x := by rfl) (hx : LocS sc x := by first | exact Or.inl rfl | exact Or.inr ⟨rfl, rfl⟩) (hs : ∀ env, env.scope = sc.sc → swapsWith a (some (.Name x pos')) pos.line env = pure false := by intro _ _; rfl) : DS G N sc k (.Assign [.Name x pos'] a pos) (sSet i ta) := ⟨fun W => by
  obtain ⟨te, p1, i1⟩ := h.ex W
  exact ⟨tAsg te (gName i), fun X S => ps_set (by rw [S.nms]; exact S.nd) (by rw [S.nms]; exact hi) (S.loc hx).1 (p1 X S) (hs _ S.scp) (S.loc hx).2, imS_set i i1⟩⟩
def sSetE (i : Nat) (t : DT) : DTS := fun Ex E env => t Ex env fun x env1 => frzD env1 x fun d env2 => E.nx (env2.set i (.ext d))
theorem imS_setE {K : PySem.W.Frag} {W : WX} {te : TE} {t : DT} (i : Nat) (h : Im K W te t) : ImS K W (tAsg te (gName i)) (sSetE i t) := fun e Ex hl env F σ H E Dn hh ht ok => by
  refine h e Ex hl env [] F σ H _ _ hh ht fun v H1 F1 env1 x hh1 q1 => ?_
  obtain ⟨d, F2, env2, _, hh2, rd, q2⟩ := hh1.frz1 q1
  exact ok.nx _ F2 _ H1 ((hh2.pushE rd).assign i trivial) q2
theorem ds_setE {x : Str} {pos' : Pos} (i : Nat) (h : DE G N sc k a ta) (hi : N[i]? = some x := by rfl) (hx : LocS sc x := by first | exact Or.inl rfl | exact Or.inr ⟨rfl, rfl⟩) (hs : ∀ env, env.scope = sc.sc → swapsWith a (some (.Name x pos')) pos.line env = pure false := by intro _ _; rfl) : DS G N sc k (.Assign [.Name x pos'] a pos) (sSetE i ta) := ⟨fun W => by
  obtain ⟨te, p1, i1⟩ := h.ex W
  exact ⟨tAsg te (gName i), fun X S => ps_set (by rw [S.nms]; exact S.nd) (by rw [S.nms]; exact hi) (S.loc hx).1 (p1 X S) (hs _ S.scp) (S.loc hx).2, imS_setE i i1⟩⟩
def sAsg (t : DT) (g : DTG) : DTS := fun Ex E env => t Ex env fun x env1 => frzD env1 x fun d env2 => g d env2 E.nx
theorem ds_asg {tg : Expr} {vs : List Nat} {g : DTG} (h : DE G N sc k a ta) (hg : DG G N sc tg vs g) (hs : ∀ env, swapsWithSole [tg] a pos.line env = pure false := by intro _; rfl) (hw : ∀ env, swappedStores [tg] a env = pure none := by intro _; rfl)
    (h1 : ∀ env, (assignEach [tg] env).map (·.2) = [assign tg env] := by intro _; rfl) : DS G N sc k (.Assign [tg] a pos) (sAsg ta g) := ⟨fun W => by
  obtain ⟨te, p1, i1⟩ := h.ex W
  obtain ⟨gg, p2, i2⟩ := hg.ex
  refine ⟨tAsg te gg, fun X S => ps_asg (p1 X S) (p2 W k X S) (hs _) (hw _) (h1 _), fun e Ex hl env F σ H E Dn hh ht ok => ?_⟩
  refine i1 e Ex hl env [] F σ H _ _ hh ht fun v H1 F1 env1 x hh1 q1 => ?_
  obtain ⟨d, F2, env2, _, hh2, rd, q2⟩ := hh1.frz1 q1
  exact i2 e env2 [] F2 σ H1 v d E.nx Dn.nx hh2 rd q2 fun env3 σ3 hh3 _ q3 => ok.nx env3 F2 σ3 H1 hh3 q3⟩
def Src (K : PySem.W.Frag) (J : It) (items : List D) (keep : Env' → Prop) (F0 : Hp) : Prop :=
  ∀ (e : Ent) (env : Env') (T : Tmp) (F : Hp) (σ : St) (H : Hp) (i : Nat), Holds K e env T F σ H → Same F0 F → keep env →
    (items.length = i → J.stop i H) ∧ ∀ d, items[i]? = some d → J.go i H ∧ ∀ x H2, J.yld i H x H2 → ∃ F2, Grow F H F2 H2 ∧ Rep K F2 d x
abbrev DTI := DX → Env' → (List D → (Env' → Prop) → Env' → Prop) → Prop
def ImI (K : PySem.W.Frag) (W : WX) (wi : TI) (t : DTI) : Prop := ∀ (e : Ent) (Ex : DX), Link K e W Ex → ∀ (env : Env') (T : Tmp) (F : Hp) (σ : St) (H : Hp) (Q : List D → (Env' → Prop) → Env' → Prop) (R : It → Hp → Prop),
  Holds K e env T F σ H → t Ex env Q → (∀ J H' F' env' items keep, Holds K e env' T F' σ H' → Src K J items keep F' → Q items keep env' → R J H') → wi σ H R
structure DI (G : GG) (N : List Str) (sc : SC) (k : Nat) (tg iter : Expr) (t : DTI) : Prop where
  ex : ∀ W : WX, ∃ wi, (∀ X, Sit G N sc W k X → PI X tg iter wi) ∧ ImI G.K W wi t
def atC (i : Nat) (b : Addr) (ds : List D) (env : Env') : Prop := ∃ d cs, env[i]? = some (.reg d cs) ∧ cellOf cs b = some (.lst ds)
def iterD (env : Env') (x : Sl) (q : List D → (Env' → Prop) → Prop) : Prop := match x with
  | .ext (.lst ds) => q ds fun _ => True
  | .lst _ ds => q ds fun _ => True
  | .al i a => match env[i]? with
    | some (.lst b ds) => b = a ∧ q ds fun env' => env'[i]? = some (.lst a ds)
    | _ => False
  | .ar i b => match env[i]? with
    | some (.reg _ cs) => match cellOf cs b with
      | some (.lst ds) => q ds (atC i b ds)
      | _ => False
    | _ => False
  | _ => False
def dIterT (t : DT) : DTI := fun Ex env Q => t Ex env fun x env1 => match x with
  | .ext (.tup ds) => Q ds (fun _ => True) env1
  | _ => False
def rgD (lo hi : Int) : List D := (List.range (hi - lo).toNat).map fun i => D.int (lo + (i : Nat))
theorem src_range {K : PySem.W.Frag} {F0 : Hp} {lo hi : Int} : Src K (Itr lo (hi - lo).toNat) (rgD lo hi) (fun _ => True) F0 := fun e env T F σ H i hh sm _ => by
  have hl : (rgD lo hi).length = (hi - lo).toNat := by
    unfold rgD
    rw [List.length_map, List.length_range]
  refine ⟨fun h => by rw [hl] at h; exact Nat.le_of_eq h, fun d hd => ?_⟩
  have hi' : i < (hi - lo).toNat := by
    rw [← hl]
    exact (List.getElem?_eq_some_iff.mp hd).1
  unfold rgD at hd
  rw [List.getElem?_map, List.getElem?_range hi'] at hd
  have ed := Option.some.inj hd
  refine ⟨hi', fun x H2 hy => ?_⟩
  obtain ⟨rfl, ex⟩ := hy
  refine ⟨F, Grow.refl hh.fh, ?_⟩
  rw [ex, ← ed]
  exact rfl
def small62 (i : Int) : Prop := -(2 ^ 62) ≤ i ∧ i < 2 ^ 62
def dRange1 (t : DTA) : DTI := fun Ex env Q => t Ex env fun xs env1 => match xs with
  | [.ext (.int j)] => small62 j ∧ Q (rgD 0 j) (fun _ => True) env1
  | _ => False
def dRange2 (t : DTA) : DTI := fun Ex env Q => t Ex env fun xs env1 => match xs with
  | [.ext (.int i), .ext (.int j)] => small62 i ∧ small62 j ∧ Q (rgD i j) (fun _ => True) env1
  | _ => False
theorem di_range1 {tg : Expr} {t : DTA} {p : Pos} (h : DAs G N sc k [a] t) (hm : G.mg "range" = none) (hg : GlS sc "range" := by rfl) (hs : ∀ env, starEach [a] env = [(false, eval a env)] := by intro _; rfl) : DI G N sc k tg (.Call (.Name "range" p) [a] [] pos) (dRange1 t) := ⟨fun W => by
  obtain ⟨te, p1, i1⟩ := h.ex W
  refine ⟨iRng1 te, fun X S => pi_range1 (S.gl hg) (by rw [S.mg]; exact hm) (p1 X S) (hs _), fun e Ex hl env T F σ H Q R hh ht hR => ?_⟩
  refine i1 e Ex hl env T F σ H _ _ hh ht fun vs H1 F1 env1 xs le hh1 q1 => ?_
  split at q1
  · rename_i j
    match vs, le, hh1 with
    | [v], _, hh1 =>
      have ev : v = .int j := hh1.temps (v, .ext (.int j)) List.mem_cons_self
      have z := src_range (K := G.K) (F0 := F1) (lo := 0) (hi := j)
      rw [Int.sub_zero] at z
      exact ⟨j, by rw [ev], q1.1.1, q1.1.2, hR _ H1 F1 env1 _ _ hh1.pop z q1.2⟩
  · exact q1.elim⟩
theorem di_range2 {b : Expr} {tg : Expr} {t : DTA} {p : Pos} (h : DAs G N sc k [a, b] t) (hm : G.mg "range" = none) (hg : GlS sc "range" := by rfl) (hs : ∀ env, starEach [a, b] env = [(false, eval a env), (false, eval b env)] := by intro _; rfl) (hs2 : ∀ env, starEach [b] env = [(false, eval b env)] := by intro _; rfl) :
    DI G N sc k tg (.Call (.Name "range" p) [a, b] [] pos) (dRange2 t) := ⟨fun W => by
  obtain ⟨te, p1, i1⟩ := h.ex W
  refine ⟨iRng2 te, fun X S => pi_range2 (S.gl hg) (by rw [S.mg]; exact hm) (p1 X S) (hs _) (hs2 _), fun e Ex hl env T F σ H Q R hh ht hR => ?_⟩
  refine i1 e Ex hl env T F σ H _ _ hh ht fun vs H1 F1 env1 xs le hh1 q1 => ?_
  split at q1
  · rename_i i j
    match vs, le, hh1 with
    | [v, w], _, hh1 =>
      have ev : v = .int i := hh1.temps (v, .ext (.int i)) List.mem_cons_self
      have ew : w = .int j := hh1.temps (w, .ext (.int j)) (List.mem_cons_of_mem _ List.mem_cons_self)
      exact ⟨i, j, by rw [ev, ew], ⟨q1.1.1, q1.1.2, q1.2.1.1, q1.2.1.2⟩, hR _ H1 F1 env1 _ _ hh1.pop.pop src_range q1.2.2⟩
  · exact q1.elim⟩
abbrev Ent.at (e : Ent) (F1 : Hp) : Ent := ⟨F1, e.H0, e.A0⟩
section
variable {K : PySem.W.Frag} {e : Ent} {env env1 : Env'} {T T1 : Tmp} {F F1 : Hp} {σ σ1 : St} {H H1 : Hp}
theorem Holds.on (h1 : Holds K e env1 T1 F1 σ1 H1) (h : Holds K e env T F σ H) (sm : Same F1 F) : Holds K (e.at F1) env T F σ H :=
  ⟨h.fh, h.len, h.slots, h.temps, h.nd, sm, fun a o q n => ⟨(h.s2 a o q n).1, fun z => (h.s2 a o q n).2 (h1.s1.free z)⟩, h.s3⟩
theorem Holds.off (h1 : Holds K e env1 T1 F1 σ1 H1) (h : Holds K (e.at F1) env T F σ H) : Holds K e env T F σ H :=
  ⟨h.fh, h.len, h.slots, h.temps, h.nd, h1.s1.trans h.s1, fun a o q n => ⟨(h.s2 a o q n).1, fun z => (h.s2 a o q n).2 ((h1.s2 a o q n).2 z)⟩, h.s3⟩
theorem Link.on {W : WX} {Ex : DX} (h1 : Holds K e env1 T1 F1 σ1 H1) (hl : Link K e W Ex) : Link K (e.at F1) W Ex := fun c env F σ H h q => hl c env F σ H (h1.off h) q
theorem EndsOk.on {E : DEnds} {Dn : Ends} (h1 : Holds K e env1 T1 F1 σ1 H1) (ok : EndsOk K e E Dn) : EndsOk K (e.at F1) E Dn :=
  ⟨fun env F σ H h q => ok.nx env F σ H (h1.off h) q, fun env F σ H v r h q => ok.rt env F σ H v r (h1.off h) q, fun env F σ H h q => ok.bk env F σ H (h1.off h) q, fun env F σ H h q => ok.ct env F σ H (h1.off h) q⟩
end
def forD (g : DTG) (body : DTS) (keep : Env' → Prop) (Ex : DX) (E : DEnds) : List D → Env' → Prop
  | [], env => keep env ∧ E.nx env
  | d :: ds, env => keep env ∧ g d env fun env1 => body Ex { E with nx := forD g body keep Ex E ds, ct := forD g body keep Ex E ds, bk := E.nx } env1
def sFor (ti : DTI) (g : DTG) (body : DTS) : DTS := fun Ex E env => ti Ex env fun items keep env1 => forD g body keep Ex E items env1
theorem forD_keep {g : DTG} {body : DTS} {keep : Env' → Prop} {Ex : DX} {E : DEnds} : ∀ {ds : List D} {env : Env'}, forD g body keep Ex E ds env → keep env
  | [], _, h => h.1
  | _ :: _, _, h => h.1
theorem ds_for {tg iter : Expr} {body : List Stmt} {ti : DTI} {vs : List Nat} {g : DTG} {tb : DTS} (hi : DI G N sc k tg iter ti) (hg : DG G N sc tg vs g) (hb : DSs G N sc k body tb) (hs : ∀ env x, foldedSetIterable iter env x = pure x := by intro _ _; rfl) : DS G N sc k (.For tg iter body [] pos) (sFor ti g tb) := ⟨fun W => by
  obtain ⟨wi, p1, i1⟩ := hi.ex W
  obtain ⟨gg, p2, i2⟩ := hg.ex
  obtain ⟨ts, p3, i3⟩ := hb.ex W
  refine ⟨tFor wi gg ts, fun X S => ps_for S.own S.calm (p1 X S) (p2 W k X S) (p3 X S) (hs _), fun e Ex hl env F σ H E Dn hh ht ok => ?_⟩
  refine i1 e Ex hl env [] F σ H _ _ hh ht fun J H1 F1 env1 items keep hh1 src q1 => ?_
  have ok' := ok.on hh1
  refine ⟨fun i m σ' H' => ∃ env' F', Holds G.K (e.at F1) env' [] F' σ' H' ∧ i + m = items.length ∧ forD g tb keep Ex E (items.drop i) env', ⟨items.length, env1, F1, hh1.on hh1 (Same.refl _), by omega, q1⟩, ?_⟩
  rintro i m σ2 H2 ⟨env2, F2, hh2, em, q2⟩
  obtain ⟨s1, s2⟩ := src (e.at F1) env2 [] F2 σ2 H2 i hh2 hh2.s1 (forD_keep q2)
  cases hd : items[i]? with
  | none =>
    have hi : items.length ≤ i := List.getElem?_eq_none_iff.mp hd
    rw [List.drop_eq_nil_of_le hi] at q2
    exact .inl ⟨s1 (by omega), ok'.nx env2 F2 σ2 H2 hh2 q2.2⟩
  | some d =>
    obtain ⟨hi, ed⟩ := List.getElem?_eq_some_iff.mp hd
    rw [List.drop_eq_getElem_cons hi, ed] at q2
    obtain ⟨_, q2⟩ := q2
    obtain ⟨go, yl⟩ := s2 d hd
    refine .inr ⟨go, fun σ' H' => ∃ env' F', Holds G.K (e.at F1) env' [] F' σ' H' ∧ forD g tb keep Ex E (items.drop (i + 1)) env', fun σ' H' ⟨env', F', a1, a3⟩ => ⟨m - 1, by omega, env', F', a1, by omega, a3⟩, fun x H3 hy => ?_⟩
    obtain ⟨F3, gr, rd⟩ := yl x H3 hy
    refine i2 (e.at F1) env2 [] F3 σ2 H3 x d _ _ (hh2.grow gr) rd q2 fun env4 σ4 hh4 _ q4 => ?_
    exact i3 (e.at F1) Ex (hl.on hh1) env4 F3 σ4 H3 _ _ hh4 q4 ⟨fun env5 F5 σ5 H5 hh5 q5 => ⟨env5, F5, hh5, q5⟩, ok'.rt, fun env5 F5 σ5 H5 hh5 q5 => ok'.nx env5 F5 σ5 H5 hh5 q5, fun env5 F5 σ5 H5 hh5 q5 => ⟨env5, F5, hh5, q5⟩⟩⟩
def sWhile (c : DTT) (body : DTS) : DTS := fun Ex E env => ∃ I : Nat → Env' → Prop, (∃ m, I m env) ∧ ∀ m env, I m env → c Ex env fun b env1 =>
  if b = true then body Ex { E with nx := fun env' => ∃ m', m' < m ∧ I m' env', ct := fun env' => ∃ m', m' < m ∧ I m' env', bk := E.nx } env1 else E.nx env1
theorem ds_while {c : Expr} {body : List Stmt} {tc : DTT} {tb : DTS} (hc : DTe G N sc k c tc) (hb : DSs G N sc k body tb) : DS G N sc k (.While c body [] pos) (sWhile tc tb) := ⟨fun W => by
  obtain ⟨tt, p1, i1⟩ := hc.ex W
  obtain ⟨ts, p2, i2⟩ := hb.ex W
  refine ⟨tWhile tt ts, fun X S => ps_while S.own (p1 X S) (p2 X S), fun e Ex hl env F σ H E Dn hh ht ok => ?_⟩
  obtain ⟨I, ⟨m0, h0⟩, turn⟩ := ht
  refine ⟨fun m σ' H' => ∃ env' F', Holds G.K e env' [] F' σ' H' ∧ I m env', ⟨m0, env, F, hh, h0⟩, ?_⟩
  rintro m σ1 H1 ⟨env1, F1, hh1, q1⟩
  refine i1 e Ex hl env1 [] F1 σ1 H1 _ _ hh1 (turn m env1 q1) fun b H2 F2 env2 hh2 q2 => ?_
  cases b with
  | true =>
    rw [if_pos rfl] at q2 ⊢
    refine ⟨fun σ' H' => ∃ m', m' < m ∧ ∃ env' F', Holds G.K e env' [] F' σ' H' ∧ I m' env', fun σ' H' z => z, ?_⟩
    exact i2 e Ex hl env2 F2 σ1 H2 _ _ hh2 q2 ⟨fun env5 F5 σ5 H5 hh5 ⟨m', hm, q5⟩ => ⟨m', hm, env5, F5, hh5, q5⟩, ok.rt, fun env5 F5 σ5 H5 hh5 q5 => ok.nx env5 F5 σ5 H5 hh5 q5, fun env5 F5 σ5 H5 hh5 ⟨m', hm, q5⟩ => ⟨m', hm, env5, F5, hh5, q5⟩⟩
  | false =>
    rw [if_neg Bool.false_ne_true] at q2 ⊢
    exact ok.nx env2 F2 σ1 H2 hh2 q2⟩
end
end HD
namespace HD
open PySem L2
def wipeE (env : Env') : List Nat → Env'
  | [] => env
  | v :: vs => (wipeE env vs).set v .un
section
variable {K : PySem.W.Frag} {e : Ent} {env : Env'} {T : Tmp} {F : Hp} {σ : St} {H : Hp}
theorem Holds.wipe1 (h : Holds K e env T F σ H) (i : Nat) : Holds K e (env.set i .un) T F (σ.set i none) H := by
  have h1 := h.unset i
  refine ⟨h1.fh, by rw [List.length_set, List.length_set]; exact h.len, fun j sl q => ?_, h1.temps, h1.nd, h1.s1, h1.s2, h1.s3⟩
  by_cases ij : i = j
  · subst ij
    rw [List.getElem?_set] at q
    rw [if_pos rfl] at q
    split at q
    · cases q
      exact .inl rfl
    · cases q
  · rcases h1.slots j sl q with z | ⟨v, hv, ok⟩
    · exact .inl z
    · exact .inr ⟨v, by rw [List.getElem?_set_ne ij]; exact hv, ok⟩
theorem Holds.wipe (h : Holds K e env T F σ H) : ∀ vs : List Nat, Holds K e (wipeE env vs) T F (wipe σ vs) H
  | [] => h
  | v :: vs => (Holds.wipe h vs).wipe1 v
theorem Holds.unwipe {vs : List Nat} (h : Holds K e env T F (L2.wipe σ vs) H) : Holds K e env T F σ H :=
  ⟨h.fh, by rw [h.len, wipe_length], fun j sl q => by
    rcases h.slots j sl q with z | ⟨v, hv, ok⟩
    · exact .inl z
    · exact .inr ⟨v, (wipe_some hv).1, ok⟩, h.temps, h.nd, h.s1, h.s2, h.s3⟩
end
theorem wipe_in {σ : St} {i : Nat} : ∀ {vs : List Nat}, i ∈ vs → i < σ.length → (wipe σ vs)[i]? = some none
  | [], h, _ => nomatch h
  | v :: vs, h, hl => by
    unfold wipe
    rw [List.getElem?_set]
    by_cases e : v = i
    · rw [if_pos e, if_pos (by rw [wipe_length, e]; exact hl)]
    · rw [if_neg e]
      rcases List.mem_cons.mp h with z | z
      · exact absurd z.symm e
      · exact wipe_in z hl
theorem wipe_only {σ σ2 : St} {vs : List Nat} (h : Only vs (wipe σ vs) σ2) : wipe σ2 vs = wipe σ vs := by
  have hl : σ2.length = σ.length := by rw [h.2, wipe_length]
  refine List.ext_getElem? fun i => ?_
  by_cases m : i ∈ vs
  · by_cases il : i < σ.length
    · rw [wipe_in m il, wipe_in m (by rw [hl]; exact il)]
    · rw [List.getElem?_eq_none (by rw [wipe_length, hl]; omega), List.getElem?_eq_none (by rw [wipe_length]; omega)]
  · rw [wipe_out m, h.1 i m]
section
variable {G : GG} {N : List Str} {sc : SC} {k : Nat}
theorem Sit.blk {W : WX} {X : Cx} (S : Sit G N sc W k X) (s : Shared) (H : Hp) (scope : Scope) (C : Addr) (cl : List (Str × Addr)) (fp : List Addr) : Sit G N (lcS scope sc) (fun _ _ _ _ => False) k (X.blk s H scope (compEnvC scope cl C X.env) fp) where
  prog := S.prog
  w := S.w
  K := S.K
  mg := S.mg
  base := S.base
  nms := S.nms
  nd := S.nd
  scp := by
    show relabel scope X.env = relab scope sc.sc
    unfold relabel relab
    rw [← S.scp]
    rfl
  calm := S.calm
  room := S.room
  tk := L2.takes0
  fn := fun x h => h
  own := PassesOwn.never
  stk := fun z => by cases z
  gd := S.gd
def dYes : DTT := fun _ env Q => Q true env
structure DTl (G : GG) (N : List Str) (sc : SC) (k : Nat) (ifs : List Expr) (t : DTT) : Prop where
  ex : ∀ W : WX, ∃ te, (∀ X, Sit G N sc W k X → PTs X ifs te) ∧ ImT G.K W te t
theorem dtl_nil : DTl G N sc k [] dYes := ⟨fun W => ⟨tYes, fun X S => pts_nil, fun e Ex hl env T F σ H Q R hh ht hR => hR true H F env hh ht⟩⟩
theorem dtl_one {c : Expr} {t : DTT} (h : DTe G N sc k c t) : DTl G N sc k [c] t := ⟨fun W => by
  obtain ⟨te, p1, i1⟩ := h.ex W
  exact ⟨te, fun X S => pts_one (p1 X S), i1⟩⟩
abbrev noX : DX := fun _ _ => False
def lcD (g : DTG) (tt : DTT) (te : DT) (vs : List Nat) (keep : Env' → Prop) (Q : Sl → Env' → Prop) : List D → List D → Env' → Prop
  | [], acc, env => keep env ∧ ∀ a, Q (.lst a acc) env
  | d :: ds, acc, env => keep env ∧ acc.length < sizeLine ∧ g d env fun env1 => tt noX env1 fun b env2 =>
      if b = true then te noX env2 fun x env3 => frzD env3 x fun d' env4 => lcD g tt te vs keep Q ds (acc ++ [d']) (wipeE env4 vs) else lcD g tt te vs keep Q ds acc (wipeE env2 vs)
def dLc (ti : DTI) (g : DTG) (tt : DTT) (te : DT) (vs : List Nat) : DT := fun Ex env Q => ti Ex env fun items keep env1 => lcD g tt te vs keep Q items [] (wipeE env1 vs)
theorem lcD_keep {g : DTG} {tt : DTT} {te : DT} {vs : List Nat} {keep : Env' → Prop} {Q : Sl → Env' → Prop} : ∀ {ds acc : List D} {env : Env'}, lcD g tt te vs keep Q ds acc env → keep env
  | [], _, _, h => h.1
  | _ :: _, _, _, h => h.1
theorem im_lc {K : PySem.W.Frag} {W : WX} {wi : TI} {gg : TG} {tt' : TT} {te' : TE} {ti : DTI} {g : DTG} {tt : DTT} {te : DT} {vs : List Nat} (i1 : ImI K W wi ti) (i2 : ImG K vs gg g) (i3 : ImT K (fun _ _ _ _ => False) tt' tt) (i4 : Im K (fun _ _ _ _ => False) te' te) : Im K W (tLc wi gg tt' te' vs) (dLc ti g tt te vs) := fun e Ex hl env T F σ H Q R hh ht hR => by
  refine i1 e Ex hl env T F σ H _ _ hh ht fun J H1 F1 env1 items keep hh1 src q1 => fun D hD => ?_
  have nl : Link K (e.at F1) (fun _ _ _ _ => False) noX := fun _ _ _ _ _ _ z => z
  have h0 : Holds K e env1 ((V.ref D, Sl.lst D []) :: T) F1 σ (upd H1 D (.lst [])) := hh1.push (Grow.loose hh1.fh hD) ⟨rfl, hh1.fh.free hD, [], upd_same, rfl⟩ fun a ha => by
    rw [List.mem_singleton.mp ha]
    exact hD
  refine ⟨fun i m H' => ∃ env' F' acc, Holds K (e.at F1) env' ((V.ref D, Sl.lst D acc) :: T) F' (wipe σ vs) H' ∧ i + m = items.length ∧ lcD g tt te vs keep Q (items.drop i) acc env',
    ⟨items.length, wipeE env1 vs, F1, [], (hh1.on h0 (Same.refl _)).wipe vs, by omega, q1⟩, ?_⟩
  rintro i m H2 ⟨env2, F2, acc, hh2, em, q2⟩
  obtain ⟨s1, s2⟩ := src (e.at F1) env2 _ F2 _ H2 i hh2 hh2.s1 (lcD_keep q2)
  cases hd : items[i]? with
  | none =>
    have hi : items.length ≤ i := List.getElem?_eq_none_iff.mp hd
    rw [List.drop_eq_nil_of_le hi] at q2
    exact .inl ⟨s1 (by omega), hR _ H2 F2 env2 _ (hh1.off hh2.unwipe) (q2.2 D)⟩
  | some d =>
    obtain ⟨hi, ed⟩ := List.getElem?_eq_some_iff.mp hd
    rw [List.drop_eq_getElem_cons hi, ed] at q2
    obtain ⟨_, hz, q2⟩ := q2
    obtain ⟨go, yl⟩ := s2 d hd
    refine .inr ⟨go, fun H' => ∃ env' F' acc, Holds K (e.at F1) env' ((V.ref D, Sl.lst D acc) :: T) F' (wipe σ vs) H' ∧ lcD g tt te vs keep Q (items.drop (i + 1)) acc env', fun H' ⟨env', F', acc', a1, a3⟩ => ⟨m - 1, by omega, env', F', acc', a1, by omega, a3⟩, fun x H3 hy => ?_⟩
    obtain ⟨F3, gr, rd⟩ := yl x H3 hy
    refine i2 (e.at F1) env2 _ F3 _ H3 x d _ _ (hh2.grow gr) rd q2 fun env4 σ4 hh4 on4 q4 => ⟨wipe_only on4, ?_⟩
    refine i3 (e.at F1) noX nl env4 _ F3 σ4 H3 _ _ hh4 q4 fun b H5 F5 env5 hh5 q5 => ?_
    cases b with
    | false =>
      rw [if_neg Bool.false_ne_true] at q5 ⊢
      have z := hh5.wipe vs
      rw [wipe_only on4] at z
      exact ⟨_, F5, acc, z, q5⟩
    | true =>
      rw [if_pos rfl] at q5 ⊢
      refine i4 (e.at F1) noX nl env5 _ F5 σ4 H5 _ _ hh5 q5 fun y H6 F6 env6 sl hh6 q6 => ?_
      obtain ⟨d', F7, env7, _, hh7, rd', q7⟩ := hh6.frz1 q6
      obtain ⟨_, _, us, hu, hr⟩ := hh7.temps (V.ref D, Sl.lst D acc) List.mem_cons_self
      refine ⟨us, hu, by rw [← hr.length]; exact hz, ?_⟩
      have z := (hh7.writeT (hr.append (.one rd'))).wipe vs
      rw [wipe_only on4] at z
      exact ⟨_, F7, _, z, q7⟩
variable {elt tg iter : Expr} {ifs : List Expr} {scope : Scope} {own : List (Str × Nat)} {pos : Pos} {ti : DTI} {g : DTG} {tt : DTT} {te : DT}
theorem de_lc (own : List (Str × Nat)) (hi : DI G N sc k tg iter ti) (ok : blkC N sc.sc scope own = true) (hg : DG G N (lcS scope sc) tg (own.map (·.2)) g) (ht : DTl G N (lcS scope sc) k ifs tt) (he : DE G N (lcS scope sc) k elt te) (hs : ∀ env x, foldedSetIterable iter env x = pure x := by intro _ _; rfl) :
    DE G N sc k (.ListComp elt [⟨tg, iter, ifs, 0⟩] scope pos) (dLc ti g tt te (own.map (·.2))) := ⟨fun W => by
  obtain ⟨wi, p1, i1⟩ := hi.ex W
  obtain ⟨gg, p2, i2⟩ := hg.ex
  obtain ⟨tt', p3, i3⟩ := ht.ex fun _ _ _ _ => False
  obtain ⟨te', p4, i4⟩ := he.ex fun _ _ _ _ => False
  refine ⟨tLc wi gg tt' te' (own.map (·.2)), fun X S => ?_, im_lc i1 i2 i3 i4⟩
  exact pe_lc S.calm (by rw [S.nms]; exact S.nd) (p1 X S) (by rw [S.nms, S.scp]; exact blkOk_by ok) (fun s H C cl fp => p2 _ _ _ (S.blk s H scope C cl fp)) (fun s H C cl fp => p3 _ (S.blk s H scope C cl fp)) (fun s H C cl fp => p4 _ (S.blk s H scope C cl fp)) (hs _)⟩
theorem ds_setLc (own : List (Str × Nat)) {y : Str} {py spos : Pos} (i : Nat) (hi : DI G N sc k tg iter ti) (ok : blkC N sc.sc scope own = true) (hg : DG G N (lcS scope sc) tg (own.map (·.2)) g) (ht : DTl G N (lcS scope sc) k ifs tt) (he : DE G N (lcS scope sc) k elt te) (hy : N[i]? = some y := by rfl) (hyl : sc.sc.names.lookup y = some .local := by rfl)
    (hk : sc.sc.kind = .function := by rfl) (hl : (py.line == pos.line) = true := by rfl) (ha : (scope.names.any fun (n, k) => n == y && (k == .local || k == .cell)) = false := by decide +kernel) (hs : ∀ env x, foldedSetIterable iter env x = pure x := by intro _ _; rfl) :
    DS G N sc k (.Assign [.Name y py] (.ListComp elt [⟨tg, iter, ifs, 0⟩] scope pos) spos) (sSet i (dLc ti g tt te (own.map (·.2)))) := ⟨fun W => by
  obtain ⟨wi, p1, i1⟩ := hi.ex W
  obtain ⟨gg, p2, i2⟩ := hg.ex
  obtain ⟨tt', p3, i3⟩ := ht.ex fun _ _ _ _ => False
  obtain ⟨te', p4, i4⟩ := he.ex fun _ _ _ _ => False
  refine ⟨tAsg (tLc wi gg tt' te' (own.map (·.2))) (gName i), fun X S => ?_, imS_set i (im_lc i1 i2 i3 i4)⟩
  have hyX : X.env.scope.names.lookup y = some .local := by
    rw [S.scp]
    exact hyl
  exact ps_setLc S.calm (by rw [S.nms]; exact S.nd) (by rw [S.nms]; exact hy) hyX (sw_true (by rw [S.scp]; exact hk) hyX hl ha) (p1 X S) (by rw [S.nms, S.scp]; exact blkOk_by ok) (fun s H C cl fp => p2 _ _ _ (S.blk s H scope C cl fp)) (fun s H C cl fp => p3 _ (S.blk s H scope C cl fp)) (fun s H C cl fp => p4 _ (S.blk s H scope C cl fp)) (hs _)⟩
theorem ds_setLcE (own : List (Str × Nat)) {y : Str} {py spos : Pos} (i : Nat) (hi : DI G N sc k tg iter ti) (ok : blkC N sc.sc scope own = true) (hg : DG G N (lcS scope sc) tg (own.map (·.2)) g) (ht : DTl G N (lcS scope sc) k ifs tt) (he : DE G N (lcS scope sc) k elt te) (hy : N[i]? = some y := by rfl) (hyl : sc.sc.names.lookup y = some .local := by rfl)
    (hk : sc.sc.kind = .function := by rfl) (hl : (py.line == pos.line) = true := by rfl) (ha : (scope.names.any fun (n, k) => n == y && (k == .local || k == .cell)) = false := by decide +kernel) (hs : ∀ env x, foldedSetIterable iter env x = pure x := by intro _ _; rfl) :
    DS G N sc k (.Assign [.Name y py] (.ListComp elt [⟨tg, iter, ifs, 0⟩] scope pos) spos) (sSetE i (dLc ti g tt te (own.map (·.2)))) := ⟨fun W => by
  obtain ⟨wi, p1, i1⟩ := hi.ex W
  obtain ⟨gg, p2, i2⟩ := hg.ex
  obtain ⟨tt', p3, i3⟩ := ht.ex fun _ _ _ _ => False
  obtain ⟨te', p4, i4⟩ := he.ex fun _ _ _ _ => False
  refine ⟨tAsg (tLc wi gg tt' te' (own.map (·.2))) (gName i), fun X S => ?_, imS_setE i (im_lc i1 i2 i3 i4)⟩
  have hyX : X.env.scope.names.lookup y = some .local := by
    rw [S.scp]
    exact hyl
  exact ps_setLc S.calm (by rw [S.nms]; exact S.nd) (by rw [S.nms]; exact hy) hyX (sw_true (by rw [S.scp]; exact hk) hyX hl ha) (p1 X S) (by rw [S.nms, S.scp]; exact blkOk_by ok) (fun s H C cl fp => p2 _ _ _ (S.blk s H scope C cl fp)) (fun s H C cl fp => p3 _ (S.blk s H scope C cl fp)) (fun s H C cl fp => p4 _ (S.blk s H scope C cl fp)) (hs _)⟩
theorem start_holds {K : PySem.W.Frag} {e : Ent} {args : Env'} {F H : Hp} {vs : List V} (N : List Str) (h : Holds K e args [] F (vs.map some) H) : Holds K e (args ++ List.replicate (N.length - vs.length) .un) [] F (L2.start N vs) H := by
  have own : ownedE (args ++ List.replicate (N.length - vs.length) Sl.un) = ownedE args := by
    unfold ownedE
    rw [List.flatMap_append]
    have z : (List.replicate (N.length - vs.length) Sl.un).flatMap Sl.owned = [] := by
      rw [List.flatMap_eq_nil_iff]
      intro x hx
      rw [List.eq_of_mem_replicate hx]
      rfl
    rw [z, List.append_nil]
  have hl : args.length = vs.length := by
    have z := h.len
    rw [List.length_map] at z
    exact z
  refine ⟨h.fh, ?_, fun i sl q => ?_, h.temps, by rw [own]; exact h.nd, h.s1, h.s2, by rw [own]; exact h.s3⟩
  · unfold L2.start
    rw [List.length_append, List.length_append, List.length_replicate, List.length_replicate, h.len]
  · by_cases hi : i < args.length
    · rw [List.getElem?_append_left hi] at q
      rcases h.slots i sl q with z | ⟨v, hv, ok⟩
      · exact .inl z
      · refine .inr ⟨v, ?_, ok⟩
        unfold L2.start
        rw [List.getElem?_append_left (by rw [List.length_map, ← hl]; exact hi)]
        exact hv
    · rw [List.getElem?_append_right (by omega)] at q
      rw [List.getElem?_replicate] at q
      split at q
      · cases q
        exact .inl rfl
      · cases q
abbrev endsOf (args : Env') (Qd : Sl → List Sl → Prop) : DEnds := { nx := fun env => Qd (.ext .non) (finals args env), rt := fun r env => Qd r (finals args env) }
abbrev exOf (args : Env') (Xd : Str → List Sl → Prop) : DX := fun c env => Xd c (finals args env)
theorem fn_ok {st : Stmt} {x qual : Str} {f : Addr} {fd : FuncData} {ps : List Str} {tb : DTS} {spec : DSpec} (F : Fun G.K x qual st f fd) (S : FnScope N ps (defScope st)) (hb : DSs G N (fnS (defScope st)) k (defBody st) tb)
    (h : ∀ args Qd Xd, spec args Qd Xd → args.length = ps.length → tb (exOf args Xd) (endsOf args Qd) (args ++ List.replicate (N.length - args.length) .un)) : FnG G.P G.w G.K G.mg G.base (L2.CX G.P G.w) (k + 1) f fd ps (toSp G.K ps.length spec) := by
  refine fnG_of F S (fun vs H Q E h => ?_) (fun cdv A outer s H vs Q E gd hr hsp => ?_)
  · obtain ⟨_, _, _, _, hl, _⟩ := h
    exact hl
  · obtain ⟨F0, args, Qd, Xd, hl, hA, hs, hQ, hX⟩ := hsp
    obtain ⟨ts, p1, i1⟩ := hb.ex fun cls d _ H => E cls d H
    have al : args.length = vs.length := by
      have z := hA.len
      rw [List.length_map] at z
      exact z
    refine ⟨ts, p1 _ ?_, ?_⟩
    · exact ⟨rfl, rfl, rfl, rfl, rfl, rfl, S.nd, rfl, rfl, hr, takes_of rfl rfl rfl rfl, fun _ _ => rfl, passes_of rfl, fun _ => ⟨rfl, rfl⟩, gd⟩
    · have hh := start_holds N hA
      rw [← al] at hh
      refine i1 (entOf F0 H args) (exOf args Xd) (fun c env F' σ' H' hh' q => hX c H' F' _ (hA.finals hh') q) _ F0 _ H (endsOf args Qd) _ hh (h args Qd Xd hs (al.trans hl)) ⟨fun env F' σ' H' hh' q => ?_, fun env F' σ' H' v r hh' q => hQ v H' F' r _ (hA.finals hh') q, fun _ _ _ _ _ z => z, fun _ _ _ _ _ z => z⟩
      exact hQ .non H' F' (.ext .non) _ (hA.finals (hh'.pushE rfl)) q
end
end HD
namespace HD
open PySem L2
def SqX (b : Bool) (K : PySem.W.Frag) (H : Hp) (a : Addr) (xs : List V) : Prop := if b = true then SqT K H a xs else SqL K H a xs
def seqD (env : Env') (x : Sl) (q : List D → (Env' → Prop) → Prop) : Prop := match x with
  | .ext (.tup ds) => q ds fun _ => True
  | x => iterD env x q
def dZip (ta tb : DT) : DTI := fun Ex env Q => ta Ex env fun x env1 => tb Ex env1 fun y env2 => seqD env2 x fun xs k1 => seqD env2 y fun ys k2 => Q ((xs.zip ys).map fun p => D.tk [p.1, p.2]) (fun env' => k1 env' ∧ k2 env') env2
def Stands (K : PySem.W.Frag) (b : Bool) (a : Addr) (ds : List D) (k : Env' → Prop) (F0 : Hp) : Prop :=
  ∀ (e : Ent) (env : Env') (T : Tmp) (F : Hp) (σ : L2.St) (H : Hp), Holds K e env T F σ H → Same F0 F → k env → ∃ vs, SqX b K H a vs ∧ Reps K F ds vs
theorem Holds.seqD {K : PySem.W.Frag} {e : Ent} {env : Env'} {T : Tmp} {F : Hp} {σ : L2.St} {H : Hp} {v : V} {x : Sl} {q : List D → (Env' → Prop) → Prop} (h : Holds K e env ((v, x) :: T) F σ H) (w : HD.seqD env x q) :
    ∃ b a ds k F1, v = .ref a ∧ q ds k ∧ Same F F1 ∧ Holds K e env T F1 σ H ∧ Stands K b a ds k F1 ∧ k env := by
  have fz : ∀ (ds : List D) (F1 : Hp), Same F F1 → Holds K e env ((v, .ext (.lst ds)) :: T) F1 σ H → q ds (fun _ => True) → ∃ b a ds k F1, v = .ref a ∧ q ds k ∧ Same F F1 ∧ Holds K e env T F1 σ H ∧ Stands K b a ds k F1 ∧ k env := fun ds F1 sm h1 w => by
    obtain ⟨a, vs, rfl, hb, hr⟩ := h1.temps (v, .ext (.lst ds)) List.mem_cons_self
    exact ⟨false, a, ds, _, F1, rfl, w, sm, h1.pop, fun e' env' T' F' σ' H' hh s _ => ⟨vs, SqL.of (hh.fh _ _ (s _ _ hb)), hr.same s⟩, trivial⟩
  cases x with
  | un => exact w.elim
  | reg _ _ => exact w.elim
  | ar i b =>
    have ev : v = .ref b := h.temps (v, .ar i b) List.mem_cons_self
    have w' : (match env[i]? with | some (.reg _ cs) => (match cellOf cs b with | some (.lst ds) => q ds (atC i b ds) | _ => False) | _ => False) := w
    split at w'
    · rename_i d cs hc
      split at w'
      · rename_i ds hd
        refine ⟨false, b, ds, _, F, ev, w', Same.refl _, h.pop, fun e' env' T' F' σ' H' hh s kk => ?_, ⟨d, cs, hc, hd⟩⟩
        obtain ⟨d0, cs0, k1, k2⟩ := kk
        obtain ⟨_, o, hv, vs, rfl, hr⟩ := hh.cell k1 k2
        exact ⟨vs, SqL.of hv, hr⟩
      · exact w'.elim
    · exact w'.elim
  | ext d =>
    cases d with
    | tup ds =>
      obtain ⟨a, vs, rfl, hb, hr⟩ := h.temps (v, .ext (.tup ds)) List.mem_cons_self
      exact ⟨true, a, ds, _, F, rfl, w, Same.refl _, h.pop, fun e' env' T' F' σ' H' hh s _ => ⟨vs, SqT.same hh.fh (SqT.same s hb.sq), hr.same s⟩, trivial⟩
    | lst ds => exact fz ds F (Same.refl _) h w
    | _ => exact w.elim
  | lst b ds =>
    obtain ⟨F1, sm, h1⟩ := h.freezeT
    exact fz ds F1 sm h1 w
  | al i b =>
    have ev : v = .ref b := h.temps (v, .al i b) List.mem_cons_self
    have w' : (match env[i]? with | some (.lst c ds) => c = b ∧ q ds (fun env' => env'[i]? = some (.lst b ds)) | _ => False) := w
    split at w'
    · rename_i c ds hc
      obtain ⟨rfl, w'⟩ := w'
      refine ⟨false, c, ds, _, F, ev, w', Same.refl _, h.pop, fun e' env' T' F' σ' H' hh s kk => ?_, hc⟩
      rcases hh.slots i _ kk with z | ⟨u, hu, e1, e2, vs, hv, hr⟩
      · cases z
      · exact ⟨vs, SqL.of hv, hr⟩
    · exact w'.elim
end HD
namespace HD
open PySem L2
def dCB (f : List D → (Sl → Prop) → Prop) (t : DTA) : DT := fun Ex env Q => t Ex env fun xs env1 => wds env1 xs fun ds => f ds fun sl => Q sl env1
theorem im_cb {K : PySem.W.Frag} {W : WX} {r : List V → Hp → VK → Prop} {f : List D → (Sl → Prop) → Prop} {ta : TA} {t : DTA} (hr : Pr K r f) (h : ImA K W ta t) : Im K W (tCB r ta) (dCB f t) := fun e Ex hl env T F σ H Q R hh ht hR => by
  refine h e Ex hl env T F σ H _ _ hh ht fun vs H1 F1 env1 xs le hh1 q1 => ?_
  obtain ⟨ds, rr, q2⟩ := hh1.wds le (fun p hp => List.mem_append_left _ hp) q1
  exact hr F1 H1 vs ds _ R hh1.fh rr q2 ((hh1.sub (List.sublist_append_right _ _)).done hR)
abbrev RR := Program → World → PySem.W.Frag → List V → Hp → VK → Prop
def BR (id : String) (f : List D → (Sl → Prop) → Prop) : Prop := ∃ r : RR, (∀ P w K, Pr K (r P w K) f) ∧ ∀ X : Cx, X.calm = true → X.A.units + 64 < cLine → CallR X (.builtin id) (r X.prog X.w X.K)
def TR (T : String) (f : List D → (Sl → Prop) → Prop) : Prop := ∃ r : RR, (∀ P w K, Pr K (r P w K) f) ∧ ∀ X : Cx, X.calm = true → X.A.units + 64 < cLine → CallR X (.type T) (r X.prog X.w X.K)
section
variable {G : GG} {N : List Str} {sc : SC} {k : Nat} {e : Expr} {es : List Expr} {x : Str} {id T : String} {f : List D → (Sl → Prop) → Prop} {t : DTA} {p pos : Pos}
theorem de_cb (hr : BR id f) (hm : G.mg x = none) (ha : DAs G N sc k (e :: es) t) (hv : bootBuiltins x = some (.builtin id) := by decide +kernel) (hg : GlS sc x := by rfl) (hn : x ≠ "__name__" := by decide) (hdb : (x == ("__debug__" : Str)) = false := by decide)
    (he : NoStar e es := by intro _; rfl) (hpl : ∀ env, (backTo pos (starEach es env)).any (·.1) = false := by intro _; rfl) : DE G N sc k (.Call (.Name x p) (e :: es) [] pos) (dCB f t) := ⟨fun W => by
  obtain ⟨r, h1, h2⟩ := hr
  obtain ⟨ta, p1, i1⟩ := ha.ex W
  refine ⟨tCB (r G.P G.w G.K) ta, fun X S => ?_, im_cb (h1 _ _ _) i1⟩
  have c := h2 X S.calm S.units
  rw [S.prog, S.w, S.K] at c
  exact pe_callB c (S.gl hg) (by rw [S.mg]; exact hm) hv (p1 X S) hn hdb (he _) (hpl _)⟩
theorem de_ct (hr : TR T f) (hm : G.mg x = none) (ha : DAs G N sc k (e :: es) t) (hv : bootBuiltins x = some (.type T) := by decide +kernel) (hg : GlS sc x := by rfl) (hn : x ≠ "__name__" := by decide) (hdb : (x == ("__debug__" : Str)) = false := by decide)
    (he : NoStar e es := by intro _; rfl) (hpl : ∀ env, (backTo pos (starEach es env)).any (·.1) = false := by intro _; rfl) : DE G N sc k (.Call (.Name x p) (e :: es) [] pos) (dCB f t) := ⟨fun W => by
  obtain ⟨r, h1, h2⟩ := hr
  obtain ⟨ta, p1, i1⟩ := ha.ex W
  refine ⟨tCB (r G.P G.w G.K) ta, fun X S => ?_, im_cb (h1 _ _ _) i1⟩
  have c := h2 X S.calm S.units
  rw [S.prog, S.w, S.K] at c
  exact pe_callTy c (S.gl hg) (by rw [S.mg]; exact hm) hv (p1 X S) hn hdb (he _) (hpl _)⟩
end
def fLen : List D → (Sl → Prop) → Prop
  | [.lst ds], Q => Q (.ext (.int ds.length))
  | [.tup ds], Q => Q (.ext (.int ds.length))
  | [.fz ds], Q => Q (.ext (.int ds.length))
  | [.tk ds], Q => Q (.ext (.int ds.length))
  | [.str z], Q => z.length ≤ sizeLine ∧ Q (.ext (.int z.length))
  | _, _ => False
theorem b_len : BR "len" fLen := ⟨fun _ _ K xs H Q => (∃ p ys, xs = [.ref p] ∧ (SqL K H p ys ∨ SqT K H p ys) ∧ Q (.int ys.length) H) ∨ (∃ z, xs = [.str z] ∧ z.length ≤ sizeLine ∧ Q (.int z.length) H), fun _ _ K F H vs ds Q R fh hr hf ha => by
    unfold fLen at hf
    split at hf
    · obtain ⟨v, rfl, r⟩ := hr.one
      obtain ⟨a, vs, rfl, e1, r1⟩ := r.lst fh
      refine .inl ⟨a, vs, rfl, .inl (SqL.of e1), ?_⟩
      rw [← r1.length]
      exact ha.int fh hf
    · obtain ⟨v, rfl, r⟩ := hr.one
      obtain ⟨a, vs, rfl, e1, _, r1⟩ := r.tup fh
      refine .inl ⟨a, vs, rfl, .inr e1, ?_⟩
      rw [← r1.length]
      exact ha.int fh hf
    · obtain ⟨v, rfl, r⟩ := hr.one
      obtain ⟨a, vs, rfl, e1, r1⟩ := r.fz fh
      refine .inl ⟨a, vs, rfl, .inl e1, ?_⟩
      rw [← r1.length]
      exact ha.int fh hf
    · obtain ⟨v, rfl, r⟩ := hr.one
      obtain ⟨a, vs, rfl, e1, _, r1⟩ := r.tk fh
      refine .inl ⟨a, vs, rfl, .inr e1, ?_⟩
      rw [← r1.length]
      exact ha.int fh hf
    · obtain ⟨v, rfl, r⟩ := hr.one
      exact .inr ⟨_, by rw [r.str], hf.1, ha.int fh hf.2⟩
    · exact hf.elim, fun X _ _ => call_len_seq.or call_len_str⟩
def fMin : List D → (Sl → Prop) → Prop
  | [.int i, .int j], Q => Q (.ext (.int (if j < i then j else i)))
  | [.lst ds], Q => ∃ ns : List Int, ds = ns.map D.int ∧ ns ≠ [] ∧ ∀ m, m ∈ ns → (∀ y, y ∈ ns → m ≤ y) → Q (.ext (.int m))
  | _, _ => False
def fMax : List D → (Sl → Prop) → Prop
  | [.int i, .int j], Q => Q (.ext (.int (if j > i then j else i)))
  | [.lst ds], Q => ∃ ns : List Int, ds = ns.map D.int ∧ ns ≠ [] ∧ ∀ m, m ∈ ns → (∀ y, y ∈ ns → y ≤ m) → Q (.ext (.int m))
  | _, _ => False
theorem b_min : BR "min" fMin := ⟨fun _ _ K xs H Q => (∃ i j, xs = [.int i, .int j] ∧ Q (.int (if j < i then j else i)) H) ∨ rMin K xs H Q, fun _ _ K F H vs ds Q R fh hr hf ha => by
    unfold fMin at hf
    split at hf
    · obtain ⟨v, u, rfl, r1, r2⟩ := hr.two
      exact .inl ⟨_, _, by rw [r1.int, r2.int], ha.int fh hf⟩
    · obtain ⟨v, rfl, r⟩ := hr.one
      obtain ⟨ns, rfl, ne, q⟩ := hf
      obtain ⟨a, vs, rfl, e1, r1⟩ := r.lst fh
      have z := r1.ints
      subst z
      exact .inr ⟨a, ns, rfl, SqL.of e1, List.length_pos_iff.mpr ne, fun m h1 h2 => ha.int fh (q m h1 h2)⟩
    · exact hf.elim, fun X hc _ => (call_min2 hc).or (cr_min hc)⟩
theorem b_max : BR "max" fMax := ⟨fun _ _ K xs H Q => (∃ i j, xs = [.int i, .int j] ∧ Q (.int (if j > i then j else i)) H) ∨ rMax K xs H Q, fun _ _ K F H vs ds Q R fh hr hf ha => by
    unfold fMax at hf
    split at hf
    · obtain ⟨v, u, rfl, r1, r2⟩ := hr.two
      exact .inl ⟨_, _, by rw [r1.int, r2.int], ha.int fh hf⟩
    · obtain ⟨v, rfl, r⟩ := hr.one
      obtain ⟨ns, rfl, ne, q⟩ := hf
      obtain ⟨a, vs, rfl, e1, r1⟩ := r.lst fh
      have z := r1.ints
      subst z
      exact .inr ⟨a, ns, rfl, SqL.of e1, List.length_pos_iff.mpr ne, fun m h1 h2 => ha.int fh (q m h1 h2)⟩
    · exact hf.elim, fun X hc _ => (call_max2 hc).or (cr_max hc)⟩
def fSum : List D → (Sl → Prop) → Prop
  | [.lst ds], Q => ∃ ns : List Int, ds = ns.map D.int ∧ Q (.ext (.int ns.sum))
  | _, _ => False
theorem b_sum : BR "sum" fSum := ⟨fun _ _ K => rSum K, fun _ _ K F H vs ds Q R fh hr hf ha => by
    unfold fSum at hf
    split at hf
    · obtain ⟨v, rfl, r⟩ := hr.one
      obtain ⟨ns, rfl, q⟩ := hf
      obtain ⟨a, vs, rfl, e1, r1⟩ := r.lst fh
      have z := r1.ints
      subst z
      exact ⟨a, ns, rfl, SqL.of e1, ha.int fh q⟩
    · exact hf.elim, fun X hc _ => cr_sum hc⟩
def fAll : List D → (Sl → Prop) → Prop
  | [.lst ds], Q => ∃ bs : List Bool, ds = bs.map D.bl ∧ Q (.ext (.bl (bs.all id)))
  | _, _ => False
def fAny : List D → (Sl → Prop) → Prop
  | [.lst ds], Q => ∃ bs : List Bool, ds = bs.map D.bl ∧ Q (.ext (.bl (bs.any id)))
  | _, _ => False
theorem b_all : BR "all" fAll := ⟨fun _ _ K => rAll K, fun _ _ K F H vs ds Q R fh hr hf ha => by
    unfold fAll at hf
    split at hf
    · obtain ⟨v, rfl, r⟩ := hr.one
      obtain ⟨ns, rfl, q⟩ := hf
      obtain ⟨a, vs, rfl, e1, r1⟩ := r.lst fh
      have z := r1.bls
      subst z
      exact ⟨a, ns, rfl, SqL.of e1, ha.bl fh q⟩
    · exact hf.elim, fun X hc _ => cr_all hc⟩
theorem b_any : BR "any" fAny := ⟨fun _ _ K => rAny K, fun _ _ K F H vs ds Q R fh hr hf ha => by
    unfold fAny at hf
    split at hf
    · obtain ⟨v, rfl, r⟩ := hr.one
      obtain ⟨ns, rfl, q⟩ := hf
      obtain ⟨a, vs, rfl, e1, r1⟩ := r.lst fh
      have z := r1.bls
      subst z
      exact ⟨a, ns, rfl, SqL.of e1, ha.bl fh q⟩
    · exact hf.elim, fun X hc _ => cr_any hc⟩
def fSorted : List D → (Sl → Prop) → Prop
  | [.lst ds], Q => ∃ ns : List Int, ds = ns.map D.int ∧ ∀ (ns' : List Int) (a : Addr), ns'.Perm ns → ns'.Pairwise (· ≤ ·) → Q (.lst a (ns'.map D.int))
  | _, _ => False
theorem b_sorted : BR "sorted" fSorted := ⟨fun _ _ K => rSortedI K, fun _ _ K F H vs ds Q R fh hr hf ha => by
    unfold fSorted at hf
    split at hf
    · obtain ⟨v, rfl, r⟩ := hr.one
      obtain ⟨ns, rfl, q⟩ := hf
      obtain ⟨a, vs, rfl, e1, r1⟩ := r.lst fh
      have z := r1.ints
      subst z
      exact ⟨a, ns, rfl, SqL.of e1, fun ns' p h1 h2 n => ha.lst fh n (Reps.of_ints ns') (q ns' p h1 h2)⟩
    · exact hf.elim, fun X _ _ => cr_sortedI⟩
def fTuple : List D → (Sl → Prop) → Prop
  | [.lst ds], Q => Q (.ext (.tup ds))
  | [.tup ds], Q => Q (.ext (.tup ds))
  | _, _ => False
theorem t_tuple : TR "tuple" fTuple := ⟨fun _ _ K xs H Q => ∃ p ys, xs = [.ref p] ∧ ((SqL K H p ys ∧ newT H ys Q) ∨ (SqT K H p ys ∧ Q (.ref p) H)), fun _ _ K F H vs ds Q R fh hr hf ha => by
    unfold fTuple at hf
    split at hf
    · obtain ⟨v, rfl, r⟩ := hr.one
      obtain ⟨a, vs, rfl, e1, r1⟩ := r.lst fh
      exact ⟨a, vs, rfl, .inl ⟨SqL.of e1, ha.tup fh r1 hf⟩⟩
    · obtain ⟨v, rfl, r⟩ := hr.one
      obtain ⟨a, vs, rfl, e1, e2, r1⟩ := r.tup fh
      exact ⟨a, vs, rfl, .inr ⟨e1, ha.ext (d := .tup _) fh ⟨a, vs, rfl, e2, r1⟩ hf⟩⟩
    · exact hf.elim, fun X _ _ => call_tupleF⟩
def fList : List D → (Sl → Prop) → Prop
  | [.lst ds], Q => ∀ a, Q (.lst a ds)
  | [.tup ds], Q => ∀ a, Q (.lst a ds)
  | [.fz ds], Q => ∀ a, Q (.lst a ds)
  | _, _ => False
theorem t_list : TR "list" fList := ⟨fun _ _ K xs H Q => ∃ p ys, xs = [.ref p] ∧ (SqL K H p ys ∨ SqT K H p ys) ∧ ∀ l, H l = none → Q (.ref l) (upd H l (.lst ys)), fun _ _ K F H vs ds Q R fh hr hf ha => by
    unfold fList at hf
    split at hf
    · obtain ⟨v, rfl, r⟩ := hr.one
      obtain ⟨a, vs, rfl, e1, r1⟩ := r.lst fh
      exact ⟨a, vs, rfl, .inl (SqL.of e1), fun l n => ha.lst fh n r1 (hf l)⟩
    · obtain ⟨v, rfl, r⟩ := hr.one
      obtain ⟨a, vs, rfl, e1, e2, r1⟩ := r.tup fh
      exact ⟨a, vs, rfl, .inr e1, fun l n => ha.lst fh n r1 (hf l)⟩
    · obtain ⟨v, rfl, r⟩ := hr.one
      obtain ⟨a, vs, rfl, e1, r1⟩ := r.fz fh
      exact ⟨a, vs, rfl, .inl e1, fun l n => ha.lst fh n r1 (hf l)⟩
    · exact hf.elim, fun X _ _ => call_list_of⟩
def D.ty : D → String
  | .non => "NoneType"
  | .bl _ => "bool"
  | .int _ => "int"
  | .str _ => "str"
  | .lst _ => "list"
  | .fz _ => "list"
  | .tup _ => "tuple"
  | .tk _ => "tuple"
  | .val _ => "?"
  | .exc _ => "?"
  | .glo _ => "?"
  | .dk _ _ => "?"
  | .dt _ _ => "?"
theorem tyX_of {K : PySem.W.Frag} {H : Hp} {d : D} {v : V} (n : d.noVal = true) (h : Rep K H d v) : TyX K H v (.type d.ty) ∨ ∃ ds, d = .fz ds := by
  cases d with
  | non =>
    have e : v = .non := h
    rw [e]
    exact .inl (.base .non)
  | bl b =>
    have e : v = .bl b := h
    rw [e]
    exact .inl (.base (.bl b))
  | int b =>
    have e : v = .int b := h
    rw [e]
    exact .inl (.base (.int b))
  | str b =>
    have e : v = .str b := h
    rw [e]
    exact .inl (.base (.str b))
  | val u => cases n
  | exc c => cases n
  | glo c => cases n
  | dk _ _ => cases n
  | dt _ _ => cases n
  | fz ds => exact .inr ⟨ds, rfl⟩
  | lst ds =>
    obtain ⟨a, xs, rfl, hs, _⟩ := h
    exact .inl (.base (.lst hs))
  | tup ds =>
    obtain ⟨a, xs, rfl, hs, _⟩ := h
    left
    rcases hs.sq with (hs | ⟨o, hs⟩) | ⟨o, its, m, hs, hc, _⟩
    · exact .base (.tup hs)
    · exact .fTuple hs
    · exact .kTuple hs hc
  | tk ds =>
    obtain ⟨a, xs, rfl, hs, _⟩ := h
    left
    rcases hs with (hs | ⟨o, hs⟩) | ⟨o, its, m, hs, hc, _⟩
    · exact .base (.tup hs)
    · exact .fTuple hs
    · exact .kTuple hs hc
theorem tyX_T {K : PySem.W.Frag} {F H : Hp} {d : D} {v : V} (fh : Same F H) (n : d.noVal = true) (h : RepT K F H d v) (nf : ∀ ds, d ≠ .fz ds) : TyX K H v (.type d.ty) := by
  rcases tyX_of n (h.rep fh) with z | ⟨ds, z⟩
  · exact z
  · exact absurd z (nf ds)
def rIsiS (K : PySem.W.Frag) : List V → Hp → VK → Prop := fun xs H Q => ∃ (x : V) (tp : Addr) (cs : List V) (t : Value) (us : List Value) (b : Bool), xs = [x, .ref tp] ∧ SqT K H tp cs ∧ Paired ClsV cs us ∧ TyX K H x t ∧ PySem.W.kitAny K t us = some b ∧ Q (.bl b) H
theorem call_isiS {X : Cx} : CallR X (.builtin "isinstance") (rIsiS X.K) := by
  intro pins s σ H xs us Q I r h
  obtain ⟨x, tp, cs, t, ws, b, rfl, hT, k, ty, e, q⟩ := h
  obtain ⟨u1, u2, rfl, r1, r2⟩ := vals2 r
  cases (show u2 = Value.ref tp from r2)
  obtain ⟨P, Z, p, hx⟩ := kit_of I r1 ty
  obtain ⟨its, rv, ⟨o, h1, h2, n, h3⟩, _⟩ := I.tuple hT
  have e3 := ClsV.all k rv
  subst e3
  obtain ⟨oc, od, dt, sl⟩ := o
  simp only at h2 h3
  subst h2 h3
  exact PySem.W.kia_tup Z I.kIn p h1 e hx fun tk => ⟨.bl b, H, I.tok tk, rfl, q⟩
def D.isFz : D → Bool
  | .fz _ => true
  | _ => false
def fIsi : List D → (Sl → Prop) → Prop
  | [d, .val (.ty T)], Q => d.noVal = true ∧ d.isFz = false ∧ ∃ b, kitB d.ty T = some b ∧ Q (.ext (.bl b))
  | [d, .tup [.val (.ty T), .val (.ty U)]], Q => d.noVal = true ∧ d.isFz = false ∧ ∃ b c, kitB d.ty T = some b ∧ kitB d.ty U = some c ∧ Q (.ext (.bl (b || c)))
  | _, _ => False
theorem b_isi : BR "isinstance" fIsi := ⟨fun _ _ K xs H Q => rIsi K xs H Q ∨ rIsiS K xs H Q, fun _ _ K F H vs ds Q R fh hr hf ha => by
    unfold fIsi at hf
    split at hf
    · rename_i d T
      obtain ⟨v, u, rfl, r1, r2⟩ := hr.two
      obtain ⟨n, nf, b, hb, q⟩ := hf
      rw [r2.val]
      exact .inl ⟨v, _, _, _, b, rfl, .ty T, tyX_T fh n r1 (fun ds z => by subst z; cases nf), kit_ty hb, ha.bl fh q⟩
    · rename_i d T U
      obtain ⟨v, u, rfl, r1, r2⟩ := hr.two
      obtain ⟨n, nf, b, c, hb, hc, q⟩ := hf
      obtain ⟨a, vs, rfl, e1, _, rr⟩ := r2.tup fh
      obtain ⟨v1, w1, rfl, h1, h2⟩ := rr
      obtain ⟨v2, w2, rfl, h3, h4⟩ := h2
      have z1 : v1 = .ty T := h1
      have z2 : v2 = .ty U := h3
      have z3 : w2 = [] := h4
      subst z1 z2 z3
      refine .inr ⟨v, a, _, _, [.type T, .type U], (b || c), rfl, e1, .cons (.ty T) (.cons (.ty U) .nil), tyX_T fh n r1 (fun ds z => by subst z; cases nf), ?_, ha.bl fh q⟩
      cases b with
      | true => exact kitAny_cons (kit_ty hb) (fun z => nomatch z) (fun _ => rfl)
      | false => exact kitAny_cons (kit_ty hb) (fun _ => kitAny_cons (kit_ty hc) (fun z => by subst z; exact kitAny_nil) (fun z => by subst z; rfl)) (fun z => nomatch z)
    · exact hf.elim, fun X _ _ => call_isi.or call_isiS⟩
def fStr : List D → (Sl → Prop) → Prop
  | [.int i], Q => i.natAbs.log2 < 1920 ∧ Q (.ext (.str (toString i)))
  | _, _ => False
section
variable {G : GG} {N : List Str} {sc : SC} {k : Nat} {a b : Expr} {ta tb : DT} {p p2 pos pos2 : Pos}
structure DRg (G : GG) (N : List Str) (sc : SC) (k : Nat) (e : Expr) (t : DX → Env' → (Int → Int → Env' → Prop) → Prop) : Prop where
  ex : ∀ W : WX, ∃ te, (∀ X, Sit G N sc W k X → PRg X e te) ∧ ∀ (e : Ent) (Ex : DX), Link G.K e W Ex → ∀ (env : Env') (T : Tmp) (F : Hp) (σ : L2.St) (H : Hp) (Q : Int → Int → Env' → Prop) (R : Int → Int → Hp → Prop),
    Holds G.K e env T F σ H → t Ex env Q → (∀ i j H' F' env', Holds G.K e env' T F' σ H' → Q i j env' → R i j H') → te σ H R
def dRg1 (t : DT) : DX → Env' → (Int → Int → Env' → Prop) → Prop := fun Ex env Q => t Ex env fun x env1 => match x with
  | .ext (.int n) => Q 0 n env1
  | _ => False
def dRg2 (t u : DT) : DX → Env' → (Int → Int → Env' → Prop) → Prop := fun Ex env Q => t Ex env fun x env1 => u Ex env1 fun y env2 => match x, y with
  | .ext (.int n), .ext (.int m) => Q n m env2
  | _, _ => False
theorem drg_1 (h : DE G N sc k a ta) (hm : G.mg "range" = none) (hg : GlS sc "range" := by rfl) (na : NoStar a [] := by intro _; rfl) : DRg G N sc k (.Call (.Name "range" p) [a] [] pos) (dRg1 ta) := ⟨fun W => by
  obtain ⟨te, p1, i1⟩ := h.ex W
  refine ⟨tRg1 te, fun X S => prg_1 (S.gl hg) (by rw [S.mg]; exact hm) (p1 X S) (na _), fun e Ex hl env T F σ H Q R hh ht hR => ?_⟩
  refine i1 e Ex hl env T F σ H _ _ hh ht fun v H1 F1 env1 x hh1 q1 => ?_
  cases x with
  | ext d =>
    cases d with
    | int n => exact ⟨n, hh1.temps (v, .ext (.int n)) List.mem_cons_self, hR 0 n H1 F1 env1 hh1.pop q1⟩
    | _ => exact q1.elim
  | _ => exact q1.elim⟩
theorem Reps.rg {K : PySem.W.Frag} {F : Hp} (lo hi : Int) : Reps K F (rgD lo hi) (rgV lo hi) := by
  unfold rgD rgV
  refine Reps.of_get (by rw [List.length_map, List.length_map]) fun i d v h1 h2 => ?_
  rw [List.getElem?_map] at h1 h2
  cases e : (List.range (hi - lo).toNat)[i]? with
  | none =>
    rw [e] at h1
    cases h1
  | some j =>
    rw [e] at h1 h2
    cases h1
    cases h2
    exact rfl
def dLstRg (t : DX → Env' → (Int → Int → Env' → Prop) → Prop) : DT := fun Ex env Q => t Ex env fun lo hi env1 => RgOk lo hi ∧ ∀ a, Q (.lst a (rgD lo hi)) env1
def dTupRg (t : DX → Env' → (Int → Int → Env' → Prop) → Prop) : DT := fun Ex env Q => t Ex env fun lo hi env1 => RgOk lo hi ∧ Q (.ext (.tup (rgD lo hi))) env1
theorem de_listRg {e : Expr} {t : DX → Env' → (Int → Int → Env' → Prop) → Prop} (h : DRg G N sc k e t) (hm : G.mg "list" = none) (hg : GlS sc "list" := by rfl) (na : NoStar e [] := by intro _; rfl) : DE G N sc k (.Call (.Name "list" p) [e] [] pos) (dLstRg t) := ⟨fun W => by
  obtain ⟨te, p1, i1⟩ := h.ex W
  refine ⟨tLstRg te, fun X S => pe_listRg S.calm (S.gl hg) (by rw [S.mg]; exact hm) (p1 X S) (na _), fun e Ex hl env T F σ H Q R hh ht hR => ?_⟩
  refine i1 e Ex hl env T F σ H _ _ hh ht fun lo hi H1 F1 env1 hh1 q1 => ⟨q1.1, fun q n => ?_⟩
  exact (hh1.done hR).lst hh1.fh n (Reps.rg lo hi) (q1.2 q)⟩
theorem de_tupRg {e : Expr} {t : DX → Env' → (Int → Int → Env' → Prop) → Prop} (h : DRg G N sc k e t) (hm : G.mg "tuple" = none) (hg : GlS sc "tuple" := by rfl) (na : NoStar e [] := by intro _; rfl) : DE G N sc k (.Call (.Name "tuple" p) [e] [] pos) (dTupRg t) := ⟨fun W => by
  obtain ⟨te, p1, i1⟩ := h.ex W
  refine ⟨tTupRgF te, fun X S => pe_tupRgF S.calm (S.gl hg) (by rw [S.mg]; exact hm) (p1 X S) (na _), fun e Ex hl env T F σ H Q R hh ht hR => ?_⟩
  refine i1 e Ex hl env T F σ H _ _ hh ht fun lo hi H1 F1 env1 hh1 q1 => ⟨q1.1, ?_⟩
  exact (hh1.done hR).tup hh1.fh (Reps.rg lo hi) q1.2⟩
end
end HD
namespace HD
open PySem PyProof.Rows L2
section
variable {X : Cx} {o e : Expr} {es : List Expr} {to : TE} {t : TA} {name : Str} {apos cpos : Pos}
abbrev FewArgs (o : Expr) (name : Str) (e : Expr) (es : List Expr) (cpos : Pos) : Prop := ∀ env, attributeBase o name env (eval o env) = eval o env ∧
  ((backTo cpos (starEach (e :: es) env)).all (fun x => !x.1) && (backToKw cpos (keywordEach [] env)).all (fun x => x.1.isSome) && decide ((e :: es).length + ([] : List Keyword).length + (if ([] : List Keyword).isEmpty then 0 else 1) < 30)) = true ∧
  starEach (e :: es) env = (false, eval e env) :: starEach es env ∧ (backTo cpos (starEach es env)).any (·.1) = false
def tIndex (K : PySem.W.Frag) (rT rL : V → List V → Hp → VK → Prop) (to : TE) (t : TA) : TE := fun σ H Q => to σ H fun x H1 => ((∃ p xs, x = .ref p ∧ TupD K H1 p xs) ∧ t σ H1 fun xs H2 => rT x xs H2 Q) ∨ ((∃ p xs, x = .ref p ∧ SqL K H1 p xs) ∧ t σ H1 fun xs H2 => rL x xs H2 Q)
theorem pe_bmX {idT idL : String} {rT rL : V → List V → Hp → VK → Prop} (sT : Slot "tuple" name idT) (sL : Slot "list" name idL) (tyT : typeOf (.builtin idT) = pure (.type "method_descriptor")) (tyL : typeOf (.builtin idL) = pure (.type "method_descriptor")) (mT : MtR X idT rT) (mL : MtR X idL rL)
    (ho : PE X o to) (ha : PA X (e :: es) t) (hw : FewArgs o name e es cpos) (hline : (apos.endLine == cpos.line) = true) : PE X (.Call (.Attribute o name apos) (e :: es) [] cpos) (tIndex X.K rT rL to t) := by
  obtain ⟨hbase, hfew, hs, hplain⟩ := hw X.env
  refine ⟨fun pins s σ H Q I h => ?_⟩
  refine wpAny_Call_method_late hbase hfew hline rfl (thn (ho.run pins s σ H _ I h) fun v s1 ⟨x, H1, I1, r1, q1⟩ => ?_)
  rcases q1 with ⟨⟨p, xs, rfl, hT⟩, q1⟩ | ⟨⟨p, xs, rfl, hL⟩, q1⟩
  · obtain ⟨its, _, pt, _⟩ := I1.tuple hT.sq
    cases r1
    refine ⟨"tuple", idT, PySem.F.plainAttrs_tuple, sT, tyT, pt.typeIs, fun a ea => ?_, ?_⟩
    · cases ea
      exact hT.noDict I1
    · have hA := ha.run cpos pins s1 σ H1 _ I1 q1
      rw [hs] at hA ⊢
      refine Calls.callWith_builtin (by show (false || (backTo cpos (starEach es X.env)).any (·.1)) = false; rw [hplain] <;> rfl) (Calls.evalArgs_plain ?_)
      exact thn hA fun us s2 ⟨vs, H2, I2, r2, q2⟩ => mT pins s2 σ H2 (.ref p) vs _ us Q I2 rfl r2 q2
  · have ty : tyV X.K "list" (.ref p) H1 := .inl ⟨rfl, xs, hL⟩
    obtain ⟨h1, h2⟩ := tyV_is I1 r1 ty
    refine ⟨"list", idL, PySem.F.plainAttrs_list, sL, tyL, h1, h2, ?_⟩
    have hA := ha.run cpos pins s1 σ H1 _ I1 q1
    rw [hs] at hA ⊢
    refine Calls.callWith_builtin (by show (false || (backTo cpos (starEach es X.env)).any (·.1)) = false; rw [hplain] <;> rfl) (Calls.evalArgs_plain ?_)
    exact thn hA fun us s2 ⟨vs, H2, I2, r2, q2⟩ => mL pins s2 σ H2 _ vs _ us Q I2 r1 r2 q2
def rIndexT (K : PySem.W.Frag) : V → List V → Hp → VK → Prop := fun x xs H Q => ∃ (a : Addr) (ys : List V) (y : V) (j : Nat) (z : V), x = V.ref a ∧ xs = [y] ∧ SqT K H a ys ∧ flatV y = true ∧ ys.all flatV = true ∧ ys[j]? = some z ∧ eqV z y = true ∧
  (∀ m z', m < j → ys[m]? = some z' → eqV z' y = false) ∧ Q (.int (j : Nat)) H
theorem mt_indexT : MtR X "tuple.index" (rIndexT X.K) := by
  intro pins s σ H x xs v us Q I rx rs h
  obtain ⟨p, ys, y, j, z, rfl, rfl, hq, fy, fys, hz, hit, hno, q⟩ := h
  cases rx
  obtain ⟨u, rfl, ru⟩ := vals1 rs
  obtain ⟨its, r, pl, _⟩ := I.tuple hq
  obtain ⟨⟨cls, dd, dt, sl⟩, ho, hc, n, hd⟩ := pl
  simp only at hc hd
  subst hc
  subst hd
  have hl : its.toArray.size = ys.length := by rw [List.size_toArray, ← r.length]
  have hj : j < its.toArray.size := by rw [hl]; exact (List.getElem?_eq_some_iff.mp hz).1
  have key : ∀ (m : Nat) (hm : m < its.toArray.size) (w : V), ys[m]? = some w → eqU y its.toArray[m] = eqV w y := fun m hm w hw => by
    obtain ⟨iv, hiv, riv⟩ := r.get hw
    have e : its.toArray[m] = iv := by
      have e2 := (List.getElem?_eq_some_iff.mp hiv).2
      rw [← e2]
      simp
    rw [e]
    exact eqU_of riv (List.all_eq_true.mp fys w (List.mem_of_getElem? hw))
  refine call_meets PySem.F.slot_tuple_index ⟨_, ho, rfl⟩ PySem.F.entry_tuple_index (PySem.F.args_tuple_index_2 _ _) (TI.tuple_indexAt p its.toArray n dd sl u (eqU y) j hj ?_ ?_)
    ⟨ho, fun w hw => mem_eqAt ru fy r fys w (by simpa using hw), ⟨.int (j : Nat), H, I.tok _, ⟨_, rfl⟩, q⟩⟩
  · rw [key j hj z hz]
    exact hit
  · intro m hm hmj
    have hm' : m < ys.length := by rw [← hl]; exact hm
    rw [key m hm ys[m] (List.getElem?_eq_getElem hm')]
    exact hno m _ hmj (List.getElem?_eq_getElem hm')
end
def D.at? (d : D) (ds : List D) : Option Nat := ds.findIdx? fun z => eqV z.toV d.toV
def D.isSq : D → Bool
  | .tup _ => true
  | .lst _ => true
  | _ => false
def fIdx (d d' : D) (q : Sl → Prop) : Prop := match d with
  | .tup ds => d'.flat = true ∧ ds.all D.flat = true ∧ ∃ j, d'.at? ds = some j ∧ q (.ext (.int (j : Nat)))
  | .lst ds => d'.flat = true ∧ ds.all D.flat = true ∧ ∃ j, d'.at? ds = some j ∧ q (.ext (.int (j : Nat)))
  | _ => False
def dIndex (to ta : DT) : DT := fun Ex env Q => to Ex env fun x env1 => wd env1 x (fun d => d.isSq = true) ∧ ta Ex env1 fun y env2 => wd env2 x fun d => wd env2 y fun d' => fIdx d d' fun sl => Q sl env2
theorem at?_spec {K : PySem.W.Frag} {F : Hp} {d : D} {ds : List D} {vs : List V} {j : Nat} (r : Reps K F ds vs) (fd : d.flat = true) (fs : ds.all D.flat = true) (h : d.at? ds = some j) :
    flatV d.toV = true ∧ vs.all flatV = true ∧ ∃ z, vs[j]? = some z ∧ eqV z d.toV = true ∧ ∀ m z', m < j → vs[m]? = some z' → eqV z' d.toV = false := by
  obtain ⟨e1, e2⟩ := flat_reps r fs
  unfold D.at? at h
  obtain ⟨hj, h1, h2⟩ := List.findIdx?_eq_some_iff_getElem.mp h
  have fv : flatV d.toV = true := by
    cases d <;> first
      | rfl
      | exact nomatch fd
  refine ⟨fv, e2, ds[j].toV, ?_, h1, fun m z' hm hz => ?_⟩
  · rw [e1, List.getElem?_map, List.getElem?_eq_getElem hj]
    rfl
  · rw [e1, List.getElem?_map] at hz
    have hm' : m < ds.length := Nat.lt_trans hm hj
    rw [List.getElem?_eq_getElem hm'] at hz
    cases hz
    have z := h2 m hm
    simpa using z
section
variable {G : GG} {N : List Str} {sc : SC} {k : Nat} {a b : Expr} {ta tb : DT} {apos cpos p p2 pos pos2 : Pos}
theorem de_index (ha : DE G N sc k a ta) (hb : DE G N sc k b tb) (hw : FewArgs a "index" b [] cpos := by intro _; exact ⟨rfl, rfl, rfl, rfl⟩) (hline : (apos.endLine == cpos.line) = true := by rfl) : DE G N sc k (.Call (.Attribute a "index" apos) [b] [] cpos) (dIndex ta tb) := ⟨fun W => by
  obtain ⟨te, p1, i1⟩ := ha.ex W
  obtain ⟨tf, p2, i2⟩ := hb.ex W
  refine ⟨tIndex G.K (rIndexT G.K) (rIndex G.K) te (tCons tf tNil), fun X S => ?_, fun e Ex hl env T F σ H Q R hh ht hR => ?_⟩
  · rw [← S.K]
    exact pe_bmX PySem.F.slot_tuple_index PySem.F.slot_list_index PySem.F.type_tuple_index PySem.F.type_list_index mt_indexT mt_index (p1 X S) (pa_cons (p2 X S) pa_nil (hw X.env).2.2.1) hw hline
  · refine i1 e Ex hl env T F σ H _ _ hh ht fun v H1 F1 env1 x hh1 q1 => ?_
    obtain ⟨q0, q1⟩ := q1
    obtain ⟨d0, rd0, _⟩ := hh1.wd (v := v) (sl := x) List.mem_cons_self q0
    have finT : ∀ (u : V) (H2 F2 : Hp) (env2 : Env') (y : Sl) (ds : List D), Holds G.K e env2 ((u, y) :: (v, x) :: T) F2 σ H2 → RepT G.K F2 H2 (.tup ds) v → (HD.wd env2 y fun d' => fIdx (.tup ds) d' fun sl => Q sl env2) → rIndexT G.K v [u] H2 R := fun u H2 F2 env2 y ds hh2 rd q3 => by
      obtain ⟨d', rd', f1, f2, j, hj, q5⟩ := hh2.wd (v := u) (sl := y) List.mem_cons_self q3
      obtain ⟨c, vs, rfl, e1, _, r1⟩ := rd.tup hh2.fh
      obtain ⟨x1, _⟩ := flat_rep (rd'.rep hh2.fh) f1
      obtain ⟨g1, g2, z, g3, g4, g5⟩ := at?_spec r1 f1 f2 hj
      rw [x1]
      exact ⟨c, vs, _, j, z, rfl, rfl, e1, g1, g2, g3, g4, g5, (hh2.pop.pop.done hR).int hh2.fh q5⟩
    have finL : ∀ (u : V) (H2 F2 : Hp) (env2 : Env') (y : Sl) (ds : List D), Holds G.K e env2 ((u, y) :: (v, x) :: T) F2 σ H2 → RepT G.K F2 H2 (.lst ds) v → (HD.wd env2 y fun d' => fIdx (.lst ds) d' fun sl => Q sl env2) → rIndex G.K v [u] H2 R := fun u H2 F2 env2 y ds hh2 rd q3 => by
      obtain ⟨d', rd', f1, f2, j, hj, q5⟩ := hh2.wd (v := u) (sl := y) List.mem_cons_self q3
      obtain ⟨c, vs, rfl, e1, r1⟩ := rd.lst hh2.fh
      obtain ⟨x1, _⟩ := flat_rep (rd'.rep hh2.fh) f1
      obtain ⟨g1, g2, z, g3, g4, g5⟩ := at?_spec r1 f1 f2 hj
      rw [x1]
      exact ⟨c, vs, _, j, z, rfl, rfl, SqL.of e1, g1, g2, g3, g4, g5, (hh2.pop.pop.done hR).int hh2.fh q5⟩
    have never : ∀ (d : D), (∀ ds, d ≠ .tup ds) → (∀ ds, d ≠ .lst ds) → ∀ d' (q : Sl → Prop), ¬ fIdx d d' q := fun d h1 h2 d' q z => by
      cases d <;> first
        | exact h1 _ rfl
        | exact h2 _ rfl
        | exact z
    cases x with
    | un => exact q0.elim
    | ext d =>
      have rd : Rep G.K F1 d v := hh1.temps (v, .ext d) List.mem_cons_self
      by_cases ht : ∃ ds, d = .tup ds
      · obtain ⟨ds, rfl⟩ := ht
        obtain ⟨c, vs, rfl, e2, _⟩ := rd
        refine .inl ⟨⟨c, vs, rfl, TupD.same hh1.fh e2⟩, ?_⟩
        exact i2 e Ex hl env1 _ F1 σ H1 _ _ hh1 q1 fun u H2 F2 env2 y hh2 q2 => finT u H2 F2 env2 y ds hh2 (.inl (hh2.temps (_, .ext (.tup ds)) (List.mem_cons_of_mem _ List.mem_cons_self))) q2
      · by_cases hl' : ∃ ds, d = .lst ds
        · obtain ⟨ds, rfl⟩ := hl'
          obtain ⟨c, vs, rfl, e2, _⟩ := rd
          refine .inr ⟨⟨c, vs, rfl, SqL.of (hh1.fh _ _ e2)⟩, ?_⟩
          exact i2 e Ex hl env1 _ F1 σ H1 _ _ hh1 q1 fun u H2 F2 env2 y hh2 q2 => finL u H2 F2 env2 y ds hh2 (.inl (hh2.temps (_, .ext (.lst ds)) (List.mem_cons_of_mem _ List.mem_cons_self))) q2
        · have q0' : d.isSq = true := q0
          cases d <;> first
            | exact absurd ⟨_, rfl⟩ ht
            | exact absurd ⟨_, rfl⟩ hl'
            | exact nomatch q0'
    | lst b ds =>
      obtain ⟨rfl, _, vs, hv, _⟩ := hh1.temps (v, .lst b ds) List.mem_cons_self
      refine .inr ⟨⟨b, vs, rfl, SqL.of hv⟩, ?_⟩
      refine i2 e Ex hl env1 _ F1 σ H1 _ _ hh1 q1 fun u H2 F2 env2 y hh2 q2 => ?_
      obtain ⟨_, _, us, hu, hr⟩ := hh2.temps (V.ref b, .lst b ds) (List.mem_cons_of_mem _ List.mem_cons_self)
      exact finL u H2 F2 env2 y ds hh2 (.inr ⟨b, ds, us, rfl, rfl, hu, hr⟩) q2
    | reg _ _ => exact q0.elim
    | ar i b =>
      obtain rfl : v = .ref b := hh1.temps (v, .ar i b) List.mem_cons_self
      have q0' : (match env1[i]? with | some (.reg _ cs) => (match cellOf cs b with | some (.lst ds) => (D.lst ds).isSq = true | _ => False) | _ => False) := q0
      split at q0'
      · rename_i d0 cs hc
        split at q0'
        · rename_i ds0 hd0
          obtain ⟨_, o, hv, vs, rfl, _⟩ := hh1.cell hc hd0
          refine .inr ⟨⟨b, vs, rfl, SqL.of hv⟩, ?_⟩
          refine i2 e Ex hl env1 _ F1 σ H1 _ _ hh1 q1 fun u H2 F2 env2 y hh2 q2 => ?_
          have w' : (match env2[i]? with | some (.reg _ cs) => (match cellOf cs b with | some (.lst ds) => HD.wd env2 y (fun d' => fIdx (.lst ds) d' fun sl => Q sl env2) | _ => False) | _ => False) := q2
          split at w'
          · rename_i d1 cs1 hc1
            split at w'
            · rename_i ds hd1
              obtain ⟨_, o1, hv1, us, rfl, hr⟩ := hh2.cell hc1 hd1
              exact finL u H2 F2 env2 y ds hh2 (.inr ⟨b, ds, us, rfl, rfl, hv1, hr⟩) w'
            · exact w'.elim
          · exact w'.elim
        · exact q0'.elim
      · exact q0'.elim
    | al i b =>
      obtain rfl : v = .ref b := hh1.temps (v, .al i b) List.mem_cons_self
      have q0' : (match env1[i]? with | some (.lst c ds) => c = b ∧ (D.lst ds).isSq = true | _ => False) := q0
      split at q0'
      · rename_i c ds0 hc
        obtain ⟨rfl, _⟩ := q0'
        rcases hh1.slots i _ hc with z | ⟨_, _, _, _, vs, hv, _⟩
        · cases z
        · refine .inr ⟨⟨c, vs, rfl, SqL.of hv⟩, ?_⟩
          refine i2 e Ex hl env1 _ F1 σ H1 _ _ hh1 q1 fun u H2 F2 env2 y hh2 q2 => ?_
          have w' : (match env2[i]? with | some (.lst c' ds) => c' = c ∧ HD.wd env2 y (fun d' => fIdx (.lst ds) d' fun sl => Q sl env2) | _ => False) := q2
          split at w'
          · rename_i c' ds hc'
            obtain ⟨rfl, w'⟩ := w'
            rcases hh2.slots i _ hc' with z | ⟨_, _, _, _, us, hu, hr⟩
            · cases z
            · exact finL u H2 F2 env2 y ds hh2 (.inr ⟨c', ds, us, rfl, rfl, hu, hr⟩) w'
          · exact w'.elim
      · exact q0'.elim⟩
end
end HD
namespace HD
open PySem PyProof.Rows L2
abbrev DMut := List D → (D → List D → Prop) → Prop
def mutD (env : Env') (i : Nat) (a : Addr) (f : DMut) (Q : Sl → Env' → Prop) : Prop := match env[i]? with
  | some (.lst b ds) => b = a ∧ f ds fun d ds' => Q (.ext d) (env.set i (.lst a ds'))
  | _ => False
def PrM (K : PySem.W.Frag) (r : V → List V → Hp → VK → Prop) (vs : List V) (a : Addr) (F H : Hp) (ds : List D) (f : DMut) : Prop :=
  ∀ (q : D → List D → Prop) (R : VK), f ds q → (∀ v d us ds', Rep K F d v → Reps K F ds' us → q d ds' → R v (upd H a (.lst us))) → r (.ref a) vs H R
theorem Holds.mut {K : PySem.W.Frag} {e : Ent} {env : Env'} {T : Tmp} {F : Hp} {σ : L2.St} {H : Hp} {i : Nat} {a : Addr} {f : DMut} {Q : Sl → Env' → Prop} {R : VK} {r : V → List V → Hp → VK → Prop} {vs : List V} (h : Holds K e env T F σ H) (w : mutD env i a f Q)
    (hr : ∀ ds us, H a = some (.lst us) → Reps K F ds us → PrM K r vs a F H ds f) (hR : ∀ v H' F' env' sl, Holds K e env' ((v, sl) :: T) F' σ H' → Q sl env' → R v H') : r (.ref a) vs H R := by
  unfold mutD at w
  split at w
  · rename_i b ds hb
    obtain ⟨rfl, w⟩ := w
    rcases h.slots i _ hb with z | ⟨u, hu, e1, e2, us, hv, rr⟩
    · cases z
    · refine hr ds us hv rr _ R w fun v d us' ds' rd rs q => ?_
      exact hR v _ F _ (.ext d) ((h.write hb rs).pushE rd) q
  · exact w.elim
section
variable {G : GG} {N : List Str} {sc : SC} {k : Nat} {a b : Expr} {ta tb : DT} {apos cpos p p2 pos pos2 py : Pos} {x : Str}
abbrev VisV (N : List Str) (sc : SC) (i : Nat) (x : Str) : Prop := N[i]? = some x ∧ Vis sc.sc x ∧ (x == ("__debug__" : Str)) = false ∧ (x == ("__classdict__" : Str)) = false
def dAppend (i : Nat) (t : DT) : DT := fun Ex env Q => match env[i]? with
  | some (.lst a _) => t Ex env fun x env1 => frzD env1 x fun d env2 => mutD env2 i a (fun ds q => ds.length < sizeLine ∧ q .non (ds ++ [d])) Q
  | _ => False
theorem de_append (i : Nat) (hb : DE G N sc k b tb) (hw : FewArgs (.Name x py) "append" b [] cpos := by intro _; exact ⟨rfl, rfl, rfl, rfl⟩) (hv : VisV N sc i x := by exact ⟨rfl, by first | exact Or.inl rfl | exact Or.inr (Or.inl rfl) | exact Or.inr (Or.inr rfl), by decide, by decide⟩) (hline : (apos.endLine == cpos.line) = true := by rfl) :
    DE G N sc k (.Call (.Attribute (.Name x py) "append" apos) [b] [] cpos) (dAppend i tb) := ⟨fun W => by
  obtain ⟨tf, p2, i2⟩ := hb.ex W
  refine ⟨tBM G.K "list" rAppend (tVar i) (tCons tf tNil), fun X S => ?_, fun e Ex hl env T F σ H Q R hh ht hR => ?_⟩
  · obtain ⟨hbase, hfew, hs, hplain⟩ := hw X.env
    rw [← S.K]
    exact pe_bm PySem.F.plainAttrs_list PySem.F.slot_list_append PySem.F.type_list_append mt_append (pe_var (by rw [S.nms]; exact hv.1) (S.vis hv.2.1) hv.2.2.1 hv.2.2.2) (pa_cons (p2 X S) pa_nil hs) hbase hfew hline hs hplain
  · unfold dAppend at ht
    split at ht
    · rename_i c ds0 hc
      rcases hh.slots i _ hc with z | ⟨v0, hv0, e0, _, us0, hu0, _⟩
      · cases z
      · subst e0
        refine ⟨_, hv0, .inl ⟨rfl, us0, SqL.of hu0⟩, ?_⟩
        refine i2 e Ex hl env T F σ H _ _ hh ht fun u H2 F2 env2 y hh2 q2 => ?_
        obtain ⟨d, F3, env3, _, hh3, rd, q3⟩ := hh2.frz1 q2
        show rAppend (.ref c) [u] H2 R
        refine hh3.mut q3 (fun ds us hu rr q R' hf hk => ?_) hR
        obtain ⟨hz, hf⟩ := hf
        exact ⟨c, us, u, rfl, rfl, hu, by rw [← rr.length]; exact hz, hk .non .non _ _ rfl (rr.append (.one rd)) hf⟩
    · exact ht.elim⟩
def dExtend (i : Nat) (t : DT) : DT := fun Ex env Q => match env[i]? with
  | some (.lst a _) => t Ex env fun x env1 => wd env1 x fun d => match d with
    | .lst es => mutD env1 i a (fun ds q => ds.length + es.length ≤ sizeLine ∧ q .non (ds ++ es)) Q
    | _ => False
  | _ => False
def dPopAt (i : Nat) (t : DT) : DT := fun Ex env Q => match env[i]? with
  | some (.lst a _) => t Ex env fun x env1 => match x with
    | .ext (.int n) => mutD env1 i a (fun ds q => 0 ≤ n ∧ n < 2 ^ 63 ∧ ∃ d, ds[n.toNat]? = some d ∧ q d (ds.eraseIdx n.toNat)) Q
    | _ => False
  | _ => False
theorem de_popAt (i : Nat) (hb : DE G N sc k b tb) (hw : FewArgs (.Name x py) "pop" b [] cpos := by intro _; exact ⟨rfl, rfl, rfl, rfl⟩) (hv : VisV N sc i x := by exact ⟨rfl, by first | exact Or.inl rfl | exact Or.inr (Or.inl rfl) | exact Or.inr (Or.inr rfl), by decide, by decide⟩) (hline : (apos.endLine == cpos.line) = true := by rfl) :
    DE G N sc k (.Call (.Attribute (.Name x py) "pop" apos) [b] [] cpos) (dPopAt i tb) := ⟨fun W => by
  obtain ⟨tf, p2, i2⟩ := hb.ex W
  refine ⟨tBM G.K "list" rPopAt (tVar i) (tCons tf tNil), fun X S => ?_, fun e Ex hl env T F σ H Q R hh ht hR => ?_⟩
  · obtain ⟨hbase, hfew, hs, hplain⟩ := hw X.env
    rw [← S.K]
    exact pe_bm PySem.F.plainAttrs_list PySem.F.slot_list_pop PySem.F.type_list_pop mt_popAt (pe_var (by rw [S.nms]; exact hv.1) (S.vis hv.2.1) hv.2.2.1 hv.2.2.2) (pa_cons (p2 X S) pa_nil hs) hbase hfew hline hs hplain
  · unfold dPopAt at ht
    split at ht
    · rename_i c ds0 hc
      rcases hh.slots i _ hc with z | ⟨v0, hv0, e0, _, us0, hu0, _⟩
      · cases z
      · subst e0
        refine ⟨_, hv0, .inl ⟨rfl, us0, SqL.of hu0⟩, ?_⟩
        refine i2 e Ex hl env T F σ H _ _ hh ht fun u H2 F2 env2 y hh2 q2 => ?_
        cases y with
        | ext d =>
          cases d with
          | int n =>
            have eu : u = .int n := hh2.temps (u, .ext (.int n)) List.mem_cons_self
            show rPopAt (.ref c) [u] H2 R
            refine hh2.pop.mut q2 (fun ds us hu rr q R' hf hk => ?_) hR
            obtain ⟨h0, h1, d, hd, hf⟩ := hf
            obtain ⟨v, hv', rd⟩ := rr.get hd
            have hlt : n.toNat < us.length := (List.getElem?_eq_some_iff.mp hv').1
            refine ⟨c, us, n, n.toNat, v, rfl, by rw [eu], hu, Int.le_trans (by decide) h0, h1, ?_, hv', hk v d _ _ rd (rr.eraseIdx _) hf⟩
            obtain ⟨m, rfl⟩ := Int.eq_ofNat_of_zero_le h0
            exact (ixN_seq (n := us.length) (i := (m : Int)) (j := m) (by
              unfold ixN
              rw [if_pos h0, if_pos (by rw [Int.toNat_natCast] at hlt; omega)]
              rfl)).1
          | _ => exact q2.elim
        | _ => exact q2.elim
    · exact ht.elim⟩
def dPop (i : Nat) : DT := fun Ex env Q => match env[i]? with
  | some (.lst a _) => mutD env i a (fun ds q => ∃ d, ds[ds.length - 1]? = some d ∧ q d ds.dropLast) Q
  | _ => False
def sSetItem (i : Nat) (tI te : DT) : DTS := fun Ex E env => te Ex env fun y env0 => frzD env0 y fun d env1 => match env1[i]? with
  | some (.lst a _) => tI Ex env1 fun z env2 => match z with
    | .ext (.int n) => match env2[i]? with
      | some (.lst b ds) => b = a ∧ ∃ j, ixN ds.length n = some j ∧ E.nx (env2.set i (.lst a (ds.set j d)))
      | _ => False
    | _ => False
  | _ => False
theorem ds_setitem {spos : Pos} (i : Nat) (hb : DE G N sc k b tb) (ha : DE G N sc k a ta) (hv : VisV N sc i x := by exact ⟨rfl, by first | exact Or.inl rfl | exact Or.inr (Or.inl rfl) | exact Or.inr (Or.inr rfl), by decide, by decide⟩)
    (hs : ∀ env, swapsWithSole [.Subscript (.Name x py) b spos] a pos.line env = pure false := by intro _; rfl) (hw : ∀ env, swappedStores [.Subscript (.Name x py) b spos] a env = pure none := by intro _; rfl)
    (h1 : ∀ env, (assignEach [.Subscript (.Name x py) b spos] env).map (·.2) = [assign (.Subscript (.Name x py) b spos) env] := by intro _; rfl)
    (h2 : ∀ env v, assign (.Subscript (.Name x py) b spos) env v = (do
      let ov ← holding [v] (eval (.Name x py) env)
      let iv ← holding [v, ov] (eval b env)
      standAt spos
      holding [v, ov, iv] (setItem ov iv v)
      release [v, ov, iv] []) := by intro _ _; rfl) :
    DS G N sc k (.Assign [.Subscript (.Name x py) b spos] a pos) (sSetItem i tb ta) := ⟨fun W => by
  obtain ⟨te, p1, i1⟩ := ha.ex W
  obtain ⟨tf, p2, i2⟩ := hb.ex W
  refine ⟨tAsg te (gSub (tVar i) tf rSetL), fun X S => ?_, fun e Ex hl env F σ H E Dn hh ht ok => ?_⟩
  · exact ps_asg (p1 X S) (pg_sub (pe_var (by rw [S.nms]; exact hv.1) (S.vis hv.2.1) hv.2.2.1 hv.2.2.2) (p2 X S) set_list (h2 _)) (hs _) (hw _) (h1 _)
  · refine i1 e Ex hl env [] F σ H _ _ hh ht fun v H1 F1 env0 y hh1 q1 => ?_
    obtain ⟨d, F2, env1, _, hh2, rd, q2⟩ := hh1.frz1 q1
    split at q2
    · rename_i c ds0 hc
      rcases hh2.slots i _ hc with z | ⟨v0, hv0, e0, _⟩
      · cases z
      · subst e0
        refine ⟨_, hv0, ?_⟩
        refine i2 e Ex hl env1 [(v, .ext d)] F2 σ H1 _ _ (hh2.pushE rd) q2 fun u H3 F3 env3 z hh3 q3 => ?_
        have rd3 : Rep G.K F3 d v := hh3.temps (v, .ext d) (List.mem_cons_of_mem _ List.mem_cons_self)
        cases z with
        | ext dz =>
          cases dz with
          | int n =>
            have eu : u = .int n := hh3.temps (u, .ext (.int n)) List.mem_cons_self
            have q3' : (match env3[i]? with | some (.lst b ds) => b = c ∧ ∃ j, ixN ds.length n = some j ∧ E.nx (env3.set i (.lst c (ds.set j d))) | _ => False) := q3
            split at q3'
            · rename_i c' ds hc'
              obtain ⟨rfl, j, hj, q4⟩ := q3'
              rcases hh3.slots i _ hc' with z | ⟨_, _, _, _, us, hu, rr⟩
              · cases z
              · exact ⟨c', us, n, j, rfl, eu, hu, by rw [← rr.length]; exact hj, ok.nx _ F3 σ _ (hh3.bare.write hc' (rr.set j rd3)) q4⟩
            · exact q3'.elim
          | _ => exact q3.elim
        | _ => exact q3.elim
    · exact q2.elim⟩
end
section
variable {G : GG} {N : List Str} {sc : SC} {k : Nat} {a : Expr} {ta : DT} {p p2 pos pos2 : Pos}
def dSortSet (t : DT) : DT := fun Ex env Q => t Ex env fun x env1 => wd env1 x fun d => match d with
  | .tup ds => ∃ ns : List Int, ds = ns.map D.int ∧ ns.length < 64 ∧ ∀ (ns' : List Int) (b : Addr), ns'.Pairwise (· < ·) → (∀ n : Int, n ∈ ns' ↔ n ∈ ns) → Q (.lst b (ns'.map D.int)) env1
  | _ => False
end
end HD
namespace HD
open PySem PyProof.Rows L2
abbrev Tab := List (Str × Int)
def dTable (tab : Tab) (i : Nat) : DT := fun _ env Q => match env[i]? with
  | some (.ext (.str w)) => ∃ n, tab.lookup w = some n ∧ Q (.ext (.int n)) env
  | _ => False
structure Blt (G : GG) : Prop where
  len : G.mg "len" = none
  range : G.mg "range" = none
  sorted : G.mg "sorted" = none
  set : G.mg "set" = none
  tuple : G.mg "tuple" = none
  list : G.mg "list" = none
  dict : G.mg "dict" = none
  zip : G.mg "zip" = none
  enumerate : G.mg "enumerate" = none
  all : G.mg "all" = none
  any : G.mg "any" = none
  sum : G.mg "sum" = none
  min : G.mg "min" = none
  max : G.mg "max" = none
  isinstance : G.mg "isinstance" = none
  str : G.mg "str" = none
  int : G.mg "int" = none
  repr : G.mg "repr" = none
  bool : G.mg "bool" = none
def lawSpec (n : Nat) : DSpec := fun args Q _ => ∃ ns : List Int, args = [.ext (.fz (ns.map D.int))] ∧ ns.length ≤ n ∧ ∀ fin, Q (.ext (.bl true)) fin
theorem law_sp {K : PySem.W.Frag} {n : Nat} {H : Hp} {a : Addr} {ns : List Int} (hl : ns.length ≤ n) (hS : SqL K H a (ns.map V.int)) : toSp K 1 (lawSpec n) [.ref a] H (fun v _ => v = .bl true) fun _ _ _ => False := by
  have r : Reps K H [.fz (ns.map D.int)] [.ref a] := ⟨_, _, rfl, ⟨a, _, rfl, hS, Reps.of_ints ns⟩, rfl⟩
  refine ⟨H, [.ext (.fz (ns.map D.int))], fun r _ => r = .ext (.bl true), fun _ _ => False, rfl, argsE (Same.refl _) r, ⟨ns, rfl, hl, fun _ => rfl⟩, fun v H' F' r fin hf hq => ?_, fun _ _ _ _ _ z => z⟩
  subst hq
  exact hf.temps (v, .ext (.bl true)) List.mem_cons_self
theorem cx_no {P : Program} {w : World} (H : Hp) (s : Shared) (e : Value) (s' : Shared) (h : L2.CX P w [] H s (fun _ _ _ => False) e s') : False := by
  obtain ⟨_, _, _, _, _, _, _, _, _, _, _, _, z⟩ := h
  exact z
end HD
namespace HD
open PySem PyProof.Rows L2
def iSeq (K : PySem.W.Frag) (tl : TE) : TI := fun σ H R => tl σ H fun x H1 => ∃ a, x = .ref a ∧ (((∃ xs, SqL K H1 a xs) ∧ R (Itl K a) H1) ∨ ((∃ xs, SqT K H1 a xs) ∧ R (Itt K a) H1))
theorem pi_seq {X : Cx} {tg l : Expr} {tl : TE} (hl : PE X l tl) : PI X tg l (iSeq X.K tl) := by
  refine ⟨fun pins s σ H R I h => ?_⟩
  refine thn (hl.run pins s σ H _ I h) fun v s1 ⟨x, H1, I1, r1, q1⟩ => ?_
  obtain ⟨a, ex, q1⟩ := q1
  subst ex
  cases r1
  have fp : ∀ b ∈ [s1.heap.objs.size], FpOk X pins H1 b := fun b hb => by
    have eb : b = s1.heap.objs.size := by simpa using hb
    subst eb
    exact I1.fpOk (Nat.le_refl _) (I1.hok.fresh (Nat.le_refl _))
  rcases q1 with ⟨⟨xs, hq⟩, q⟩ | ⟨⟨xs, hq⟩, q⟩
  · obtain ⟨its, rv, p, hz⟩ := I1.list hq
    refine wpAny_pyIter_list p.isList ?_
    exact ⟨s1.heap.objs.size, [s1.heap.objs.size], _, _, H1, rfl, I1.kept (t' := s1.toks) fun b o e => Heap.get?_push_of_some _ e, turn_list a _, ⟨_, Heap.get?_push_size _ rfl, rfl, rfl⟩, fp, q⟩
  · obtain ⟨its, rv, p, hz⟩ := I1.tuple hq
    refine wpAny_pyIter_tuple (show s1.heap.IsTuple a its.toArray from p) ?_
    exact ⟨s1.heap.objs.size, [s1.heap.objs.size], _, _, H1, rfl, I1.kept (t' := s1.toks) fun b o e => Heap.get?_push_of_some _ e, turn_tuple a _, ⟨_, Heap.get?_push_size _ rfl, rfl, rfl⟩, fp, q⟩
def dSeq (t : DT) : DTI := fun Ex env Q => t Ex env fun x env1 => seqD env1 x fun ds keep => Q ds keep env1
theorem src_stands {K : PySem.W.Frag} {b : Bool} {a : Addr} {ds : List D} {k : Env' → Prop} {F0 : Hp} (h : Stands K b a ds k F0) : Src K (if b = true then Itt K a else Itl K a) ds k F0 := fun e env T F σ H i hh sm kk => by
  obtain ⟨vs, s1, r⟩ := h e env T F σ H hh sm kk
  cases b with
  | true =>
    refine ⟨fun hi => ⟨vs, s1, by rw [← r.length]; exact Nat.le_of_eq hi⟩, fun d hd => ?_⟩
    obtain ⟨v, hv, rd⟩ := r.get hd
    refine ⟨⟨vs, v, s1, hv⟩, fun x H2 hy => ?_⟩
    obtain ⟨rfl, hx⟩ := hy
    have e1 := hx _ s1
    rw [hv] at e1
    cases e1
    exact ⟨F, Grow.refl hh.fh, rd⟩
  | false =>
    refine ⟨fun hi => ⟨vs, s1, by rw [← r.length]; exact Nat.le_of_eq hi⟩, fun d hd => ?_⟩
    obtain ⟨v, hv, rd⟩ := r.get hd
    refine ⟨⟨vs, v, s1, hv⟩, fun x H2 hy => ?_⟩
    obtain ⟨rfl, hx⟩ := hy
    have e1 := hx _ s1
    rw [hv] at e1
    cases e1
    exact ⟨F, Grow.refl hh.fh, rd⟩
section
variable {G : GG} {N : List Str} {sc : SC} {k : Nat} {a : Expr} {ta : DT}
theorem di_seq {tg : Expr} (h : DE G N sc k a ta) : DI G N sc k tg a (dSeq ta) := ⟨fun W => by
  obtain ⟨te, p1, i1⟩ := h.ex W
  refine ⟨iSeq G.K te, fun X S => by rw [← S.K]; exact pi_seq (p1 X S), fun e Ex hl env T F σ H Q R hh ht hR => ?_⟩
  refine i1 e Ex hl env T F σ H _ _ hh ht fun v H1 F1 env1 x hh1 q1 => ?_
  obtain ⟨b, c, ds, kp, F2, rfl, q2, _, hh2, st, kk⟩ := hh1.seqD q1
  have src := src_stands st
  obtain ⟨vs, s1, _⟩ := st e env1 T F2 σ H1 hh2 (Same.refl _) kk
  cases b with
  | true => exact ⟨c, rfl, .inr ⟨⟨vs, s1⟩, hR _ H1 F2 env1 ds kp hh2 src q2⟩⟩
  | false => exact ⟨c, rfl, .inl ⟨⟨vs, s1⟩, hR _ H1 F2 env1 ds kp hh2 src q2⟩⟩⟩
end
end HD
namespace HD
open PySem L2
theorem eqv_refl {d : D} (h : d.cmp) : d.eqv d = true := PySem.SeqAt.eqv_refl d.py (PySem.SeqAt.canLay_of_shaped h.2)
def Meets (t : DTS) (n m : Nat) (sp : DSpec) : Prop := ∀ args Qd Xd, sp args Qd Xd → t (exOf args Xd) (endsOf args Qd) (args ++ List.replicate m .un)
theorem finals1 (x : Sl) (env : Env') : finals [x] env = [fin1 x env[0]?] := rfl
theorem finals2 (x y : Sl) (env : Env') : finals [x, y] env = [fin1 x env[0]?, fin1 y env[1]?] := rfl
theorem finals3 (x y z : Sl) (env : Env') : finals [x, y, z] env = [fin1 x env[0]?, fin1 y env[1]?, fin1 z env[2]?] := rfl
theorem finals4 (x y z u : Sl) (env : Env') : finals [x, y, z, u] env = [fin1 x env[0]?, fin1 y env[1]?, fin1 z env[2]?, fin1 u env[3]?] := rfl
theorem finals5 (x y z u v : Sl) (env : Env') : finals [x, y, z, u, v] env = [fin1 x env[0]?, fin1 y env[1]?, fin1 z env[2]?, fin1 u env[3]?, fin1 v env[4]?] := rfl
theorem finals6 (x y z u v w : Sl) (env : Env') : finals [x, y, z, u, v, w] env = [fin1 x env[0]?, fin1 y env[1]?, fin1 z env[2]?, fin1 u env[3]?, fin1 v env[4]?, fin1 w env[5]?] := rfl
theorem fin1_ext (d : D) (o : Option Sl) : fin1 (.ext d) o = .ext d := rfl
theorem fin1_lst (a : Addr) (ds es : List D) : fin1 (.lst a ds) (some (.lst a es)) = .lst a es := if_pos rfl
theorem fEq_ii (i j : Int) (Q : Sl → Prop) : fEq (.int i) (.int j) Q = Q (.ext (.bl (i == j))) := rfl
theorem fEq_ss (i j : Str) (Q : Sl → Prop) : fEq (.str i) (.str j) Q = Q (.ext (.bl (i == j))) := rfl
theorem fEq_bb (i j : Bool) (Q : Sl → Prop) : fEq (.bl i) (.bl j) Q = Q (.ext (.bl (i == j))) := rfl
theorem fEq_tt (i j : List D) (Q : Sl → Prop) : fEq (.tup i) (.tup j) Q = (D.cmp (.tup i) ∧ D.cmp (.tup j) ∧ Q (.ext (.bl (D.eqv (.tup i) (.tup j))))) := rfl
theorem fEq_ll (i j : List D) (Q : Sl → Prop) : fEq (.lst i) (.lst j) Q = (D.cmp (.lst i) ∧ D.cmp (.lst j) ∧ Q (.ext (.bl (D.eqv (.lst i) (.lst j))))) := rfl
theorem fNe_ii (i j : Int) (Q : Sl → Prop) : fNe (.int i) (.int j) Q = Q (.ext (.bl (!(i == j)))) := rfl
theorem fNe_ss (i j : Str) (Q : Sl → Prop) : fNe (.str i) (.str j) Q = Q (.ext (.bl (!(i == j)))) := rfl
theorem fNe_bb (i j : Bool) (Q : Sl → Prop) : fNe (.bl i) (.bl j) Q = Q (.ext (.bl (!(i == j)))) := rfl
theorem fNe_tt (i j : List D) (Q : Sl → Prop) : fNe (.tup i) (.tup j) Q = (D.cmp (.tup i) ∧ D.cmp (.tup j) ∧ Q (.ext (.bl (!D.eqv (.tup i) (.tup j))))) := rfl
theorem fNe_ll (i j : List D) (Q : Sl → Prop) : fNe (.lst i) (.lst j) Q = (D.cmp (.lst i) ∧ D.cmp (.lst j) ∧ Q (.ext (.bl (!D.eqv (.lst i) (.lst j))))) := rfl
inductive Tok {α : Type _} (Q : α) : Type where
  | mk
def CallS (spec : DSpec) (args : List Sl) (Q : Sl → List Sl → Prop) (X : Str → List Sl → Prop) (_ : Tok Q) (_ : Tok X) : Prop := spec args Q X
def GetS (o : Option D) (k : D → Prop) (_ : Tok k) : Prop := ∃ d, o = some d ∧ k d
def AtS (o : Option Sl) (k1 : D → Prop) (k2 : Addr → List D → Prop) (_ : Tok k1) (_ : Tok k2) : Prop := match o with
  | some (.ext d) => k1 d
  | some (.lst a ds) => k2 a ds
  | _ => False
theorem GetS_some (d : D) (k : D → Prop) (t : Tok k) : GetS (some d) k t = k d := propext ⟨fun ⟨_, e, h⟩ => by cases e; exact h, fun h => ⟨d, rfl, h⟩⟩
theorem AtS_ext (d : D) (k1 : D → Prop) (k2 : Addr → List D → Prop) (t : Tok k1) (u : Tok k2) : AtS (some (.ext d)) k1 k2 t u = k1 d := rfl
theorem AtS_lst (a : Addr) (ds : List D) (k1 : D → Prop) (k2 : Addr → List D → Prop) (t : Tok k1) (u : Tok k2) : AtS (some (.lst a ds)) k1 k2 t u = k2 a ds := rfl
abbrev AtL (o : Option Sl) (k2 : Addr → List D → Prop) : Prop := AtS o (fun _ => False) k2 .mk .mk
theorem AtL_eq (o : Option Sl) (k2 : Addr → List D → Prop) : (match o with | some (.lst a ds) => k2 a ds | _ => False) = AtS o (fun _ => False) k2 .mk .mk := by
  unfold AtS
  rcases o with _ | (_ | _ | _ | _ | _) <;> rfl
theorem dCall_w (spec : DSpec) (ta : DTA) (Ex : DX) (env : Env') (Q : Sl → Env' → Prop) : dCall spec ta Ex env Q = ta Ex env fun xs env1 => wds env1 xs fun ds =>
  CallS spec (ds.map .ext) (fun r _ => (anyAl xs = false ∨ r.imm = true) ∧ r.plain ∧ Q r env1) (fun c _ => Ex c env1) .mk .mk := rfl
theorem dCallJ_w (spec : DSpec) (i : Nat) (ta : DTA) (Ex : DX) (env : Env') (Q : Sl → Env' → Prop) : dCallJ spec i ta Ex env Q = AtL env[i]? fun a _ => ta Ex env fun xs env1 => AtL env1[i]? fun b ds => b = a ∧ frozs env1 xs fun es => CallS spec (.lst a ds :: es.map .ext)
        (fun r fin => match fin with | s' :: _ => s'.plain ∧ r.plain ∧ Q r (env1.set i s') | [] => False) (fun c fin => match fin with | s' :: _ => s'.plain ∧ Ex c (env1.set i s') | [] => False) .mk .mk := by
  simp only [AtL, ← AtL_eq] <;> rfl
theorem dVar_w (i : Nat) (Ex : DX) (env : Env') (Q : Sl → Env' → Prop) : dVar i Ex env Q = AtS env[i]? (fun d => Q (.ext d) env) (fun a _ => Q (.al i a) env) .mk .mk := by
  unfold dVar AtS
  rcases env[i]? with _ | (_ | _ | _ | _ | _) <;> rfl
theorem wd_ext (env : Env') (d : D) (k : D → Prop) : wd env (.ext d) k = k d := rfl
theorem wd_lst (env : Env') (a : Addr) (ds : List D) (k : D → Prop) : wd env (.lst a ds) k = k (.lst ds) := rfl
theorem wd_al (env : Env') (i : Nat) (a : Addr) (k : D → Prop) : wd env (.al i a) k = AtL env[i]? fun b ds => b = a ∧ k (.lst ds) := by
  simp only [AtL, ← AtL_eq] <;> rfl
theorem frzD_ext (env : Env') (d : D) (q : D → Env' → Prop) : frzD env (.ext d) q = q d env := rfl
theorem frzD_lst (env : Env') (a : Addr) (ds : List D) (q : D → Env' → Prop) : frzD env (.lst a ds) q = q (.lst ds) env := rfl
theorem frzD_al (env : Env') (i : Nat) (a : Addr) (q : D → Env' → Prop) : frzD env (.al i a) q = AtL env[i]? fun b ds => b = a ∧ q (.lst ds) (env.set i (.ext (.lst ds))) := by
  simp only [AtL, ← AtL_eq, frzD]
  rcases env[i]? with _ | (_ | d | _ | _ | _) <;> try rfl
  cases d <;> rfl
theorem retD_ext (env : Env') (d : D) (q : Sl → Env' → Prop) : retD env (.ext d) q = q (.ext d) env := rfl
theorem retD_lst (env : Env') (a : Addr) (ds : List D) (q : Sl → Env' → Prop) : retD env (.lst a ds) q = q (.lst a ds) env := rfl
theorem retD_al (env : Env') (i : Nat) (a : Addr) (q : Sl → Env' → Prop) : retD env (.al i a) q = AtL env[i]? fun b ds => b = a ∧ q (.lst a ds) (env.set i .un) := by
  simp only [AtL, ← AtL_eq] <;> rfl
theorem seqD_tup (env : Env') (ds : List D) (q : List D → (Env' → Prop) → Prop) : seqD env (.ext (.tup ds)) q = q ds fun _ => True := rfl
theorem seqD_elst (env : Env') (ds : List D) (q : List D → (Env' → Prop) → Prop) : seqD env (.ext (.lst ds)) q = q ds fun _ => True := rfl
theorem seqD_lst (env : Env') (a : Addr) (ds : List D) (q : List D → (Env' → Prop) → Prop) : seqD env (.lst a ds) q = q ds fun _ => True := rfl
theorem seqD_al (env : Env') (i : Nat) (a : Addr) (q : List D → (Env' → Prop) → Prop) : seqD env (.al i a) q = AtL env[i]? fun b ds => b = a ∧ q ds fun env' => env'[i]? = some (.lst a ds) := by
  simp only [AtL, ← AtL_eq] <;> rfl
theorem mutD_w (env : Env') (i : Nat) (a : Addr) (f : DMut) (Q : Sl → Env' → Prop) : mutD env i a f Q = AtL env[i]? fun b ds => b = a ∧ f ds fun d ds' => Q (.ext d) (env.set i (.lst a ds')) := by
  simp only [AtL, ← AtL_eq] <;> rfl
theorem dAppend_w (i : Nat) (t : DT) (Ex : DX) (env : Env') (Q : Sl → Env' → Prop) : dAppend i t Ex env Q = AtL env[i]? fun a _ => t Ex env fun x env1 => frzD env1 x fun d env2 => mutD env2 i a (fun ds q => ds.length < sizeLine ∧ q .non (ds ++ [d])) Q := by
  simp only [AtL, ← AtL_eq] <;> rfl
def extD (env : Env') (i : Nat) (a : Addr) (d : D) (Q : Sl → Env' → Prop) : Prop := match d with
    | .lst es => mutD env i a (fun ds q => ds.length + es.length ≤ sizeLine ∧ q .non (ds ++ es)) Q
    | _ => False
theorem extD_lst (env : Env') (i : Nat) (a : Addr) (es : List D) (Q : Sl → Env' → Prop) : extD env i a (.lst es) Q = mutD env i a (fun ds q => ds.length + es.length ≤ sizeLine ∧ q .non (ds ++ es)) Q := rfl
theorem dExtend_w (i : Nat) (t : DT) (Ex : DX) (env : Env') (Q : Sl → Env' → Prop) : dExtend i t Ex env Q = AtL env[i]? fun a _ => t Ex env fun x env1 => wd env1 x fun d => extD env1 i a d Q := by
  simp only [AtL, ← AtL_eq] <;> rfl
def popD (env : Env') (i : Nat) (a : Addr) (x : Sl) (Q : Sl → Env' → Prop) : Prop := match x with
    | .ext (.int n) => mutD env i a (fun ds q => 0 ≤ n ∧ n < 2 ^ 63 ∧ ∃ d, ds[n.toNat]? = some d ∧ q d (ds.eraseIdx n.toNat)) Q
    | _ => False
theorem popD_int (env : Env') (i : Nat) (a : Addr) (n : Int) (Q : Sl → Env' → Prop) : popD env i a (.ext (.int n)) Q = mutD env i a (fun ds q => 0 ≤ n ∧ n < 2 ^ 63 ∧ GetS ds[n.toNat]? (fun d => q d (ds.eraseIdx n.toNat)) .mk) Q := rfl
theorem dPopAt_w (i : Nat) (t : DT) (Ex : DX) (env : Env') (Q : Sl → Env' → Prop) : dPopAt i t Ex env Q = AtL env[i]? fun a _ => t Ex env fun x env1 => popD env1 i a x Q := by
  simp only [AtL, ← AtL_eq] <;> rfl
theorem dPop_w (i : Nat) (Ex : DX) (env : Env') (Q : Sl → Env' → Prop) : dPop i Ex env Q = AtL env[i]? fun a _ => mutD env i a (fun ds q => GetS ds[ds.length - 1]? (fun d => q d ds.dropLast) .mk) Q := by
  simp only [AtL, ← AtL_eq] <;> rfl
def setD (env2 : Env') (i : Nat) (a : Addr) (d : D) (z : Sl) (q : Env' → Prop) : Prop := match z with
    | .ext (.int n) => AtL env2[i]? fun b ds => b = a ∧ ∃ j, ixN ds.length n = some j ∧ q (env2.set i (.lst a (ds.set j d)))
    | _ => False
def NatS (o : Option Nat) (k : Nat → Prop) (_ : Tok k) : Prop := ∃ j, o = some j ∧ k j
theorem NatS_some (j : Nat) (k : Nat → Prop) (t : Tok k) : NatS (some j) k t = k j := propext ⟨fun ⟨_, e, h⟩ => by cases e; exact h, fun h => ⟨j, rfl, h⟩⟩
theorem setD_int (env2 : Env') (i : Nat) (a : Addr) (d : D) (n : Int) (q : Env' → Prop) : setD env2 i a d (.ext (.int n)) q = AtL env2[i]? fun b ds => b = a ∧ NatS (ixN ds.length n) (fun j => q (env2.set i (.lst a (ds.set j d)))) .mk := rfl
theorem sSetItem_w (i : Nat) (tI te : DT) (Ex : DX) (E : DEnds) (env : Env') : sSetItem i tI te Ex E env = te Ex env fun y env0 => frzD env0 y fun d env1 => AtL env1[i]? fun a _ => tI Ex env1 fun z env2 => setD env2 i a d z E.nx := by
  simp only [AtL, ← AtL_eq, setD, sSetItem] <;> rfl
theorem dTable_w (tab : Tab) (i : Nat) (Ex : DX) (env : Env') (Q : Sl → Env' → Prop) : dTable tab i Ex env Q = AtS env[i]? (fun d => match d with | .str w => ∃ n, tab.lookup w = some n ∧ Q (.ext (.int n)) env | _ => False) (fun _ _ => False) .mk .mk := by
  unfold dTable AtS
  rcases env[i]? with _ | (_ | d | _ | _ | _) <;> try rfl
  cases d <;> rfl
theorem fIx_l (ds : List D) (i : Int) (Q : Sl → Prop) : fIx (.lst ds) (.int i) Q = GetS (atI ds i) (fun d => Q (.ext d)) .mk := rfl
theorem fIx_t (ds : List D) (i : Int) (Q : Sl → Prop) : fIx (.tup ds) (.int i) Q = GetS (atI ds i) (fun d => Q (.ext d)) .mk := rfl
theorem fIx_k (ds : List D) (i : Int) (Q : Sl → Prop) : fIx (.tk ds) (.int i) Q = GetS (atI ds i) (fun d => Q (.ext d)) .mk := rfl
theorem fIx_f (ds : List D) (i : Int) (Q : Sl → Prop) : fIx (.fz ds) (.int i) Q = GetS (atI ds i) (fun d => Q (.ext d)) .mk := rfl
def BoolS (o : Option Bool) (k : Bool → Prop) (_ : Tok k) : Prop := ∃ b, o = some b ∧ k b
theorem BoolS_some (b : Bool) (k : Bool → Prop) (t : Tok k) : BoolS (some b) k t = k b := propext ⟨fun ⟨_, e, h⟩ => by cases e; exact h, fun h => ⟨b, rfl, h⟩⟩
theorem fIsi1 (d : D) (T : String) (Q : Sl → Prop) : fIsi [d, .val (.ty T)] Q = (d.noVal = true ∧ d.isFz = false ∧ BoolS (kitB d.ty T) (fun b => Q (.ext (.bl b))) .mk) := rfl
theorem fIsi2 (d : D) (T U : String) (Q : Sl → Prop) : fIsi [d, .tup [.val (.ty T), .val (.ty U)]] Q = (d.noVal = true ∧ d.isFz = false ∧ BoolS (kitB d.ty T) (fun b => BoolS (kitB d.ty U) (fun c => Q (.ext (.bl (b || c)))) .mk) .mk) := by
  simp only [fIsi, BoolS]
  refine propext ⟨fun ⟨h1, h2, b, c, h3, h4, q⟩ => ⟨h1, h2, b, h3, c, h4, q⟩, fun ⟨h1, h2, b, h3, c, h4, q⟩ => ⟨h1, h2, b, c, h3, h4, q⟩⟩
theorem kb_non_tuple : kitB (D.ty .non) "tuple" = some false := by decide +kernel
theorem kb_non_list : kitB (D.ty .non) "list" = some false := by decide +kernel
theorem kb_non_bool : kitB (D.ty .non) "bool" = some false := by decide +kernel
theorem kb_non_int : kitB (D.ty .non) "int" = some false := by decide +kernel
theorem kb_non_str : kitB (D.ty .non) "str" = some false := by decide +kernel
theorem kb_bl_tuple (b : Bool) : kitB (D.ty (.bl b)) "tuple" = some false := show kitB "bool" "tuple" = some false by decide +kernel
theorem kb_bl_list (b : Bool) : kitB (D.ty (.bl b)) "list" = some false := show kitB "bool" "list" = some false by decide +kernel
theorem kb_bl_bool (b : Bool) : kitB (D.ty (.bl b)) "bool" = some true := show kitB "bool" "bool" = some true by decide +kernel
theorem kb_bl_int (b : Bool) : kitB (D.ty (.bl b)) "int" = some true := show kitB "bool" "int" = some true by decide +kernel
theorem kb_bl_str (b : Bool) : kitB (D.ty (.bl b)) "str" = some false := show kitB "bool" "str" = some false by decide +kernel
theorem kb_int_tuple (i : Int) : kitB (D.ty (.int i)) "tuple" = some false := show kitB "int" "tuple" = some false by decide +kernel
theorem kb_int_list (i : Int) : kitB (D.ty (.int i)) "list" = some false := show kitB "int" "list" = some false by decide +kernel
theorem kb_int_bool (i : Int) : kitB (D.ty (.int i)) "bool" = some false := show kitB "int" "bool" = some false by decide +kernel
theorem kb_int_int (i : Int) : kitB (D.ty (.int i)) "int" = some true := show kitB "int" "int" = some true by decide +kernel
theorem kb_int_str (i : Int) : kitB (D.ty (.int i)) "str" = some false := show kitB "int" "str" = some false by decide +kernel
theorem kb_str_tuple (x : Str) : kitB (D.ty (.str x)) "tuple" = some false := show kitB "str" "tuple" = some false by decide +kernel
theorem kb_str_list (x : Str) : kitB (D.ty (.str x)) "list" = some false := show kitB "str" "list" = some false by decide +kernel
theorem kb_str_bool (x : Str) : kitB (D.ty (.str x)) "bool" = some false := show kitB "str" "bool" = some false by decide +kernel
theorem kb_str_int (x : Str) : kitB (D.ty (.str x)) "int" = some false := show kitB "str" "int" = some false by decide +kernel
theorem kb_str_str (x : Str) : kitB (D.ty (.str x)) "str" = some true := show kitB "str" "str" = some true by decide +kernel
theorem kb_lst_tuple (ds : List D) : kitB (D.ty (.lst ds)) "tuple" = some false := show kitB "list" "tuple" = some false by decide +kernel
theorem kb_lst_list (ds : List D) : kitB (D.ty (.lst ds)) "list" = some true := show kitB "list" "list" = some true by decide +kernel
theorem kb_lst_bool (ds : List D) : kitB (D.ty (.lst ds)) "bool" = some false := show kitB "list" "bool" = some false by decide +kernel
theorem kb_lst_int (ds : List D) : kitB (D.ty (.lst ds)) "int" = some false := show kitB "list" "int" = some false by decide +kernel
theorem kb_lst_str (ds : List D) : kitB (D.ty (.lst ds)) "str" = some false := show kitB "list" "str" = some false by decide +kernel
theorem kb_tup_tuple (ds : List D) : kitB (D.ty (.tup ds)) "tuple" = some true := show kitB "tuple" "tuple" = some true by decide +kernel
theorem kb_tup_list (ds : List D) : kitB (D.ty (.tup ds)) "list" = some false := show kitB "tuple" "list" = some false by decide +kernel
theorem kb_tup_bool (ds : List D) : kitB (D.ty (.tup ds)) "bool" = some false := show kitB "tuple" "bool" = some false by decide +kernel
theorem kb_tup_int (ds : List D) : kitB (D.ty (.tup ds)) "int" = some false := show kitB "tuple" "int" = some false by decide +kernel
theorem kb_tup_str (ds : List D) : kitB (D.ty (.tup ds)) "str" = some false := show kitB "tuple" "str" = some false by decide +kernel
def BlS (z : Sl) (k : Bool → Prop) (_ : Tok k) : Prop := match z with
  | .ext (.bl b) => k b
  | _ => False
theorem BlS_bl (b : Bool) (k : Bool → Prop) (t : Tok k) : BlS (.ext (.bl b)) k t = k b := rfl
theorem bl_match (z : Sl) (p q : Prop) : (match z with
  | .ext (.bl true) => p
  | .ext (.bl false) => q
  | _ => False) = BlS z (fun b => if b = true then p else q) .mk := by
  unfold BlS
  rcases z with _ | (_ | b | _ | _ | _ | _ | _ | _ | _ | _ | _) | _ | _ <;> try rfl
  cases b <;> simp
theorem dChain_w (f f' : D → D → (Sl → Prop) → Prop) (ta tb tc : DT) (Ex : DX) (env : Env') (Q : Sl → Env' → Prop) : dChain f f' ta tb tc Ex env Q = ta Ex env fun x env1 => tb Ex env1 fun y env2 => wd env2 x fun d => wd env2 y fun d' => f d d' fun z =>
  BlS z (fun b => if b = true then (tc Ex env2 fun w env3 => wd env3 y fun d1 => wd env3 w fun d2 => f' d1 d2 fun sl => Q sl env3) else Q (.ext (.bl false)) env2) .mk := by
  simp only [← bl_match] <;> rfl
theorem dAndV_w (ta tb : DT) (Ex : DX) (env : Env') (Q : Sl → Env' → Prop) : dAndV ta tb Ex env Q = ta Ex env fun x env1 => BlS x (fun b => if b = true then tb Ex env1 Q else Q (.ext (.bl false)) env1) .mk := by
  simp only [← bl_match] <;> rfl
theorem dOrV_w (ta tb : DT) (Ex : DX) (env : Env') (Q : Sl → Env' → Prop) : dOrV ta tb Ex env Q = ta Ex env fun x env1 => BlS x (fun b => if b = true then Q (.ext (.bl true)) env1 else tb Ex env1 Q) .mk := by
  have e : ∀ (z : Sl) (p q : Prop), (match z with
    | .ext (.bl false) => q
    | .ext (.bl true) => p
    | _ => False) = BlS z (fun b => if b = true then p else q) .mk := by
    intro z p q
    unfold BlS
    rcases z with _ | (_ | b | _ | _ | _ | _ | _ | _ | _ | _ | _) | _ | _ <;> try rfl
    cases b <;> simp
  simp only [← e] <;> rfl
abbrev iD (l : List Int) : List D := l.map D.int
abbrev nD (l : List Nat) : List D := l.map fun n : Nat => D.int (n : Int)
theorem nD_cons (x : Nat) (l : List Nat) : nD (x :: l) = D.int (x : Int) :: nD l := rfl
theorem iD_cons (x : Int) (l : List Int) : iD (x :: l) = D.int x :: iD l := rfl
theorem nD_app (a b : List Nat) : nD (a ++ b) = nD a ++ nD b := List.map_append
theorem nD_len (a : List Nat) : (nD a).length = a.length := List.length_map _
theorem iD_len (a : List Int) : (iD a).length = a.length := List.length_map _
theorem cmulN {i j : Int} {a b : Nat} (hi : i.natAbs < 2 ^ a) (hj : j.natAbs < 2 ^ b) (h : a + b < 1000000) : CMulW i j := by
  unfold CMulW
  have h1 : i.natAbs.log2 ≤ a := by
    rcases Nat.eq_zero_or_pos i.natAbs with z | z
    · rw [z]; exact Nat.zero_le _
    · exact Nat.le_of_lt ((Nat.log2_lt (by omega)).2 hi)
  have h2 : j.natAbs.log2 ≤ b := by
    rcases Nat.eq_zero_or_pos j.natAbs with z | z
    · rw [z]; exact Nat.zero_le _
    · exact Nat.le_of_lt ((Nat.log2_lt (by omega)).2 hj)
  omega
theorem cmul64 {i j : Int} (h1 : -18446744073709551616 < i) (h2 : i < 18446744073709551616) (h3 : -18446744073709551616 < j) (h4 : j < 18446744073709551616) : CMulW i j :=
  cmulN (a := 64) (b := 64) (by omega) (by omega) (by decide)
theorem atN {α : Type} {xs : List α} {n : Nat} {x : α} (h : xs[n]? = some x) : atI xs (n : Int) = some x := by
  have hl : n < xs.length := (List.getElem?_eq_some_iff.1 h).1
  have e : ixN xs.length (n : Int) = some n := by
    unfold ixN
    rw [if_pos (by omega), if_pos (by omega)]
    simp
  unfold atI
  rw [e]
  exact h
theorem ixN_nat {n i : Nat} (h : i < n) : ixN n (i : Int) = some i := by
  unfold ixN
  rw [if_pos (by omega), if_pos (by omega)]
  simp
theorem atI_int {α : Type} {xs : List α} {i : Int} {x : α} (h0 : 0 ≤ i) (h : xs[i.toNat]? = some x) : atI xs i = some x := by
  have := atN h
  rwa [Int.toNat_of_nonneg h0] at this
theorem atI_0 {α : Type} (x : α) (xs : List α) : atI (x :: xs) 0 = some x := atN (n := 0) rfl
theorem atI_1 {α : Type} (x y : α) (xs : List α) : atI (x :: y :: xs) 1 = some y := atN (n := 1) rfl
theorem atI_2 {α : Type} (x y z : α) (xs : List α) : atI (x :: y :: z :: xs) 2 = some z := atN (n := 2) rfl
theorem atI_3 {α : Type} (x y z u : α) (xs : List α) : atI (x :: y :: z :: u :: xs) 3 = some u := atN (n := 3) rfl
theorem ixN_0 (n : Nat) : ixN (n + 1) 0 = some 0 := ixN_nat (i := 0) (by omega)
theorem ixN_1 (n : Nat) : ixN (n + 1 + 1) 1 = some 1 := ixN_nat (i := 1) (by omega)
theorem ixN_2 (n : Nat) : ixN (n + 1 + 1 + 1) 2 = some 2 := ixN_nat (i := 2) (by omega)
end HD
namespace HD
open PySem PySem.Spec PyProof.Rows L2
section
variable {X : Cx} {pins : List (Addr × Obj)} {σ : L2.St} {H : Hp} {s : Shared}
theorem un_adopt {fs ex : List Addr} {H0 H1 : Hp} {h h1 : Heap} {a : Addr} {o : HO} (u : Un fs ex H0 H1 h h1) (n0 : a ∉ ex → h.get? a = none) (n1 : H1 a = none) : Un fs ex H0 (upd H1 a o) h h1 where
  keep := u.keep
  slot := u.slot
  there := u.there
  free := fun b x q n z => by
    have nb : b ≠ a := fun e => by
      subst e
      rw [n0 z] at q; cases q
    rw [upd_ne nb]; exact u.free b x q n z
  tups := fun b xs q => by
    have q1 := u.tups b xs q
    rw [upd_ne (ne_of_none q1 n1)]; exact q1
  frzs := fun b x y q => by
    have q1 := u.frzs b x y q
    rw [upd_ne (ne_of_none q1 n1)]; exact q1
  tbls := fun b ps q => by
    obtain ⟨m, q1⟩ := u.tbls b ps q
    exact ⟨m, by rw [upd_ne (ne_of_none q1 n1)]; exact q1⟩
theorem inv_adopt {a : Addr} {oe : Obj} (I : Inv X pins σ H s) (ha : s.heap.get? a = some oe) (na : H a = none) (nL : a ≠ X.env.locals) (nc : ∀ v, oe.data ≠ .cell v) (n0 : a ∉ X.ex → X.s_0.heap.get? a = none) (np : ∀ p ∈ X.pn ++ pins, p.1 ≠ a) :
    Inv X pins σ (upd H a (.frz oe (.own a))) s where
  ok := I.ok
  os := I.os
  bare := I.bare
  base := un_adopt I.base n0 na
  loc := I.loc
  cell := I.cell
  free := by rw [upd_ne (Ne.symm nL)]; exact I.free
  freeC := fun x c q => by
    obtain ⟨v, hv⟩ := I.cell x c q
    have : c ≠ a := fun e => by
      rw [e] at hv
      obtain ⟨o, q1, q2⟩ := hv
      rw [ha] at q1
      cases q1
      exact nc _ q2
    rw [upd_ne this]; exact I.freeC x c q
  pin := fun p hp => by
    obtain ⟨h1, h2, h3⟩ := I.pin p hp
    exact ⟨h1, by rw [upd_ne (np p hp)]; exact h2, h3⟩
  hok := I.hok.laidN (fun _ _ q => q) na ⟨ha, oe, ha⟩
  len := I.len
end
def wKeep (K : PySem.W.Frag) (c : Value) (i : Nat) (ts : Addr → Value → Option Addr → TS) (Wout : WX) (D : Ends) : WX := fun cls d σ H =>
  ∃ b, PySem.W.exmOne K cls c = some b ∧
    (b = true → ∀ (a : Addr) (oe : Obj), H a = none → Zc cls d oe → (∃ vs, oe.data = .fields vs) →
      ts a cls d { nx := fun σ' H' => D.nx (σ'.set i none) (upd H' a (.frz oe (.own a))), rt := fun _ _ => False } (σ.set i (some (.ref a))) H) ∧
    (b = false → Wout cls d σ H)
section
variable {X : Cx} {x n : Str} {c : Value} {i : Nat} {body suite : List Stmt} {b0 : Stmt} {np pos pos' : Pos} {tb : WX → TS} {ts : Addr → Value → Option Addr → TS} {Wout : WX}
theorem ps_try_keep (hs : X.stack = X.env :: X.outer) (hf : X.env.frame = some X.env.locals) (hN : X.N.Nodup) (hi : X.N[i]? = some n) (hl : X.env.kindOf n = some .local) (hc : Names X x c) (tk : Takes X Wout)
    (hb : ∀ (W : WX) (pn : List (Addr × Obj)) (xe : Value → Shared → Prop), Takes (X.tr pn xe) W → PassesOwn (model X.prog X.w) X.A X.env xe → PSs (X.tr pn xe) body (tb W))
    (hsu : ∀ (a : Addr) (oe : Obj) (cls : Value) (d : Option Addr) (pn : List (Addr × Obj)), Zc cls d oe → (∃ vs, oe.data = .fields vs) → PSs (X.suite a ((a, oe) :: pn)) (b0 :: suite) (ts a cls d)) :
    PS X (.Try body [.ExceptHandler (some (.Name x np)) (some n) (b0 :: suite) pos'] [] [] pos) (fun D σ H => tb (wKeep X.K c i ts Wout D) D σ H) := by
  refine ⟨fun pins s σ H D I h => wpAny_Try_except ?_⟩
  have ok := I.ok
  have fr : X.A.frames = some (X.env :: X.outer) := ok.frames.trans (by rw [hs])
  refine wpAny_mono ((hb (wKeep X.K c i ts Wout D) (X.pn ++ pins)
    (fun e t1 => wpAny (model X.prog X.w) X.A (noteFrame e X.env) (fun _ t2 => wpAny (model X.prog X.w) X.A (setFlight e none) (fun _ t3 =>
      wpAny (model X.prog X.w) X.A (handleBy e X.env [.ExceptHandler (some (.Name x np)) (some n) (b0 :: suite) pos']) (SP X pins D) X.xe t3) X.xe t2) X.xe t1)
    (fun u t xx => ?_) PassesOwn.looking).run [] s σ H D (I.toTry _) h) (fun f t1 q => ?_) (fun _ _ z => z)
  · obtain ⟨a, B, sI, pins', σ1, H1, cls, d, rfl, J0, nb, up, sky, na, os, ag, b, hb1, yes, no⟩ := xx
    have J : Inv X pins σ1 H1 sI := J0.ofTry ok
    have sky1 : Sky B (X.env :: X.outer) a (Zc cls d) X.env.locals t.heap := hs ▸ sky
    show wpAny (model X.prog X.w) X.A (noteFrame (.ref a) X.env) _ _ _
    refine Sky.land Zc.steady fr hf sky1 fun g fl ug => ?_
    have J3 : Inv X pins σ1 H1 { t with heap := g } := J.landed nb fl.1 (up.trans ug) os ag
    obtain ⟨o3, vs3, e3, z3, d3⟩ := fl.there
    have away : ∀ {k : Heap} {o : Obj} {vs : Array Value}, k.FunFrames B (X.env :: X.outer) → k.get? a = some o → o.data = .fields vs → a ∉ frs (X.env :: X.outer) := fun ff e dd hm => by
      obtain ⟨_, o', e', hnf⟩ := ff.mem hm
      rw [e] at e'
      cases e'
      exact hnf _ dd
    have nfr := away fl.2.2.1 e3 d3
    have Bn : B.get? a = none := fl.2.1
    have nL : a ≠ X.env.locals := fun z => nfr (List.mem_filterMap.mpr ⟨X.env, List.mem_cons_self, by rw [hf, z]⟩)
    have nF : a ∉ X.fs := fun hm => by
      obtain ⟨e, he, q⟩ := List.mem_filterMap.mp hm
      exact nfr (List.mem_filterMap.mpr ⟨e, List.mem_cons_of_mem _ he, q⟩)
    -- nothing stood at a ahead of the raise
    have sIn : sI.heap.get? a = none := by
      cases q : sI.heap.get? a with
      | none => rfl
      | some o =>
        have := nb a o q (by rw [hs]; exact nfr)
        rw [Bn] at this
        cases this
    have S3 := J3.suite e3 d3 na nL nF
    refine wpAny_handleBy_cons (codeAny_handlers_test ?_) (by intro q; cases q)
    have LT : PySem.W.Looks (model X.prog X.w) g (typeOf (.ref a)) cls := fun A Q E s k q => wpAny_typeOf_ref (k _ _ e3) (by rw [z3.1]; exact q)
    have LM := PySem.W.exm_one (M := model X.prog X.w) (J3.kIn) LT hb1
    have test : ∀ {Q : Value → Shared → Prop} {E : Value → Shared → Prop}, Q c { t with heap := g } → wpAny (model X.prog X.w) (X.A.mark (some (.ref a))) (eval (.Name x np) X.env) Q E { t with heap := g } := fun {Q E} q => by
      obtain ⟨hg, hd, hm | ⟨hm, hv, hnn⟩⟩ := hc
      · exact ld_glob (X := X.suite a ((a, o3) :: (X.pn ++ pins))) S3 hg hm q hd
      · exact ld_blt (X := X.suite a ((a, o3) :: (X.pn ++ pins))) S3 hg hm hv q hnn hd
    refine test (LM.here ?_)
    cases b with
    | true =>
      refine codeAny_handlers_suite_as (HandSPX.lands_againZ fl fun g4 fl4 ug4 => ?_)
      have J4 : Inv X pins σ1 H1 { t with heap := g4 } := J.landed nb fl4.1 ((up.trans ug).trans ug4) os ag
      obtain ⟨o4, vs4, e4, z4, d4⟩ := fl4.there
      have S4 := J4.suite e4 d4 na nL nF
      refine store_ok (X := X.suite a ((a, o4) :: (X.pn ++ pins))) (v := .ref a) S4 hN hi (.inl hl) rfl (fun s5 S5 => ?_) (.inr hl)
      refine wpAny_mono ((hsu a o4 cls d (X.pn ++ pins) z4 ⟨_, d4⟩).run [] s5 _ H1 _ S5 (yes rfl a o4 na z4 ⟨_, d4⟩)) (fun f s6 q => ?_) (fun _ _ z => z.elim)
      cases f with
      | next =>
        obtain ⟨σ6, H6, S6, q6⟩ := q
        obtain ⟨p1, p2, p3, p4, p5⟩ := S6.pin (a, o4) (List.mem_append_left _ List.mem_cons_self)
        have J6 : Inv X pins σ6 H6 s6 := S6.unsuite ok
        have n0 : a ∉ X.ex → X.s_0.heap.get? a = none := fun hx => by
          cases q : X.s_0.heap.get? a with
          | none => rfl
          | some o =>
            obtain ⟨o', q'⟩ := J.base.there a o q hx
            rw [sIn] at q'
            cases q'
        have npin : ∀ p ∈ X.pn ++ pins, p.1 ≠ a := fun p hp e => by
          have := (J.pin p hp).1
          rw [e, sIn] at this
          cases this
        exact gone_ok (inv_adopt J6 p1 p2 p3 p5 n0 npin) hN hi hl fun s7 J7 => ⟨_, _, J7, q6⟩
      | brk =>
        obtain ⟨σ6, H6, S6, q6⟩ := q
        exact q6.elim
      | cont =>
        obtain ⟨σ6, H6, S6, q6⟩ := q
        exact q6.elim
      | ret u =>
        obtain ⟨v6, σ6, H6, S6, r6, q6⟩ := q
        exact q6.elim
    | false =>
      show wpAny _ X.A (handleBy (.ref a) X.env []) _ _ _
      refine wpAny_handleBy_nil ?_
      obtain ⟨k1, k2, k3, oe, vs, T, oT, ts', he, hz, hd, h1, hr⟩ := id fl
      unfold PySem.passOn
      refine wpAny_bind (wpAny_field he hd h1 ?_)
      rw [if_neg (show ¬ ((Value.ref T == Value.none) = true) from by simp)]
      have last : wpAny (model X.prog X.w) X.A (setFlight (.ref a) X.env.frame) (fun _ t4 => wpAny (model X.prog X.w) X.A (throw (.ref a) : Sem Flow) (SP X pins D) X.xe t4) X.xe { t with heap := g } := by
        rw [hf]
        refine HandSPX.setFlight_upZ fl fun g4 hh ug4 => wpAny_throw (tk _ _ ?_)
        exact ⟨a, B, sI, pins, σ1, H1, cls, d, rfl, J, nb, (up.trans ug).trans ug4, .inr (.inr (by rw [hs]; exact hh)), na, os, ag, no rfl⟩
      first
        | exact wpAny_bind (wpAny_pure (wpAny_bind last))
        | exact wpAny_bind last
  · cases f with
    | next =>
      obtain ⟨σ1, H1, J1, q1⟩ := q
      exact wpAny_execs_nil ⟨σ1, H1, J1.ofTry ok, q1⟩
    | brk =>
      obtain ⟨σ1, H1, J1, q1⟩ := q
      exact ⟨σ1, H1, J1.ofTry ok, q1⟩
    | cont =>
      obtain ⟨σ1, H1, J1, q1⟩ := q
      exact ⟨σ1, H1, J1.ofTry ok, q1⟩
    | ret u =>
      obtain ⟨v, σ1, H1, J1, r, q1⟩ := q
      exact ⟨v, σ1, H1, J1.ofTry ok, r, q1⟩
end
end HD
namespace HD
open PySem L2
structure XOk (G : GG) (x : Str) : Prop where
  mg : G.mg x = some (clsV G.K x)
  exc : (He.Fa.exc x).ok G.K = true
def sRaise (x : Str) : DTS := fun Ex _ env => Ex x env
section
variable {G : GG} {N : List Str} {sc : SC} {k : Nat}
theorem ds_raise {x m : Str} {j : Nat} {p p2 pos pos' : Pos} (h : XOk G x) (hg : GlS sc x := by rfl) (hdb : (x == ("__debug__" : Str)) = false := by decide) :
    DS G N sc k (.Raise (some (.Call (.Name x p) [.Constant (.str m) j p2] [] pos)) none pos') (sRaise x) := ⟨fun W => by
  obtain ⟨q1, q2, q3, q4⟩ := He.exc_ok h.exc
  refine ⟨fun _ σ H => W (clsV G.K x) none σ H, fun X S => ?_, fun e Ex hl env F σ H E Dn hh ht ok => hl x env F σ H hh ht⟩
  have a1 : PySem.W.excIn X.K (He.ga G.K x) He.veBase "ValueError.__new__" = true := by rw [S.K]; exact q1
  have a2 : PySem.W.keepIn X.K (.ref (He.ga G.K x)) = true := by rw [S.K]; exact q2
  have a3 : Raises X (.ref (He.ga G.K x)) := raises_own (by rw [S.K]; exact q3) (by rw [S.K]; exact q4)
  have a4 : X.mg x = some (.ref (He.ga G.K x)) := by rw [S.mg]; exact h.mg
  have a5 : Gl X x := S.gl hg
  exact ps_raise S.calm S.tk (pmk_own PySem.F.excBase_ValueError a1 a4 a2 a3 a5 hdb)⟩
structure XCat (G : GG) (x : Str) (cs : List Str) : Prop where
  mg : G.mg x = some (clsV G.K x)
  exm : ∀ c ∈ cs, PySem.W.exmOne G.K (clsV G.K c) (clsV G.K x) = some true
def sTryKeep (cs : List Str) (i j : Nat) (t : DTS) : DTS := fun _ E env => t (fun c env1 => c ∈ cs ∧ i < env1.length ∧ E.nx ((env1.set j (.ext (.exc c))).set i .un)) E env
theorem ds_tryKeep {x n m : Str} {cs : List Str} {body : List Stmt} {t : DTS} {np pm pn ap pos pos' : Pos} (i j : Nat) (hx : XCat G x cs) (hb : DSs G N sc k body t) (htop : sc.top = true := by rfl) (hi : N[i]? = some n := by rfl) (hj : N[j]? = some m := by rfl) (hij : i ≠ j := by decide)
    (hg : GlS sc x := by rfl) (hn : sc.sc.names.lookup n = some .local := by rfl) (hm : sc.sc.names.lookup m = some .local := by rfl) (hdb : (x == ("__debug__" : Str)) = false := by decide)
    (hdn : (n == ("__debug__" : Str)) = false := by decide) (hcn : (n == ("__classdict__" : Str)) = false := by decide) (hs : ∀ env, env.scope = sc.sc → swapsWith (.Name n pn) (some (.Name m pm)) ap.line env = pure false := by intro _ _; rfl) :
    DS G N sc k (.Try body [.ExceptHandler (some (.Name x np)) (some n) [.Assign [.Name m pm] (.Name n pn) ap] pos'] [] [] pos) (sTryKeep cs i j t) := ⟨fun W => by
  have tb : ∀ W' : WX, ∃ ts, (∀ X, Sit G N sc W' k X → PSs X body ts) ∧ ImS G.K W' ts t := hb.ex
  let ts : WX → TS := fun W' => Classical.choose (tb W')
  have p1 : ∀ W' X, Sit G N sc W' k X → PSs X body (ts W') := fun W' => (Classical.choose_spec (tb W')).1
  have i1 : ∀ W', ImS G.K W' (ts W') t := fun W' => (Classical.choose_spec (tb W')).2
  let su : Addr → Value → Option Addr → TS := fun _ _ _ => tAsg (tVar i) (gName j)
  refine ⟨fun D σ H => ts (wKeep G.K (clsV G.K x) i su W D) D σ H, fun X S => ?_, fun e Ex hl env F σ H E Dn hh ht ok => ?_⟩
  · have hk : X.env.kindOf n = some .local := by unfold Env.kindOf; rw [S.scp]; exact hn
    have key := ps_try_keep (X := X) (x := x) (n := n) (c := clsV G.K x) (i := i) (body := body) (suite := []) (b0 := .Assign [.Name m pm] (.Name n pn) ap) (np := np) (pos := pos) (pos' := pos') (tb := ts) (ts := su) (Wout := W)
      (S.stk htop).1 (S.stk htop).2 (by rw [S.nms]; exact S.nd) (by rw [S.nms]; exact hi) hk ⟨S.gl hg, hdb, .inl (by rw [S.mg]; exact hx.mg)⟩ S.tk
      (fun W' pn xe tk own => p1 W' _ ⟨S.prog, S.w, S.K, S.mg, S.base, S.nms, S.nd, S.scp, S.calm, S.room, tk, S.fn, own, S.stk, S.gd⟩)
      (fun a oe cls d pn hz hd => pss_one (ps_set (X := X.suite a ((a, oe) :: pn)) (i := j) (by rw [show (X.suite a ((a, oe) :: pn)).N = N from S.nms]; exact S.nd) (by rw [show (X.suite a ((a, oe) :: pn)).N = N from S.nms]; exact hj) (.inl (by show X.env.kindOf m = _; unfold Env.kindOf; rw [S.scp]; exact hm)) (pe_var (by rw [show (X.suite a ((a, oe) :: pn)).N = N from S.nms]; exact hi) (.inl hk) hdn hcn) (hs _ S.scp) (.inr (by show X.env.scope.names.lookup m = _; rw [S.scp]; exact hm))))
    rw [S.K] at key
    exact key
  · refine i1 _ e _ (fun c env1 F1 σ1 H1 h1 q1 => ?_) env F σ H E Dn hh ht ok
    obtain ⟨hc, hil, q⟩ := q1
    refine ⟨true, hx.exm c hc, fun _ a oe na zc hd => ?_, fun z => by cases z⟩
    have g := Grow.frozen (o := .frz oe (.own a)) h1.fh na
    have h2 := h1.grow g
    have rp : Rep G.K (upd F1 a (.frz oe (.own a))) (.exc c) (.ref a) := ⟨a, oe, rfl, upd_same, zc.1, zc.2, hd⟩
    have h3 := ((h2.pushE rp).assign j trivial).wipe1 i
    have e1 : (((σ1.set i (some (V.ref a))).set j (some (V.ref a))).set i none) = (σ1.set j (some (V.ref a))).set i none := by
      rw [List.set_comm _ _ hij, List.set_set]
    refine ⟨.ref a, ?_, ?_⟩
    · rw [List.getElem?_set_self (by rw [← h1.len]; exact hil)]
    · show Dn.nx (((σ1.set i (some (V.ref a))).set j (some (V.ref a))).set i none) _
      rw [e1]
      exact ok.nx _ _ _ _ h3 q⟩
end
end HD
namespace HD
open PySem L2
abbrev FTab := Str → Option (Nat × DSpec)
def dCallV (FT : FTab) (i : Nat) (ta : DTA) : DT := fun Ex env Q => match env[i]? with
  | some (.ext (.glo nm)) => ∃ n spec, FT nm = some (n, spec) ∧ dCall spec ta Ex env Q
  | _ => False
end HD
namespace HD
open PySem L2
def isxB (K : PySem.W.Frag) (x : Str) : Bool :=
  decide (PySem.W.findIn K (clsV K x) "__getattribute__" = some (some (.builtin "BaseException.__getattribute__"))) && (decide (PySem.W.findIn K (clsV K x) "__getattr__" = some none) && (decide (PySem.W.subIn K (clsV K x) (.type "BaseException") = some true) &&
    (PySem.W.hasDictIn K (He.ga K x) && (decide (PySem.W.findIn K (clsV K x) "__class__" = some (some (.builtin "object.__class__"))) && (decide (PySem.W.specialIn K (.builtin "object.__class__") "__get__" = some (some (.builtin "getset_descriptor.__get__"))) &&
      (decide (PySem.W.takesIn K (.builtin "object.__class__") = some true) && decide (PySem.W.mroIn K (He.ga K x) (.type "object") = some true)))))))
end HD
namespace HD
open PySem PyProof.Rows L2
def dMeth (T : D → Bool) (f : D → D → (Sl → Prop) → Prop) (to ta : DT) : DT := fun Ex env Q => to Ex env fun x env1 => wd env1 x (fun d => T d = true) ∧ ta Ex env1 fun y env2 => wd env2 x fun d => wd env2 y fun d' => f d d' fun sl => Q sl env2
def fCount (d d' : D) (Q : Sl → Prop) : Prop := match d with
  | .lst ds => d'.flat = true ∧ ds.all D.flat = true ∧ Q (.ext (.int ((ds.countP fun z => eqV z.toV d'.toV : Nat) : Int)))
  | _ => False
def fSplit (d d' : D) (Q : Sl → Prop) : Prop := match d, d' with
  | .str a, .str b => (b.length == 0) = false ∧ a.length + 2 ≤ sizeLine ∧ ∀ p, Q (.lst p ((Txt.split a b).map D.str))
  | _, _ => False
def hookE (n : Nat) (fa : List He.Fa) (fn : List He.DefD) (ex : PySem.W.Frag → Bool) : PySem.W.Hook where
  α := He.AlD × Bool
  obs := fun s => (He.obsDG n fa fn s.heap.get?, ex (He.frG s.heap.get? (He.asD s.heap.get? n)))
  val := fun _ => (He.valD fn, true)
  says := fun _ h => ∃ K : PySem.W.Frag, K.In h ∧ He.SaysD fa fn K ∧ ex K = true
  of := fun _ _ e => ⟨_, He.frG_in, congrArg (fun z : He.AlD × Bool => z.1) e, congrArg (fun z : He.AlD × Bool => z.2) e⟩
  keeps := fun _ _ _ ⟨K, hK, c⟩ k => ⟨K, PySem.W.Frag.In.keeps hK k, c⟩
def obsE (n : Nat) (fa : List He.Fa) (fn : List He.DefD) (ex : PySem.W.Frag → Bool) (g : Addr → Option Obj) : He.AlD × Bool := (He.obsDG n fa fn g, ex (He.frG g (He.asD g n)))
theorem obsE_eq {n : Nat} {fa : List He.Fa} {fn : List He.DefD} {ex : PySem.W.Frag → Bool} {g : Addr → Option Obj} {s : Shared} (h : ∀ a, g a = s.heap.get? a) : obsE n fa fn ex g = (hookE n fa fn ex).obs s := by
  have e : g = s.heap.get? := funext h
  rw [e] <;> rfl
end HD
namespace HD
open PySem PySem.W L2 PySem.Calls PyProof.Rows HandSHeadRun
theorem obsE_app {n : Nat} {fa1 fa2 : List He.Fa} {fn1 fn2 : List He.DefD} {ex : PySem.W.Frag → Bool} {g : Addr → Option Obj} (h1 : obsE n fa1 fn1 (fun _ => true) g = (He.valD fn1, true)) (h2 : obsE n fa2 fn2 ex g = (He.valD fn2, true)) : obsE n (fa1 ++ fa2) (fn1 ++ fn2) ex g = (He.valD (fn1 ++ fn2), true) := by
  have a1 : He.obsDG n fa1 fn1 g = He.valD fn1 := congrArg (fun z : He.AlD × Bool => z.1) h1
  have a2 : He.obsDG n fa2 fn2 g = He.valD fn2 := congrArg (fun z : He.AlD × Bool => z.1) h2
  have a3 : ex (He.frG g (He.asD g n)) = true := congrArg (fun z : He.AlD × Bool => z.2) h2
  unfold He.obsDG He.obsD He.valD at a1 a2
  unfold obsE He.obsDG He.obsD He.valD
  rw [a3]
  generalize He.frG g (He.asD g n) = K at a1 a2
  have b1 := congrArg (fun z : He.AlD => z.1) a1
  have b2 := congrArg (fun z : He.AlD => z.1) a2
  have c1 := congrArg (fun z : He.AlD => z.2) a1
  have c2 := congrArg (fun z : He.AlD => z.2) a2
  dsimp only at b1 b2 c1 c2
  rw [Bool.and_eq_true] at b1 b2
  rw [List.all_append, List.all_append, List.map_append, List.map_append, b1.1, b1.2, b2.1, b2.2, c1, c2]
  rfl
theorem run_parts {r : OpenRow} {q : Program} {n M : Nat} {fa1 fa2 : List He.Fa} {fn1 fn2 : List He.DefD} {ex : PySem.W.Frag → Bool} {loose : List PySem.Str} {w : World}
    (h0 : ∀ os : OsState, (endF (stepQ (denQ tabQ) r.prog w) M r.prog w os).map (fun s => (looksF r.prog (boot_heap w.params) s.abs, seenQ q loose (importedModules r.prog.main.body) (fun s => xlAt q [] s && recOk r.toRowW.records s) s.abs)) = some (true, openGood q loose))
    (h1 : ∀ os : OsState, (endF (stepQ (denQ tabQ) r.prog w) M r.prog w os).map (fun s => obsE n fa1 fn1 (fun _ => true) (getT s)) = some (He.valD fn1, true))
    (h2 : ∀ os : OsState, (endF (stepQ (denQ tabQ) r.prog w) M r.prog w os).map (fun s => obsE n fa2 fn2 ex (getT s)) = some (He.valD fn2, true)) :
    RunEq r q (hookE n (fa1 ++ fa2) (fn1 ++ fn2) ex) (fun s => obsE n (fa1 ++ fa2) (fn1 ++ fn2) ex (getT s)) M loose w := by
  intro os
  have h0 := h0 os
  have h1 := h1 os
  have h2 := h2 os
  generalize endF (stepQ (denQ tabQ) r.prog w) M r.prog w os = X at h0 h1 h2 ⊢
  cases X with
  | none => cases h0
  | some s =>
    have h0 := Option.some.inj h0
    have h1 := Option.some.inj h1
    have h2 := Option.some.inj h2
    have e := obsE_app h1 h2
    have e1 := congrArg (fun z => z.1) h0
    have e2 := congrArg (fun z => z.2) h0
    dsimp only at e1 e2
    show some _ = some _
    dsimp only
    rw [e1, e2, e]
    rfl
end HD
namespace HD
open PySem L2
section
variable {g : DTG} {tt : DTT} {te : DT} {vs : List Nat} {keep : Env' → Prop} {Q : Sl → Env' → Prop} {env : Env'} {α : Type}
theorem fm_if {α β : Type} (f : α → β) (p : α → Bool) (xs : List α) : xs.filterMap (fun x => if p x = true then some (f x) else none) = (xs.filter p).map f := by
  induction xs with
  | nil => rfl
  | cons y xs ih =>
    by_cases hy : p y = true
    · rw [List.filterMap_cons_some (b := f y) (by rw [if_pos hy]), List.filter_cons_of_pos hy, List.map_cons, ih]
    · rw [List.filterMap_cons_none (by rw [if_neg hy]), List.filter_cons_of_neg hy, ih]
theorem lc_fm (i : α → D) (f : α → Option D) (hk : keep env) (xs : List α) : ∀ acc : List D, acc.length + xs.length ≤ sizeLine →
    (∀ x ∈ xs, ∀ R : Option D → Env' → Prop, R (f x) env → g (i x) env fun env1 => tt noX env1 fun b env2 => if b = true then te noX env2 fun y env3 => frzD env3 y fun d' env4 => R (some d') (wipeE env4 vs) else R none (wipeE env2 vs)) →
    (∀ a, Q (.lst a (acc ++ xs.filterMap f)) env) → lcD g tt te vs keep Q (xs.map i) acc env := by
  induction xs with
  | nil => intro acc _ _ hQ; exact ⟨hk, fun a => by simpa using hQ a⟩
  | cons x xs ih =>
    intro acc hl h hQ
    rw [List.length_cons] at hl
    rw [List.map_cons, lcD]
    refine ⟨hk, by omega, h x List.mem_cons_self (fun o env' => match o with
      | some d' => lcD g tt te vs keep Q (xs.map i) (acc ++ [d']) env'
      | none => lcD g tt te vs keep Q (xs.map i) acc env') ?_⟩
    cases e : f x with
    | none =>
      refine ih acc (by omega) (fun y hy => h y (List.mem_cons_of_mem _ hy)) fun a => ?_
      have := hQ a
      rw [List.filterMap_cons_none e] at this
      exact this
    | some d =>
      refine ih (acc ++ [d]) (by rw [List.length_append, List.length_singleton]; omega) (fun y hy => h y (List.mem_cons_of_mem _ hy)) fun a => ?_
      have := hQ a
      rw [List.filterMap_cons_some e] at this
      rw [List.append_assoc]
      exact this
theorem lc_map (i f : α → D) (hk : keep env) (xs : List α) (hl : xs.length ≤ sizeLine)
    (h : ∀ x ∈ xs, ∀ R : D → Env' → Prop, R (f x) env → g (i x) env fun env1 => te noX env1 fun y env3 => frzD env3 y fun d' env4 => R d' (wipeE env4 vs))
    (hQ : ∀ a, Q (.lst a (xs.map f)) env) : lcD g dYes te vs keep Q (xs.map i) [] env := by
  refine lc_fm i (fun x => some (f x)) hk xs [] (by simpa using hl) (fun x hx R hR => ?_) (fun a => by simpa [List.filterMap_eq_map] using hQ a)
  have := h x hx (fun d e => R (some d) e) hR
  simp only [dYes, if_true]
  exact this
theorem lc_filter (i f : α → D) (p : α → Bool) (hk : keep env) (xs : List α) (hl : xs.length ≤ sizeLine)
    (h : ∀ x ∈ xs, ∀ R : Option D → Env' → Prop, R (if p x = true then some (f x) else none) env → g (i x) env fun env1 => tt noX env1 fun b env2 => if b = true then te noX env2 fun y env3 => frzD env3 y fun d' env4 => R (some d') (wipeE env4 vs) else R none (wipeE env2 vs))
    (hQ : ∀ a, Q (.lst a ((xs.filter p).map f)) env) : lcD g tt te vs keep Q (xs.map i) [] env := by
  refine lc_fm i (fun x => if p x = true then some (f x) else none) hk xs [] (by simpa using hl) h (fun a => ?_)
  have e := fm_if f p xs
  rw [List.nil_append, e]
  exact hQ a
theorem lc_ind (i : α → D) (P : List α → List D → Env' → Prop) (hnil : ∀ acc env, P [] acc env → keep env ∧ ∀ a, Q (.lst a acc) env)
    (hcons : ∀ x xs acc env (N : List D → Env' → Prop), P (x :: xs) acc env → (∀ acc' env', P xs acc' env' → N acc' env') → keep env ∧ acc.length < sizeLine ∧ g (i x) env fun env1 => tt noX env1 fun b env2 => if b = true then te noX env2 fun y env3 => frzD env3 y fun d' env4 => N (acc ++ [d']) (wipeE env4 vs) else N acc (wipeE env2 vs)) :
    ∀ (xs : List α) (acc : List D) (env : Env'), P xs acc env → lcD g tt te vs keep Q (xs.map i) acc env := by
  intro xs
  induction xs with
  | nil => intro acc env h; exact hnil acc env h
  | cons x xs ih =>
    intro acc env h
    rw [List.map_cons, lcD]
    exact hcons x xs acc env (fun acc' env' => lcD g tt te vs keep Q (xs.map i) acc' env') h fun acc' env' h' => ih acc' env' h'
end
section
variable {g : DTG} {body : DTS} {keep : Env' → Prop} {Ex : DX} {E : DEnds} {α : Type}
theorem for_ind (i : α → D) (P : List α → Env' → Prop) (hnil : ∀ env, P [] env → keep env ∧ E.nx env)
    (hcons : ∀ x xs env (N : Env' → Prop), P (x :: xs) env → (∀ env', P xs env' → N env') → keep env ∧ g (i x) env fun env1 => body Ex { E with nx := N, ct := N, bk := E.nx } env1) :
    ∀ (xs : List α) (env : Env'), P xs env → forD g body keep Ex E (xs.map i) env := by
  intro xs
  induction xs with
  | nil => intro env h; exact hnil env h
  | cons x xs ih =>
    intro env h
    rw [List.map_cons, forD]
    exact hcons x xs env _ h fun env' h' => ih env' h'
end
theorem for_indD {g : DTG} {body : DTS} {keep : Env' → Prop} {Ex : DX} {E : DEnds} (P : List D → Env' → Prop) (hnil : ∀ env, P [] env → keep env ∧ E.nx env)
    (hcons : ∀ x xs env (N : Env' → Prop), P (x :: xs) env → (∀ env', P xs env' → N env') → keep env ∧ g x env fun env1 => body Ex { E with nx := N, ct := N, bk := E.nx } env1)
    (xs : List D) (env : Env') (h : P xs env) : forD g body keep Ex E xs env := by
  have := for_ind (fun d : D => d) P hnil hcons xs env h
  rwa [List.map_id'] at this
theorem dCallV_w (FT : FTab) (i : Nat) (ta : DTA) (Ex : DX) (env : Env') (Q : Sl → Env' → Prop) : dCallV FT i ta Ex env Q = AtS env[i]? (fun d => match d with | .glo nm => ∃ n spec, FT nm = some (n, spec) ∧ dCall spec ta Ex env Q | _ => False) (fun _ _ => False) .mk .mk := by
  unfold dCallV AtS
  rcases env[i]? with _ | (_ | d | _ | _ | _) <;> try rfl
  cases d <;> rfl
end HD
namespace HD
open PySem PySem.Spec PyProof.Rows L2
section
variable {G : GG} {N : List Str} {sc : SC} {k : Nat} {a : Expr} {ta : DT} {p p2 pos pos2 : Pos}
def dSortSetL (t : DT) : DT := fun Ex env Q => t Ex env fun x env1 => wd env1 x fun d => match d with
  | .lst ds => ∃ ns : List Int, ds = ns.map D.int ∧ ns.length < 64 ∧ ∀ (ns' : List Int) (b : Addr), ns'.Pairwise (· < ·) → (∀ n : Int, n ∈ ns' ↔ n ∈ ns) → Q (.lst b (ns'.map D.int)) env1
  | _ => False
theorem de_gint {x : Str} {i : Int} {pos : Pos} (h : ∃ t, G.mg x = some (.int i t)) (hg : GlS sc x := by rfl) (hd : (x == ("__debug__" : Str)) = false := by decide) : DE G N sc k (.Name x pos) (dC (.int i)) := by
  obtain ⟨t, h⟩ := h
  exact de_glob (v := .int i) hg h ⟨t, rfl⟩ (fun _ => rfl) hd
end
def FzS (o : Option Sl) (k : List D → Prop) (z : Prop) (_ : Tok k) (_ : Tok z) : Prop := match o with
  | some (.lst _ ds) => k ds
  | _ => z
theorem FzS_lst (a : Addr) (ds : List D) (k : List D → Prop) (z : Prop) (t : Tok k) (u : Tok z) : FzS (some (.lst a ds)) k z t u = k ds := rfl
theorem FzS_ext (d : D) (k : List D → Prop) (z : Prop) (t : Tok k) (u : Tok z) : FzS (some (.ext d)) k z t u = z := rfl
theorem sFz_w (i : Nat) (t : DTS) (Ex : DX) (E : DEnds) (env : Env') : sFz i t Ex E env = FzS env[i]? (fun ds => t Ex E (env.set i (.ext (.lst ds)))) (t Ex E env) .mk .mk := by
  unfold sFz FzS
  rcases env[i]? with _ | (_ | _ | _ | _ | _) <;> rfl
def fAbs : List D → (Sl → Prop) → Prop
  | [.int i], Q => Q (.ext (.int (if i < 0 then -i else i)))
  | _, _ => False
def fInt : List D → (Sl → Prop) → Prop
  | [.int i], Q => Q (.ext (.int i))
  | [.bl b], Q => Q (.ext (.int (if b then 1 else 0)))
  | _, _ => False
theorem t_int : TR "int" fInt := ⟨fun _ _ _ => fun xs H Q => (∃ i, xs = [.int i] ∧ Q (.int i) H) ∨ ∃ k, xs = [.bl k] ∧ Q (.int (if k then 1 else 0)) H, fun _ _ K F H vs ds Q R fh hr hf ha => by
    unfold fInt at hf
    split at hf
    · obtain ⟨v, rfl, r⟩ := hr.one
      exact .inl ⟨_, by rw [r.int], ha.int fh hf⟩
    · obtain ⟨v, rfl, r⟩ := hr.one
      exact .inr ⟨_, by rw [r.bl], ha.int fh hf⟩
    · exact hf.elim, fun X _ _ => call_int1⟩
end HD
namespace HD
open PySem PyProof.Rows L2
def rRepr (K : PySem.W.Frag) : List V → Hp → VK → Prop := fun xs H Q => ∃ (v : V) (d : PyData), xs = [v] ∧ Dp K H v d ∧ d.showable = true ∧ d.hasDict = false ∧ d.depth ≤ 60 ∧ d.shown.length ≤ sizeLine ∧ Q (.str d.shown) H
theorem call_repr {X : Cx} (gd : X.A.guards = some []) (hu : X.A.units + 64 < cLine) : CallR X (.builtin "repr") (rRepr X.K) := by
  intro pins s σ H xs us Q I r h
  obtain ⟨v, d, rfl, hd, hs, hn, hdp, hz, q⟩ := h
  obtain ⟨u, rfl, ru⟩ := vals1 r
  cases hd with
  | non =>
    cases (show u = Value.none from ru)
    exact PySem.P.repr_of_none ⟨.str _, H, I.tok _, ⟨_, rfl⟩, q⟩
  | bl b =>
    cases (show u = Value.bool b from ru)
    exact PySem.P.repr_of_bool ⟨.str _, H, I.tok _, ⟨_, rfl⟩, q⟩
  | int i =>
    obtain ⟨t, rfl⟩ := ru
    exact PySem.P.repr_of_int (by simpa [PyData.showable] using hs) ⟨.str _, H, I.tok _, ⟨_, rfl⟩, q⟩
  | str x =>
    obtain ⟨t, rfl⟩ := ru
    exact PySem.P.repr_of_str ⟨.str _, H, I.tok _, ⟨_, rfl⟩, q⟩ (by simpa only [PyData.shown] using hz)
  | lst h1 h2 =>
    obtain ⟨as, rd⟩ := Dp.reads I _ _ _ (.lst h1 h2) ru
    cases ru
    exact repr_of_reads' rd hs (PyData.noDict_hsm hn) gd (by omega) (fun b o e => e) (fun g u tk hk => ⟨.str _, H, I.kept (t' := tk) hk, ⟨_, rfl⟩, q⟩) hz
  | tup h1 h2 =>
    obtain ⟨as, rd⟩ := Dp.reads I _ _ _ (.tup h1 h2) ru
    cases ru
    exact repr_of_reads' rd hs (PyData.noDict_hsm hn) gd (by omega) (fun b o e => e) (fun g u tk hk => ⟨.str _, H, I.kept (t' := tk) hk, ⟨_, rfl⟩, q⟩) hz
structure D.sh (d : D) : Prop where
  nv : d.noVal = true
  ok : d.py.showable = true
  nd : d.py.hasDict = false
  dp : d.py.depth ≤ 60
  len : d.py.shown.length ≤ sizeLine
def fRepr : List D → (Sl → Prop) → Prop
  | [d], Q => d.sh ∧ Q (.ext (.str d.py.shown))
  | _, _ => False
theorem pr_repr (K : PySem.W.Frag) : Pr K (rRepr K) fRepr := fun F H vs ds Q R fh h hf ha => by
  rcases ds with _ | ⟨d, _ | ⟨d2, ds⟩⟩ <;> try exact hf.elim
  obtain ⟨v, rfl, r⟩ := h.one
  obtain ⟨hs, q⟩ := hf
  exact ⟨v, d.py, rfl, Rep.dp hs.nv (r.rep fh), hs.ok, hs.nd, hs.dp, hs.len, ha.str fh q⟩
section
variable {G : GG} {N : List Str} {sc : SC} {k : Nat} {e : Expr} {es : List Expr} {t : DTA} {p pos : Pos}
theorem de_repr (hm : G.mg "repr" = none) (ha : DAs G N sc k (e :: es) t) (hg : GlS sc "repr" := by rfl)
    (he : NoStar e es := by intro _; rfl) (hpl : ∀ env, (backTo pos (starEach es env)).any (·.1) = false := by intro _; rfl) : DE G N sc k (.Call (.Name "repr" p) (e :: es) [] pos) (dCB fRepr t) := ⟨fun W => by
  obtain ⟨ta, p1, i1⟩ := ha.ex W
  refine ⟨tCB (rRepr G.K) ta, fun X S => ?_, im_cb (pr_repr G.K) i1⟩
  have c : CallR X (.builtin "repr") (rRepr X.K) := call_repr S.gd S.units
  rw [S.K] at c
  exact pe_callB c (S.gl hg) (by rw [S.mg]; exact hm) (by decide +kernel) (p1 X S) (by decide) (by decide) (he _) (hpl _)⟩
end
def fLtT : D → D → (Sl → Prop) → Prop
  | .tup xs, .tup ys, Q => ∃ ns ms : List Int, xs = ns.map D.int ∧ ys = ms.map D.int ∧ Q (.ext (.bl (HT.lexLt ns ms)))
  | _, _, _ => False
def D.sv : Nat → D → Bool
  | _, .non => true
  | _, .bl _ => true
  | _, .int i => decide (i.natAbs.log2 < 1920)
  | _, .str x => x.cps.toList.all fun c => decide (c < 16 ^ 8)
  | k + 1, .lst ds => ds.all (D.sv k)
  | k + 1, .tup ds => ds.all (D.sv k)
  | _, _ => false
theorem bulks_app (a b : List D) : PyData.bulkAll (D.pys (a ++ b)) = PyData.bulkAll (D.pys a) + PyData.bulkAll (D.pys b) := by
  induction a with
  | nil => simp [D.pys, PyData.bulkAll]
  | cons d a ih => simp only [List.cons_append, D.pys, PyData.bulkAll, ih]; omega
theorem bulks_nD (l : List Nat) : PyData.bulkAll (D.pys (nD l)) = l.length := by
  induction l with
  | nil => rfl
  | cons x l ih => rw [nD_cons, D.pys, PyData.bulkAll, ih, List.length_cons]; simp [D.py, PyData.bulk]; omega
theorem bulks_iD (l : List Int) : PyData.bulkAll (D.pys (iD l)) = l.length := by
  induction l with
  | nil => rfl
  | cons x l ih => rw [iD_cons, D.pys, PyData.bulkAll, ih, List.length_cons]; simp [D.py, PyData.bulk]; omega
end HD
namespace HD
open PySem PyProof.Rows L2
section
variable {prog : Program} {w : World} {A : Around} {E : Value → Shared → Prop} {s : Shared}
theorem rev_adjust (n : Nat) : Builtin.Slice.sliceAdjust none none (-1) (n : Int) = ((n : Int) - 1, -1) := by
  simp [Builtin.Slice.sliceAdjust]
theorem rev_places (n : Nat) : Builtin.Slice.slicePlaces ((n : Int) - 1) (-1) (-1) = n := by
  unfold Builtin.Slice.slicePlaces
  rw [if_neg (by decide)]
  by_cases h : n = 0
  · subst h; rfl
  · rw [if_pos (by omega), show (-(-1) : Int) = 1 by decide, Int.ediv_one]
    omega
theorem sliceApplied_rev {sl : Addr} {vs : Value} {n : Nat} {Q : Int × Int × Nat → Shared → Prop} (hs : s.heap.IsSliceOf sl .none .none vs) (pk : IsPart vs (some (-1)))
    (h : Q ((n : Int) - 1, -1, n) s) : wpAny (model prog w) A (Builtin.Slice.sliceApplied (.ref sl) (pure (n : Int))) Q E s := by
  obtain ⟨os, hos, hcs, hds⟩ := id hs
  unfold Builtin.Slice.sliceApplied Builtin.Slice.sliceFields
  refine wpAny_bind (wpAny_bind (wpAny_field hos hds (x := .none) rfl (wpAny_bind (wpAny_field hos hds (x := .none) rfl (wpAny_bind (wpAny_field hos hds (x := vs) rfl (wpAny_pure ?_)))))))
  refine wpAny_bind (HT.slicePart_ pk ?_)
  show wpAny _ _ (if ((-1 : Int) == 0) = true then _ else _) _ _ s
  rw [if_neg (by decide)]
  refine wpAny_bind (HT.slicePart_ .none (wpAny_bind (HT.slicePart_ .none (wpAny_bind (wpAny_pure ?_)))))
  show wpAny _ _ (match Builtin.Slice.sliceAdjust none none (-1) (n : Int) with | (lo, hi) => pure (lo, (-1 : Int), Builtin.Slice.slicePlaces lo hi (-1))) _ _ s
  rw [rev_adjust]
  show wpAny _ _ (pure ((n : Int) - 1, (-1 : Int), Builtin.Slice.slicePlaces ((n : Int) - 1) (-1) (-1))) _ _ s
  rw [rev_places]
  exact wpAny_pure h
theorem pick_rev (xs : Array Value) : ((List.range xs.size).filterMap fun (m : Nat) => xs[((xs.size : Int) - 1 + (m : Int) * (-1)).toNat]?).toArray = xs.toList.reverse.toArray := by
  have e : (fun (m : Nat) => xs[((xs.size : Int) - 1 + (m : Int) * (-1)).toNat]?) = (fun m => xs[m]?) ∘ fun m => xs.size - 1 - m := by
    funext m
    have : ((xs.size : Int) - 1 + (m : Int) * (-1)).toNat = xs.size - 1 - m := by omega
    simp only [this, Function.comp]
  rw [e, ← List.filterMap_map, PySem.W.krv_range, List.filterMap_reverse, PySem.W.krv_all]
theorem getItem_tuple_rev {t sl : Addr} {items : Array Value} {vs : Value} {Q : Value → Shared → Prop} (ht : IsTup s.heap t items) (hs : s.heap.IsSliceOf sl .none .none vs) (pk : IsPart vs (some (-1)))
    (h : Q (.ref s.heap.objs.size) { s with heap := s.heap.push { cls := .type "tuple", data := .seq items.toList.reverse.toArray } })
    (hsz : items.size ≤ sizeLine) : wpAny (model prog w) A (getItem (.ref t) (.ref sl)) Q E s := by
  have htake : sizeOk (.seq items.toList.reverse.toArray) := by
    show items.toList.reverse.toArray.size ≤ sizeLine
    rw [List.size_toArray, List.length_reverse, Array.length_toList]
    omega
  obtain ⟨os, hos, hcs, hds⟩ := id hs
  have hTs : s.TypeIs (.ref sl) "slice" := ⟨os, hos, hcs⟩
  unfold getItem
  try with_reducible refine wpAny_holding ?_
  first | refine wpAny_bind (wpAny_pure ?_) | skip
  refine wpAny_bind (wpAny_sequenceKey ht.typeIs (by decide) ?_)
  refine wpAny_bind (wpAny_callSpecial?_slot (name := Str.ofString "__getitem__") ht.typeIs PyProof.Rows.slot_tuple_getitem
    (wpAny_call_entry PyProof.Rows.slot_tuple_getitem ht.typeIs entry_tuple_getitem ?_ (args_tuple_getitem _ _)))
  show wpAny _ _ (Builtin.Tuple.tupleItemsOf (.ref t) >>= _) _ _ s
  refine wpAny_bind (tupleItemsOf_ ht ?_)
  refine wpAny_bind (wpAny_typeOf hTs ?_)
  rw [if_pos (by decide)]
  refine wpAny_bind (sliceApplied_rev hs pk ?_)
  have hno : ¬ (((((items.size : Nat) : Int) - 1) == 0 && (-1 : Int) == 1 && items.size == items.size) = true) := by
    rw [show ((-1 : Int) == 1) = false from rfl, Bool.and_false, Bool.false_and]
    exact Bool.false_ne_true
  show wpAny _ _ (if (((((items.size : Nat) : Int) - 1) == 0 && (-1 : Int) == 1 && items.size == items.size) = true) then _ else _) _ _ s
  rw [if_neg hno, pick_rev]
  first
    | exact wpAny_bind (m := Builtin.Tuple.tupleExact _) (wpAny_newObj_type (wpAny_pure ⟨_, rfl, wpAny_pure h⟩) htake)
    | exact wpAny_bind (m := Builtin.Tuple.tupleExact _) (wpAny_newObj_type (wpAny_bind (wpAny_pure (wpAny_pure ⟨_, rfl, wpAny_pure h⟩))) htake)
    | exact wpAny_bind (wpAny_bind (m := Builtin.Tuple.tupleExact _) (wpAny_newObj_type (wpAny_pure (wpAny_pure ⟨_, rfl, wpAny_pure h⟩)) htake))
    | exact wpAny_bind (wpAny_bind (m := Builtin.Tuple.tupleExact _) (wpAny_newObj_type (wpAny_pure ⟨_, rfl, wpAny_pure h⟩) htake))
end
def stepL {α : Type} (xs : List α) (c : Int) : List α := (sliceRange (sliceBounds none none (some c) xs.length).1 (sliceBounds none none (some c) xs.length).2.1 (sliceBounds none none (some c) xs.length).2.2).filterMap (xs[·]?)
theorem vals_pick {xs : List V} {us : List Value} (r : Vals xs us) (ix : List Nat) : Vals (ix.filterMap (xs[·]?)) (ix.filterMap (us[·]?)) := by
  induction ix with
  | nil => exact .nil
  | cons i ix ih =>
    cases e : xs[i]? with
    | none =>
      have e2 : us[i]? = none := by
        rw [List.getElem?_eq_none_iff] at e ⊢
        rw [← r.length]; exact e
      rw [List.filterMap_cons_none e, List.filterMap_cons_none e2]
      exact ih
    | some x =>
      obtain ⟨u, e2, ru⟩ := r.get e
      rw [List.filterMap_cons_some e, List.filterMap_cons_some e2]
      exact .cons ru ih
theorem stepL_vals {xs : List V} {us : List Value} (r : Vals xs us) (c : Int) : Vals (stepL xs c) (slicePick us.toArray none none (some c)).toList := by
  unfold stepL slicePick
  rw [List.size_toArray, ← r.length]
  simp only [List.getElem?_toArray]
  exact vals_pick r _
theorem stepL_rev {α : Type} (xs : List α) : stepL xs (-1) = xs.reverse := by
  unfold stepL
  rw [PySem.W.krv_bounds]
  show (sliceRange ((xs.length : Int) - 1) (-1) (-1)).filterMap (xs[·]?) = _
  rw [PySem.W.krv_sliceRange, PySem.W.krv_range, List.filterMap_reverse]
  have := PySem.W.krv_all xs.toArray
  simp only [List.size_toArray, List.getElem?_toArray] at this
  rw [this]
theorem stepL_len {α : Type} (xs : List α) (c : Int) (h0 : c ≠ 0) : (stepL xs c).length ≤ xs.length := by
  unfold stepL
  refine Nat.le_trans (List.length_filterMap_le _ _) ?_
  refine sliceRange_length_le _ _ _ _ (fun h => ?_) fun h => ?_
  · simp [sliceBounds] at h ⊢
    simp [h]
  · simp [sliceBounds] at h ⊢
    simp [show ¬ (0 < c) by omega]
section
variable {X : Cx} {e es : Expr} {te ts : TE} {p3 pos : Pos}
def tStep (K : PySem.W.Frag) (te : TE) (tp : TO) : TE := fun σ H Q => te σ H fun x H1 => tp σ H1 fun o H2 => ∃ (c : Int) (a : Addr) (xs : List V), o = some c ∧ x = .ref a ∧ c ≠ 0 ∧ ((SqL K H2 a xs ∧ ∀ p, H2 p = none → Q (.ref p) (upd H2 p (.lst (stepL xs c)))) ∨ (c = -1 ∧ SqT K H2 a xs ∧ newT H2 xs.reverse Q))
theorem pe_step {st : Expr} {tp : TO} (he : PE X e te) (hst : PO X (some st) tp) : PE X (.Subscript e (.Slice none none (some st) p3) pos) (tStep X.K te tp) := by
  refine ⟨fun pins s σ H Q I h => ?_⟩
  refine Subscript_ (thn (he.run pins s σ H _ I h) fun v s1 ⟨x, H1, I1, r1, q1⟩ => ?_)
  refine wpAny_Slice (thn (po_none.run pins s1 σ H1 (fun o H2 => o = none ∧ H2 = H1) I1 ⟨rfl, rfl⟩) fun vl s2 ⟨l, H2, I2, pl, el, e2⟩ => ?_)
  subst el e2
  refine thn (po_none.run pins s2 σ H2 (fun o H3 => o = none ∧ H3 = H2) I2 ⟨rfl, rfl⟩) fun vu s3 ⟨u, H3, I3, pu, eu, e3⟩ => ?_
  subst eu e3
  refine thn (hst.run pins s3 σ H3 _ I3 q1) fun vs s4 ⟨o, H4, I4, ps, c, a, xs, eo, ex, hc, q⟩ => ?_
  subst eo ex
  cases r1
  cases pl
  cases pu
  have I5 : Inv X pins σ H4 { s4 with heap := s4.heap.push { cls := .type "slice", data := .fields #[.none, .none, vs] } } := I4.kept (t' := s4.toks) fun b ob q => Heap.get?_push_of_some _ q
  show wpAny (model X.prog X.w) X.A (subscriptTail e (.Slice none none (some st) p3) (.ref a) (.ref s4.heap.objs.size)) (EP X pins σ Q) X.xe { s4 with heap := s4.heap.push { cls := .type "slice", data := .fields #[.none, .none, vs] } }
  rcases q with ⟨hx, q⟩ | ⟨rfl, hx, q⟩
  · obtain ⟨its, r, ht, hz⟩ := I5.list hx
    have hlen := r.length
    refine tail_any (ops := [.ref a, .ref s4.heap.objs.size]) ht.isList.typeIs (PySem.slot_list_getitem.lookup) ?_ (by with_unfolding_all rfl)
    refine wpAny_getItem_list_slice ht.isList (Heap.IsSliceOf.new _ .none .none vs) .none .none ps (fun z => hc (Option.some.inj z)) ?_ (by rw [List.size_toArray]; omega)
    refine ⟨.ref _, _, I5.laid (t' := s4.toks) (o := .lst (stepL xs c)) (fun b ob q => Heap.get?_push_of_some _ q) (Nat.le_refl _) ?_, rfl, q _ (I5.hok.fresh (Nat.le_refl _))⟩
    refine ⟨Nat.le_trans (stepL_len xs c hc) hz, _, 0, stepL_vals r c, ?_⟩
    rw [Array.toArray_toList]
    exact Heap.get?_push_size _ rfl
  · obtain ⟨its, r, ht, hz⟩ := I5.tuple hx
    have hlen := r.length
    refine tail_any (ops := [.ref a, .ref s4.heap.objs.size]) ht.typeIs (PyProof.Rows.slot_tuple_getitem.lookup) ?_ (by with_unfolding_all rfl)
    refine getItem_tuple_rev ht (Heap.IsSliceOf.new _ .none .none vs) ps ?_ (by rw [List.size_toArray]; omega)
    exact laidT (tk := s4.toks) I5 r.reverse (by rw [List.length_reverse]; exact hz) q
end
theorem Reps.rev {K : PySem.W.Frag} {F : Hp} {ds : List D} {vs : List V} (h : Reps K F ds vs) (c : Int) : Reps K F (stepL ds c) (stepL vs c) := by
  unfold stepL
  rw [h.length]
  generalize sliceRange _ _ _ = ix
  induction ix with
  | nil => exact rfl
  | cons i ix ih =>
    cases e : ds[i]? with
    | none =>
      have e2 : vs[i]? = none := by
        rw [List.getElem?_eq_none_iff] at e ⊢
        rw [← h.length]; exact e
      rw [List.filterMap_cons_none e, List.filterMap_cons_none e2]
      exact ih
    | some x =>
      obtain ⟨u, e2, ru⟩ := h.get e
      rw [List.filterMap_cons_some e, List.filterMap_cons_some e2]
      exact ⟨_, _, rfl, ru, ih⟩
def fStep (d : D) (o : Option Int) (Q : Sl → Prop) : Prop := match d, o with
  | .lst ds, some c => c ≠ 0 ∧ ∀ a, Q (.lst a (stepL ds c))
  | .fz ds, some c => c ≠ 0 ∧ ∀ a, Q (.lst a (stepL ds c))
  | .tup ds, some c => c = -1 ∧ Q (.ext (.tup ds.reverse))
  | _, _ => False
def dStep (ta : DT) (tp : DTO) : DT := fun Ex env Q => ta Ex env fun x env1 => tp Ex env1 fun o env2 => wd env2 x fun d => fStep d o fun sl => Q sl env2
section
variable {G : GG} {N : List Str} {sc : SC} {k : Nat} {a : Expr} {ta : DT} {pos : Pos}
theorem de_step {st : Expr} {tp : DTO} {p2 : Pos} (h : DE G N sc k a ta) (hp : DO' G N sc k (some st) tp) : DE G N sc k (.Subscript a (.Slice none none (some st) p2) pos) (dStep ta tp) := ⟨fun W => by
  obtain ⟨te, p1, i1⟩ := h.ex W
  obtain ⟨tp', p2', i2⟩ := hp.ex W
  refine ⟨tStep G.K te tp', fun X S => by rw [← S.K]; exact pe_step (p1 X S) (p2' X S), fun e Ex hl env T F σ H Q R hh ht hR => ?_⟩
  refine i1 e Ex hl env T F σ H _ _ hh ht fun v H1 F1 env1 x hh1 q1 => ?_
  refine i2 e Ex hl env1 _ F1 σ H1 _ _ hh1 q1 fun o H3 F3 env3 hh3 q3 => ?_
  obtain ⟨d, rd, q4⟩ := hh3.wd (v := v) (sl := x) List.mem_cons_self q3
  have dn := hh3.pop.done hR
  cases o with
  | none => cases d <;> exact q4.elim
  | some c =>
    cases d with
    | lst ds =>
      obtain ⟨b, vs, rfl, e1, r1⟩ := rd.lst hh3.fh
      exact ⟨c, b, vs, rfl, rfl, q4.1, .inl ⟨SqL.of e1, fun p n => dn.lst hh3.fh n (r1.rev c) (q4.2 p)⟩⟩
    | fz ds =>
      obtain ⟨b, vs, rfl, e1, r1⟩ := rd.fz hh3.fh
      exact ⟨c, b, vs, rfl, rfl, q4.1, .inl ⟨e1, fun p n => dn.lst hh3.fh n (r1.rev c) (q4.2 p)⟩⟩
    | tup ds =>
      obtain ⟨b, vs, rfl, e1, e2, r1⟩ := rd.tup hh3.fh
      obtain ⟨rfl, q5⟩ := q4
      have r2 := r1.rev (-1)
      rw [stepL_rev, stepL_rev] at r2
      exact ⟨-1, b, vs, rfl, rfl, by decide, .inr ⟨rfl, e1, dn.tup hh3.fh r2 q5⟩⟩
    | _ => exact q4.elim⟩
end
end HD
namespace HD
open PySem L2
section
variable {G : GG} {N : List Str} {sc : SC} {k : Nat} {a b : Expr} {pos : Pos}
def sPar (i j : Nat) (t : DTA) : DTS := fun Ex E env => t Ex env fun xs env1 => frzDs env1 xs fun ds env2 => match ds with
  | [d, d'] => E.nx ((env2.set i (.ext d)).set j (.ext d'))
  | _ => False
end
end HD
namespace HD
open PySem L2
def enD (xs : List D) : List D := (xs.zipIdx).map fun p => D.tk [.int (p.2 : Nat), p.1]
def dEnum (ta : DT) : DTI := fun Ex env Q => ta Ex env fun x env1 => seqD env1 x fun xs k1 => Q (enD xs) k1 env1
end HD
namespace HD
open PySem PySem.Spec PyProof.Rows L2
theorem tuple_mul1 (l : Addr) (items : Array Value) (n : Nat) (dd : Option Addr) (sl : Array (Option Value)) (x : Int) (u : PySem.Tok) (c0 : (decide (x < -(2 ^ 63)) || decide (x ≥ 2 ^ 63)) = false) (c1 : (items.isEmpty || x == 1) = true) :
    PySem.Meets (Builtin.«tuple.__mul__» ⟨[.ref l, .int x u], []⟩) (fun _ R s => s.heap.get? l = some { cls := .type "tuple", dict := dd, data := .seq items n, slots := sl } ∧ R (.ok (.ret (Value.ref l))) s) :=
  .of_wp fun prog w A R s h => by
    obtain ⟨hp, g, d, tk, os⟩ := s
    obtain ⟨hl, h⟩ := h
    have f1 := AutoSeq1.idx_int
    wp_walk using wpAny_loadPart' hl
    repeat (first
      | (refine wpAny_ite_false (decide_eq_false (by rw [c0]; exact Bool.false_ne_true)) ?_; wp_walk using wpAny_loadPart' hl)
      | (refine wpAny_ite_true (decide_eq_true (by rw [c1])) ?_; wp_walk using wpAny_loadPart' hl))
    exact ⟨_, rfl, h⟩
theorem tuple_mul0 (l : Addr) (items : Array Value) (n : Nat) (dd : Option Addr) (sl : Array (Option Value)) (x : Int) (u : PySem.Tok) (c0 : (decide (x < -(2 ^ 63)) || decide (x ≥ 2 ^ 63)) = false) (c1 : (items.isEmpty || x == 1) = false) (c2 : (decide (x ≤ 0) || items.isEmpty) = true) :
    PySem.Meets (Builtin.«tuple.__mul__» ⟨[.ref l, .int x u], []⟩) (fun _ R s => s.heap.get? l = some { cls := .type "tuple", dict := dd, data := .seq items n, slots := sl } ∧
      R (.ok (.ret (Value.ref s.heap.objs.size))) { s with heap := s.heap.push { cls := Value.type "tuple", data := Data.seq #[] }, toks := s.toks }) :=
  .of_wp fun prog w A R s h => by
    obtain ⟨hp, g, d, tk, os⟩ := s
    obtain ⟨hl, h⟩ := h
    have f1 := AutoSeq1.idx_int
    wp_walk using wpAny_loadPart' hl
    repeat (first
      | (refine wpAny_ite_false (decide_eq_false (by rw [c0]; exact Bool.false_ne_true)) ?_; wp_walk using wpAny_loadPart' hl)
      | (refine wpAny_ite_false (decide_eq_false (by rw [c1]; exact Bool.false_ne_true)) ?_; wp_walk using wpAny_loadPart' hl)
      | (refine wpAny_ite_true (decide_eq_true (by rw [c2])) ?_; wp_walk using wpAny_loadPart' hl))
    exact ⟨_, rfl, h⟩
def rRepF (K : PySem.W.Frag) : R2 := fun x y H Q => ∃ l k xs, x = .ref l ∧ y = .int k ∧ SqT K H l xs ∧ 0 ≤ k ∧ k < 2 ^ 63 ∧ xs.length * k.toNat ≤ sizeLine ∧ (xs = [] ∨ k = 1 → Q (.ref l) H) ∧ (xs ≠ [] → k ≠ 1 → newT H (List.replicate k.toNat xs).flatten Q)
section
variable {X : Cx}
theorem op_repF : OpR X (binaryOp .Mult) (rRepF X.K) := by
  intro pins s σ H x y v u Q I rx ry h
  obtain ⟨l, k, xs, rfl, rfl, hT, h1, h2, hz, q1, q2⟩ := h
  cases rx
  obtain ⟨t, rfl⟩ := ry
  obtain ⟨its, r, ⟨⟨cls, dd, data, sl⟩, ho, hc, n, hd⟩, hs⟩ := I.tuple hT
  simp only at hc hd
  subst hc hd
  have hle : its.length = xs.length := r.length.symm
  have c0 : (decide (k < -(2 ^ 63)) || decide (k ≥ 2 ^ 63)) = false := by
    rw [decide_eq_false (by omega), decide_eq_false (by omega)] <;> rfl
  have hx : its.toArray.isEmpty = true ↔ xs = [] := by
    cases its with
    | nil => exact ⟨fun _ => List.eq_nil_of_length_eq_zero hle.symm, fun _ => rfl⟩
    | cons a b => exact ⟨fun z => by simp at z, fun z => by rw [z] at hle; simp at hle⟩
  refine wpAny_binaryOp_repeat_ref (T := "tuple") (U := "int") (by decide) ⟨_, ho, rfl⟩ (fun s' => typeIs_int s' k t) noFill_tuple_mul F.fills_int_mul F.slot_int_rmul repeat_tuple F.slot_int_index.lookup
    (call_meets F.slot_int_rmul (typeIs_int s k t) F.entry_int_rmul (F.args_int_rmul_2 _ _) (int_rmul_tuple k t l its.toArray n dd sl)
      ⟨ho, rfl, ⟨_, ho, rfl⟩, ?_⟩)
  by_cases c1 : (its.toArray.isEmpty || k == 1) = true
  · refine call_meets F.slot_tuple_mul ⟨_, ho, rfl⟩ F.entry_tuple_mul (F.args_tuple_mul_2 _ _) (tuple_mul1 l its.toArray n dd sl k t c0 c1) ⟨ho, ?_⟩
    refine ⟨.ref l, H, I, rfl, q1 ?_⟩
    rw [Bool.or_eq_true, hx, beq_iff_eq] at c1
    exact c1
  · have c1f : (its.toArray.isEmpty || k == 1) = false := by simpa using c1
    have hn : xs ≠ [] := fun z => c1 (by rw [Bool.or_eq_true, hx]; exact .inl z)
    have hk1 : k ≠ 1 := fun z => c1 (by rw [Bool.or_eq_true, beq_iff_eq]; exact .inr z)
    have hi : its.toArray.isEmpty = false := by
      cases e : its.toArray.isEmpty with
      | false => rfl
      | true => exact absurd (hx.1 e) hn
    have flen : (List.replicate k.toNat its).flatten.length ≤ sizeLine := by
      rw [PyProof.Rows.lm_len_rep_flat, hle, Nat.mul_comm]
      exact hz
    have flen2 : (List.replicate k.toNat xs).flatten.length ≤ sizeLine := by
      rw [PyProof.Rows.lm_len_rep_flat, Nat.mul_comm]
      exact hz
    by_cases hk0 : k = 0
    · subst hk0
      refine call_meets F.slot_tuple_mul ⟨_, ho, rfl⟩ F.entry_tuple_mul (F.args_tuple_mul_2 _ _) (tuple_mul0 l its.toArray n dd sl 0 t c0 c1f (by rw [Bool.or_eq_true]; exact .inl rfl)) ⟨ho, ?_⟩
      exact laidT (tk := s.toks) (its := []) I .nil (Nat.zero_le _) (q2 hn (by decide))
    · have c2 : (decide (k ≤ 0) || its.toArray.isEmpty) = false := by
        rw [hi, Bool.or_false]
        exact decide_eq_false (by omega)
      have hm : ((its.toArray.size : Nat) : Int) * k = ((xs.length * k.toNat : Nat) : Int) := by
        rw [List.size_toArray, hle, Int.natCast_mul, Int.toNat_of_nonneg h1]
      have hsl : ((xs.length * k.toNat : Nat) : Int) ≤ sizeLine := by omega
      have c4 : Builtin.Tuple.tupleTooMany (((its.toArray.size : Nat) : Int) * k) = false := by
        unfold Builtin.Tuple.tupleTooMany
        exact decide_eq_false (by rw [hm]; omega)
      have c3 : ¬ ((its.toArray.size : Nat) : Int) * k > (2 ^ 63 - 1) / 8 := by
        rw [hm]
        rw [sizeLine_eq] at hsl
        omega
      refine call_meets F.slot_tuple_mul ⟨_, ho, rfl⟩ F.entry_tuple_mul (F.args_tuple_mul_2 _ _) (tuple_mulW l its.toArray n dd sl k t c0 c1f c2 c3 c4 (by rw [size_rep, List.size_toArray]; exact flen)) ⟨ho, ?_⟩
      rw [size_rep]
      exact laidT (tk := s.toks) I (r.rep k.toNat) flen2 (q2 hn hk1)
end
def fMulT : D → D → (Sl → Prop) → Prop
  | .tup xs, .int k, Q => 0 ≤ k ∧ k < 2 ^ 63 ∧ xs.length * k.toNat ≤ sizeLine ∧ Q (.ext (.tup (List.replicate k.toNat xs).flatten))
  | _, _, _ => False
theorem pr_mulT {K : PySem.W.Frag} : Pr2 K (rRepF K) fMulT := fun F H v u d d' Q R fh h1 h2 hf ha => by
  unfold fMulT at hf
  split at hf
  · rename_i xs k
    obtain ⟨a, vs, rfl, e1, e2, r1⟩ := h1.tup fh
    obtain ⟨k0, k1, kz, q⟩ := hf
    refine ⟨a, k, vs, rfl, h2.int, e1, k0, k1, by rw [← r1.length]; exact kz, fun z => ?_, fun _ _ => ha.tup fh (r1.rep _) q⟩
    refine ha.ext (d := .tup _) fh ⟨a, vs, rfl, e2, ?_⟩ q
    rcases z with z | z
    · subst z
      have : xs = [] := List.eq_nil_of_length_eq_zero r1.length
      subst this
      rw [show (List.replicate k.toNat ([] : List D)).flatten = [] by simp]
      exact rfl
    · subst z
      rw [show (List.replicate (Int.toNat 1) xs).flatten = xs by simp]
      exact r1
  · exact hf.elim
theorem de_mulT {G : GG} {N : List Str} {sc : SC} {k : Nat} {a b : Expr} {ta tb : DT} {pos : Pos} (ha : DE G N sc k a ta) (hb : DE G N sc k b tb) : DE G N sc k (.BinOp a .Mult b pos) (dOp fMulT ta tb) := de_bin (r := rRepF) (fun _ => pr_mulT) (fun _ => op_repF) ha hb
def fIsB : D → D → (Sl → Prop) → Prop
  | .bl i, .bl j, Q => Q (.ext (.bl (i == j)))
  | _, _, _ => False
def fNotB : D → D → (Sl → Prop) → Prop
  | .bl i, .bl j, Q => Q (.ext (.bl (!(i == j))))
  | _, _, _ => False
end HD
namespace HD
open PySem L2
theorem seq_setE (i : Nat) (t : DT) (u : DTS) (Ex : DX) (E : DEnds) (env : Env') : sSeq (sSetE i t) u Ex E env = t Ex env fun x env1 => frzD env1 x fun d env2 => u Ex E (env2.set i (.ext d)) := rfl
theorem seq_set (i : Nat) (t : DT) (u : DTS) (Ex : DX) (E : DEnds) (env : Env') : sSeq (sSet i t) u Ex E env = t Ex env fun x env1 => retD env1 x fun r env2 => u Ex E (env2.set i r) := rfl
theorem seq_drop (t : DT) (u : DTS) (Ex : DX) (E : DEnds) (env : Env') : sSeq (sDrop t) u Ex E env = t Ex env fun _ env1 => u Ex E env1 := rfl
theorem seq_asg (t : DT) (g : DTG) (u : DTS) (Ex : DX) (E : DEnds) (env : Env') : sSeq (sAsg t g) u Ex E env = t Ex env fun x env1 => frzD env1 x fun d env2 => g d env2 fun env3 => u Ex E env3 := rfl
theorem seq_if (c : DTT) (t v : DTS) (u : DTS) (Ex : DX) (E : DEnds) (env : Env') : sSeq (sIf c t v) u Ex E env = c Ex env fun b env1 => if b = true then t Ex { E with nx := fun env1 => u Ex E env1 } env1 else v Ex { E with nx := fun env1 => u Ex E env1 } env1 := rfl
theorem seq_for (ti : DTI) (g : DTG) (b : DTS) (u : DTS) (Ex : DX) (E : DEnds) (env : Env') : sSeq (sFor ti g b) u Ex E env = ti Ex env fun items keep env1 => forD g b keep Ex { E with nx := fun env1 => u Ex E env1 } items env1 := rfl
theorem dv0 (d : D) (r : Env') (Ex : DX) (Q : Sl → Env' → Prop) : dVar 0 Ex (.ext d :: r) Q = Q (.ext d) (.ext d :: r) := rfl
theorem dw0 (a : Addr) (ds : List D) (r : Env') (Ex : DX) (Q : Sl → Env' → Prop) : dVar 0 Ex (.lst a ds :: r) Q = Q (.al 0 a) (.lst a ds :: r) := rfl
theorem dv1 (s0 : Sl) (d : D) (r : Env') (Ex : DX) (Q : Sl → Env' → Prop) : dVar 1 Ex (s0 :: .ext d :: r) Q = Q (.ext d) (s0 :: .ext d :: r) := rfl
theorem dw1 (s0 : Sl) (a : Addr) (ds : List D) (r : Env') (Ex : DX) (Q : Sl → Env' → Prop) : dVar 1 Ex (s0 :: .lst a ds :: r) Q = Q (.al 1 a) (s0 :: .lst a ds :: r) := rfl
theorem dv2 (s0 s1 : Sl) (d : D) (r : Env') (Ex : DX) (Q : Sl → Env' → Prop) : dVar 2 Ex (s0 :: s1 :: .ext d :: r) Q = Q (.ext d) (s0 :: s1 :: .ext d :: r) := rfl
theorem dw2 (s0 s1 : Sl) (a : Addr) (ds : List D) (r : Env') (Ex : DX) (Q : Sl → Env' → Prop) : dVar 2 Ex (s0 :: s1 :: .lst a ds :: r) Q = Q (.al 2 a) (s0 :: s1 :: .lst a ds :: r) := rfl
theorem dv3 (s0 s1 s2 : Sl) (d : D) (r : Env') (Ex : DX) (Q : Sl → Env' → Prop) : dVar 3 Ex (s0 :: s1 :: s2 :: .ext d :: r) Q = Q (.ext d) (s0 :: s1 :: s2 :: .ext d :: r) := rfl
theorem dw3 (s0 s1 s2 : Sl) (a : Addr) (ds : List D) (r : Env') (Ex : DX) (Q : Sl → Env' → Prop) : dVar 3 Ex (s0 :: s1 :: s2 :: .lst a ds :: r) Q = Q (.al 3 a) (s0 :: s1 :: s2 :: .lst a ds :: r) := rfl
theorem dv4 (s0 s1 s2 s3 : Sl) (d : D) (r : Env') (Ex : DX) (Q : Sl → Env' → Prop) : dVar 4 Ex (s0 :: s1 :: s2 :: s3 :: .ext d :: r) Q = Q (.ext d) (s0 :: s1 :: s2 :: s3 :: .ext d :: r) := rfl
theorem dw4 (s0 s1 s2 s3 : Sl) (a : Addr) (ds : List D) (r : Env') (Ex : DX) (Q : Sl → Env' → Prop) : dVar 4 Ex (s0 :: s1 :: s2 :: s3 :: .lst a ds :: r) Q = Q (.al 4 a) (s0 :: s1 :: s2 :: s3 :: .lst a ds :: r) := rfl
theorem dv5 (s0 s1 s2 s3 s4 : Sl) (d : D) (r : Env') (Ex : DX) (Q : Sl → Env' → Prop) : dVar 5 Ex (s0 :: s1 :: s2 :: s3 :: s4 :: .ext d :: r) Q = Q (.ext d) (s0 :: s1 :: s2 :: s3 :: s4 :: .ext d :: r) := rfl
theorem dw5 (s0 s1 s2 s3 s4 : Sl) (a : Addr) (ds : List D) (r : Env') (Ex : DX) (Q : Sl → Env' → Prop) : dVar 5 Ex (s0 :: s1 :: s2 :: s3 :: s4 :: .lst a ds :: r) Q = Q (.al 5 a) (s0 :: s1 :: s2 :: s3 :: s4 :: .lst a ds :: r) := rfl
theorem dv6 (s0 s1 s2 s3 s4 s5 : Sl) (d : D) (r : Env') (Ex : DX) (Q : Sl → Env' → Prop) : dVar 6 Ex (s0 :: s1 :: s2 :: s3 :: s4 :: s5 :: .ext d :: r) Q = Q (.ext d) (s0 :: s1 :: s2 :: s3 :: s4 :: s5 :: .ext d :: r) := rfl
theorem dw6 (s0 s1 s2 s3 s4 s5 : Sl) (a : Addr) (ds : List D) (r : Env') (Ex : DX) (Q : Sl → Env' → Prop) : dVar 6 Ex (s0 :: s1 :: s2 :: s3 :: s4 :: s5 :: .lst a ds :: r) Q = Q (.al 6 a) (s0 :: s1 :: s2 :: s3 :: s4 :: s5 :: .lst a ds :: r) := rfl
theorem dv7 (s0 s1 s2 s3 s4 s5 s6 : Sl) (d : D) (r : Env') (Ex : DX) (Q : Sl → Env' → Prop) : dVar 7 Ex (s0 :: s1 :: s2 :: s3 :: s4 :: s5 :: s6 :: .ext d :: r) Q = Q (.ext d) (s0 :: s1 :: s2 :: s3 :: s4 :: s5 :: s6 :: .ext d :: r) := rfl
theorem dw7 (s0 s1 s2 s3 s4 s5 s6 : Sl) (a : Addr) (ds : List D) (r : Env') (Ex : DX) (Q : Sl → Env' → Prop) : dVar 7 Ex (s0 :: s1 :: s2 :: s3 :: s4 :: s5 :: s6 :: .lst a ds :: r) Q = Q (.al 7 a) (s0 :: s1 :: s2 :: s3 :: s4 :: s5 :: s6 :: .lst a ds :: r) := rfl
theorem dv8 (s0 s1 s2 s3 s4 s5 s6 s7 : Sl) (d : D) (r : Env') (Ex : DX) (Q : Sl → Env' → Prop) : dVar 8 Ex (s0 :: s1 :: s2 :: s3 :: s4 :: s5 :: s6 :: s7 :: .ext d :: r) Q = Q (.ext d) (s0 :: s1 :: s2 :: s3 :: s4 :: s5 :: s6 :: s7 :: .ext d :: r) := rfl
theorem dw8 (s0 s1 s2 s3 s4 s5 s6 s7 : Sl) (a : Addr) (ds : List D) (r : Env') (Ex : DX) (Q : Sl → Env' → Prop) : dVar 8 Ex (s0 :: s1 :: s2 :: s3 :: s4 :: s5 :: s6 :: s7 :: .lst a ds :: r) Q = Q (.al 8 a) (s0 :: s1 :: s2 :: s3 :: s4 :: s5 :: s6 :: s7 :: .lst a ds :: r) := rfl
theorem dv9 (s0 s1 s2 s3 s4 s5 s6 s7 s8 : Sl) (d : D) (r : Env') (Ex : DX) (Q : Sl → Env' → Prop) : dVar 9 Ex (s0 :: s1 :: s2 :: s3 :: s4 :: s5 :: s6 :: s7 :: s8 :: .ext d :: r) Q = Q (.ext d) (s0 :: s1 :: s2 :: s3 :: s4 :: s5 :: s6 :: s7 :: s8 :: .ext d :: r) := rfl
theorem dw9 (s0 s1 s2 s3 s4 s5 s6 s7 s8 : Sl) (a : Addr) (ds : List D) (r : Env') (Ex : DX) (Q : Sl → Env' → Prop) : dVar 9 Ex (s0 :: s1 :: s2 :: s3 :: s4 :: s5 :: s6 :: s7 :: s8 :: .lst a ds :: r) Q = Q (.al 9 a) (s0 :: s1 :: s2 :: s3 :: s4 :: s5 :: s6 :: s7 :: s8 :: .lst a ds :: r) := rfl
theorem dv10 (s0 s1 s2 s3 s4 s5 s6 s7 s8 s9 : Sl) (d : D) (r : Env') (Ex : DX) (Q : Sl → Env' → Prop) : dVar 10 Ex (s0 :: s1 :: s2 :: s3 :: s4 :: s5 :: s6 :: s7 :: s8 :: s9 :: .ext d :: r) Q = Q (.ext d) (s0 :: s1 :: s2 :: s3 :: s4 :: s5 :: s6 :: s7 :: s8 :: s9 :: .ext d :: r) := rfl
theorem dw10 (s0 s1 s2 s3 s4 s5 s6 s7 s8 s9 : Sl) (a : Addr) (ds : List D) (r : Env') (Ex : DX) (Q : Sl → Env' → Prop) : dVar 10 Ex (s0 :: s1 :: s2 :: s3 :: s4 :: s5 :: s6 :: s7 :: s8 :: s9 :: .lst a ds :: r) Q = Q (.al 10 a) (s0 :: s1 :: s2 :: s3 :: s4 :: s5 :: s6 :: s7 :: s8 :: s9 :: .lst a ds :: r) := rfl
theorem dv11 (s0 s1 s2 s3 s4 s5 s6 s7 s8 s9 s10 : Sl) (d : D) (r : Env') (Ex : DX) (Q : Sl → Env' → Prop) : dVar 11 Ex (s0 :: s1 :: s2 :: s3 :: s4 :: s5 :: s6 :: s7 :: s8 :: s9 :: s10 :: .ext d :: r) Q = Q (.ext d) (s0 :: s1 :: s2 :: s3 :: s4 :: s5 :: s6 :: s7 :: s8 :: s9 :: s10 :: .ext d :: r) := rfl
theorem dw11 (s0 s1 s2 s3 s4 s5 s6 s7 s8 s9 s10 : Sl) (a : Addr) (ds : List D) (r : Env') (Ex : DX) (Q : Sl → Env' → Prop) : dVar 11 Ex (s0 :: s1 :: s2 :: s3 :: s4 :: s5 :: s6 :: s7 :: s8 :: s9 :: s10 :: .lst a ds :: r) Q = Q (.al 11 a) (s0 :: s1 :: s2 :: s3 :: s4 :: s5 :: s6 :: s7 :: s8 :: s9 :: s10 :: .lst a ds :: r) := rfl
theorem dv12 (s0 s1 s2 s3 s4 s5 s6 s7 s8 s9 s10 s11 : Sl) (d : D) (r : Env') (Ex : DX) (Q : Sl → Env' → Prop) : dVar 12 Ex (s0 :: s1 :: s2 :: s3 :: s4 :: s5 :: s6 :: s7 :: s8 :: s9 :: s10 :: s11 :: .ext d :: r) Q = Q (.ext d) (s0 :: s1 :: s2 :: s3 :: s4 :: s5 :: s6 :: s7 :: s8 :: s9 :: s10 :: s11 :: .ext d :: r) := rfl
theorem dw12 (s0 s1 s2 s3 s4 s5 s6 s7 s8 s9 s10 s11 : Sl) (a : Addr) (ds : List D) (r : Env') (Ex : DX) (Q : Sl → Env' → Prop) : dVar 12 Ex (s0 :: s1 :: s2 :: s3 :: s4 :: s5 :: s6 :: s7 :: s8 :: s9 :: s10 :: s11 :: .lst a ds :: r) Q = Q (.al 12 a) (s0 :: s1 :: s2 :: s3 :: s4 :: s5 :: s6 :: s7 :: s8 :: s9 :: s10 :: s11 :: .lst a ds :: r) := rfl
theorem dv13 (s0 s1 s2 s3 s4 s5 s6 s7 s8 s9 s10 s11 s12 : Sl) (d : D) (r : Env') (Ex : DX) (Q : Sl → Env' → Prop) : dVar 13 Ex (s0 :: s1 :: s2 :: s3 :: s4 :: s5 :: s6 :: s7 :: s8 :: s9 :: s10 :: s11 :: s12 :: .ext d :: r) Q = Q (.ext d) (s0 :: s1 :: s2 :: s3 :: s4 :: s5 :: s6 :: s7 :: s8 :: s9 :: s10 :: s11 :: s12 :: .ext d :: r) := rfl
theorem dw13 (s0 s1 s2 s3 s4 s5 s6 s7 s8 s9 s10 s11 s12 : Sl) (a : Addr) (ds : List D) (r : Env') (Ex : DX) (Q : Sl → Env' → Prop) : dVar 13 Ex (s0 :: s1 :: s2 :: s3 :: s4 :: s5 :: s6 :: s7 :: s8 :: s9 :: s10 :: s11 :: s12 :: .lst a ds :: r) Q = Q (.al 13 a) (s0 :: s1 :: s2 :: s3 :: s4 :: s5 :: s6 :: s7 :: s8 :: s9 :: s10 :: s11 :: s12 :: .lst a ds :: r) := rfl
theorem dv14 (s0 s1 s2 s3 s4 s5 s6 s7 s8 s9 s10 s11 s12 s13 : Sl) (d : D) (r : Env') (Ex : DX) (Q : Sl → Env' → Prop) : dVar 14 Ex (s0 :: s1 :: s2 :: s3 :: s4 :: s5 :: s6 :: s7 :: s8 :: s9 :: s10 :: s11 :: s12 :: s13 :: .ext d :: r) Q = Q (.ext d) (s0 :: s1 :: s2 :: s3 :: s4 :: s5 :: s6 :: s7 :: s8 :: s9 :: s10 :: s11 :: s12 :: s13 :: .ext d :: r) := rfl
theorem dw14 (s0 s1 s2 s3 s4 s5 s6 s7 s8 s9 s10 s11 s12 s13 : Sl) (a : Addr) (ds : List D) (r : Env') (Ex : DX) (Q : Sl → Env' → Prop) : dVar 14 Ex (s0 :: s1 :: s2 :: s3 :: s4 :: s5 :: s6 :: s7 :: s8 :: s9 :: s10 :: s11 :: s12 :: s13 :: .lst a ds :: r) Q = Q (.al 14 a) (s0 :: s1 :: s2 :: s3 :: s4 :: s5 :: s6 :: s7 :: s8 :: s9 :: s10 :: s11 :: s12 :: s13 :: .lst a ds :: r) := rfl
theorem dv15 (s0 s1 s2 s3 s4 s5 s6 s7 s8 s9 s10 s11 s12 s13 s14 : Sl) (d : D) (r : Env') (Ex : DX) (Q : Sl → Env' → Prop) : dVar 15 Ex (s0 :: s1 :: s2 :: s3 :: s4 :: s5 :: s6 :: s7 :: s8 :: s9 :: s10 :: s11 :: s12 :: s13 :: s14 :: .ext d :: r) Q = Q (.ext d) (s0 :: s1 :: s2 :: s3 :: s4 :: s5 :: s6 :: s7 :: s8 :: s9 :: s10 :: s11 :: s12 :: s13 :: s14 :: .ext d :: r) := rfl
theorem dw15 (s0 s1 s2 s3 s4 s5 s6 s7 s8 s9 s10 s11 s12 s13 s14 : Sl) (a : Addr) (ds : List D) (r : Env') (Ex : DX) (Q : Sl → Env' → Prop) : dVar 15 Ex (s0 :: s1 :: s2 :: s3 :: s4 :: s5 :: s6 :: s7 :: s8 :: s9 :: s10 :: s11 :: s12 :: s13 :: s14 :: .lst a ds :: r) Q = Q (.al 15 a) (s0 :: s1 :: s2 :: s3 :: s4 :: s5 :: s6 :: s7 :: s8 :: s9 :: s10 :: s11 :: s12 :: s13 :: s14 :: .lst a ds :: r) := rfl
theorem dv16 (s0 s1 s2 s3 s4 s5 s6 s7 s8 s9 s10 s11 s12 s13 s14 s15 : Sl) (d : D) (r : Env') (Ex : DX) (Q : Sl → Env' → Prop) : dVar 16 Ex (s0 :: s1 :: s2 :: s3 :: s4 :: s5 :: s6 :: s7 :: s8 :: s9 :: s10 :: s11 :: s12 :: s13 :: s14 :: s15 :: .ext d :: r) Q = Q (.ext d) (s0 :: s1 :: s2 :: s3 :: s4 :: s5 :: s6 :: s7 :: s8 :: s9 :: s10 :: s11 :: s12 :: s13 :: s14 :: s15 :: .ext d :: r) := rfl
theorem dw16 (s0 s1 s2 s3 s4 s5 s6 s7 s8 s9 s10 s11 s12 s13 s14 s15 : Sl) (a : Addr) (ds : List D) (r : Env') (Ex : DX) (Q : Sl → Env' → Prop) : dVar 16 Ex (s0 :: s1 :: s2 :: s3 :: s4 :: s5 :: s6 :: s7 :: s8 :: s9 :: s10 :: s11 :: s12 :: s13 :: s14 :: s15 :: .lst a ds :: r) Q = Q (.al 16 a) (s0 :: s1 :: s2 :: s3 :: s4 :: s5 :: s6 :: s7 :: s8 :: s9 :: s10 :: s11 :: s12 :: s13 :: s14 :: s15 :: .lst a ds :: r) := rfl
theorem dv17 (s0 s1 s2 s3 s4 s5 s6 s7 s8 s9 s10 s11 s12 s13 s14 s15 s16 : Sl) (d : D) (r : Env') (Ex : DX) (Q : Sl → Env' → Prop) : dVar 17 Ex (s0 :: s1 :: s2 :: s3 :: s4 :: s5 :: s6 :: s7 :: s8 :: s9 :: s10 :: s11 :: s12 :: s13 :: s14 :: s15 :: s16 :: .ext d :: r) Q = Q (.ext d) (s0 :: s1 :: s2 :: s3 :: s4 :: s5 :: s6 :: s7 :: s8 :: s9 :: s10 :: s11 :: s12 :: s13 :: s14 :: s15 :: s16 :: .ext d :: r) := rfl
theorem dw17 (s0 s1 s2 s3 s4 s5 s6 s7 s8 s9 s10 s11 s12 s13 s14 s15 s16 : Sl) (a : Addr) (ds : List D) (r : Env') (Ex : DX) (Q : Sl → Env' → Prop) : dVar 17 Ex (s0 :: s1 :: s2 :: s3 :: s4 :: s5 :: s6 :: s7 :: s8 :: s9 :: s10 :: s11 :: s12 :: s13 :: s14 :: s15 :: s16 :: .lst a ds :: r) Q = Q (.al 17 a) (s0 :: s1 :: s2 :: s3 :: s4 :: s5 :: s6 :: s7 :: s8 :: s9 :: s10 :: s11 :: s12 :: s13 :: s14 :: s15 :: s16 :: .lst a ds :: r) := rfl
theorem dv18 (s0 s1 s2 s3 s4 s5 s6 s7 s8 s9 s10 s11 s12 s13 s14 s15 s16 s17 : Sl) (d : D) (r : Env') (Ex : DX) (Q : Sl → Env' → Prop) : dVar 18 Ex (s0 :: s1 :: s2 :: s3 :: s4 :: s5 :: s6 :: s7 :: s8 :: s9 :: s10 :: s11 :: s12 :: s13 :: s14 :: s15 :: s16 :: s17 :: .ext d :: r) Q = Q (.ext d) (s0 :: s1 :: s2 :: s3 :: s4 :: s5 :: s6 :: s7 :: s8 :: s9 :: s10 :: s11 :: s12 :: s13 :: s14 :: s15 :: s16 :: s17 :: .ext d :: r) := rfl
theorem dw18 (s0 s1 s2 s3 s4 s5 s6 s7 s8 s9 s10 s11 s12 s13 s14 s15 s16 s17 : Sl) (a : Addr) (ds : List D) (r : Env') (Ex : DX) (Q : Sl → Env' → Prop) : dVar 18 Ex (s0 :: s1 :: s2 :: s3 :: s4 :: s5 :: s6 :: s7 :: s8 :: s9 :: s10 :: s11 :: s12 :: s13 :: s14 :: s15 :: s16 :: s17 :: .lst a ds :: r) Q = Q (.al 18 a) (s0 :: s1 :: s2 :: s3 :: s4 :: s5 :: s6 :: s7 :: s8 :: s9 :: s10 :: s11 :: s12 :: s13 :: s14 :: s15 :: s16 :: s17 :: .lst a ds :: r) := rfl
theorem dv19 (s0 s1 s2 s3 s4 s5 s6 s7 s8 s9 s10 s11 s12 s13 s14 s15 s16 s17 s18 : Sl) (d : D) (r : Env') (Ex : DX) (Q : Sl → Env' → Prop) : dVar 19 Ex (s0 :: s1 :: s2 :: s3 :: s4 :: s5 :: s6 :: s7 :: s8 :: s9 :: s10 :: s11 :: s12 :: s13 :: s14 :: s15 :: s16 :: s17 :: s18 :: .ext d :: r) Q = Q (.ext d) (s0 :: s1 :: s2 :: s3 :: s4 :: s5 :: s6 :: s7 :: s8 :: s9 :: s10 :: s11 :: s12 :: s13 :: s14 :: s15 :: s16 :: s17 :: s18 :: .ext d :: r) := rfl
theorem dw19 (s0 s1 s2 s3 s4 s5 s6 s7 s8 s9 s10 s11 s12 s13 s14 s15 s16 s17 s18 : Sl) (a : Addr) (ds : List D) (r : Env') (Ex : DX) (Q : Sl → Env' → Prop) : dVar 19 Ex (s0 :: s1 :: s2 :: s3 :: s4 :: s5 :: s6 :: s7 :: s8 :: s9 :: s10 :: s11 :: s12 :: s13 :: s14 :: s15 :: s16 :: s17 :: s18 :: .lst a ds :: r) Q = Q (.al 19 a) (s0 :: s1 :: s2 :: s3 :: s4 :: s5 :: s6 :: s7 :: s8 :: s9 :: s10 :: s11 :: s12 :: s13 :: s14 :: s15 :: s16 :: s17 :: s18 :: .lst a ds :: r) := rfl
end HD
namespace HD
open PySem PyProof.Rows L2
section
variable {G : GG} {N : List Str} {sc : SC} {k : Nat} {a b : Expr} {ta tb : DT} {p p2 pos pos2 : Pos}
def dListZip (ta tb : DT) : DT := fun Ex env Q => ta Ex env fun x env1 => tb Ex env1 fun y env2 => seqD env2 x fun xs _ => seqD env2 y fun ys _ => ∀ a, Q (.lst a ((xs.zip ys).map fun p => D.tk [p.1, p.2])) env2
end
end HD
namespace HD
open PySem PyProof.Rows L2
theorem retD_reg (env : Env') (a : D) (cs : List (Addr × OC)) (q : Sl → Env' → Prop) : retD env (.reg a cs) q = q (.reg a cs) env := rfl
def nestC (a : Addr) (xs : List (Addr × List D)) : List (Addr × OC) := (a, .lst (xs.map fun p => .val (.ref p.1))) :: xs.map fun p => (p.1, .lst p.2)
abbrev nestS (a : Addr) (xs : List (Addr × List D)) : Sl := .reg (.val (.ref a)) (nestC a xs)
section
variable {K : PySem.W.Frag} {e : Ent} {env : Env'} {T : Tmp} {F : Hp} {σ : L2.St} {H : Hp}
theorem Holds.writeR {i : Nat} {sl sl' : Sl} {b : Addr} {o : HO} (h : Holds K e env T F σ H) (hi : env[i]? = some sl) (hb : b ∈ sl.owned) (own : sl'.owned = sl.owned) (ok : ∀ v, SlOk K F H v sl → SlOk K F (upd H b o) v sl') (hu : sl ≠ .un) : Holds K e (env.set i sl') T F σ (upd H b o) := by
  obtain ⟨A, B, e1, e2⟩ := splitE hi
  have own' : ownedE (env.set i sl') = ownedE env := by rw [e1, e2, own]
  have mb : b ∈ ownedE env := mem_ownedE hi hb
  have mm : b ∈ ownedE env ++ ownedT T := List.mem_append_left _ mb
  obtain ⟨Fn, _⟩ := h.ownedH b mm
  refine ⟨fun c o' q => ?_, by rw [List.length_set]; exact h.len, fun j s q => ?_, fun p hp => (h.temps p hp).write fun m => ?_, by rw [own']; exact h.nd, h.s1, fun c o' q n => ?_, by rw [own']; exact h.s3⟩
  · have nb : c ≠ b := fun z => by
      rw [z, Fn] at q
      cases q
    rw [upd_ne nb]
    exact h.fh c o' q
  · rw [List.getElem?_set] at q
    split at q
    · rename_i ij
      subst ij
      split at q
      · cases q
        right
        rcases h.slots i _ hi with z | ⟨v, hv, q1⟩
        · exact absurd z hu
        · exact ⟨v, hv, ok v q1⟩
      · cases q
    · rename_i ij
      rcases h.slots j s q with z | ⟨v, hv, ok'⟩
      · exact .inl z
      · exact .inr ⟨v, hv, ok'.write fun m => ij (owned_two h.nd hi q hb m)⟩
  · exact (List.nodup_append.mp h.nd).2.2 b mb b (List.mem_flatMap.mpr ⟨p, hp, m⟩) rfl
  · have nb : c ≠ b := fun z => by
      subst z
      rcases h.s3 c mm with y | y
      · exact n y
      · rw [q] at y
        cases y
    rw [upd_ne nb]
    exact h.s2 c o' q n
end
section
variable {G : GG} {N : List Str} {sc : SC} {k : Nat} {a b : Expr} {ta tb : DT} {apos cpos spos py pos : Pos} {x : Str}
def dNApp (i : Nat) (tI te : DT) : DT := fun Ex env Q => (∃ a0 xs0, env[i]? = some (nestS a0 xs0)) ∧ tI Ex env fun z env1 => match z with
  | .ext (.int n) => ∃ a1 xs b ds, env1[i]? = some (nestS a1 xs) ∧ atI xs n = some (b, ds) ∧ te Ex env1 fun y env2 => frzD env2 y fun d env3 =>
      ∃ a2 xs' j ds', env3[i]? = some (nestS a2 xs') ∧ xs'[j]? = some (b, ds') ∧ ds'.length < sizeLine ∧ Q (.ext .non) (env3.set i (nestS a2 (xs'.set j (b, ds' ++ [d]))))
  | _ => False
end
def sSeal (i : Nat) (t : DTS) : DTS := fun Ex E env => ∃ a xs, env[i]? = some (nestS a xs) ∧ t Ex E (env.set i (.ext (.lst (xs.map fun p => .lst p.2))))
def emp (bs : List Addr) : List (Addr × List D) := bs.map fun b => (b, [])
def dNest (ti : DTI) (i : Nat) : DT := fun Ex env Q => ti Ex env fun items keep env1 => keep (env1.set i .un) ∧ items.length ≤ sizeLine ∧ ∀ a (bs : List Addr), bs.length = items.length → Q (nestS a (emp bs)) (env1.set i .un)
end HD
namespace HD
open PySem PyProof.Rows L2
section
variable {G : GG} {N : List Str} {sc : SC} {k : Nat} {a : Expr} {ta : DT} {p p2 pos pos2 : Pos}
def dLenSet (t : DT) : DT := fun Ex env Q => t Ex env fun x env1 => wd env1 x fun d => match d with
  | .tup ds => ∃ ns : List Int, ds = ns.map D.int ∧ ns.length < 3000 ∧ ∀ m : Nat, (m = ns.length ↔ ns.Nodup) → Q (.ext (.int (m : Nat))) env1
  | _ => False
end
end HD
namespace HD
open PySem PyProof.Rows L2
def fSum2 : List D → (Sl → Prop) → Prop
  | [.lst ds], Q => ∃ ns : List Int, ds = ns.map D.int ∧ Q (.ext (.int ns.sum))
  | [.tup ds], Q => ∃ ns : List Int, ds = ns.map D.int ∧ Q (.ext (.int ns.sum))
  | _, _ => False
end HD
namespace HD
open PySem PyProof.Rows L2
section
variable {κ β : Type} [DecidableEq κ]
def luK (kvs : List (κ × β)) (k : κ) : Option β := (kvs.find? fun kv => decide (kv.1 = k)).map (·.2)
def ptK (kvs : List (κ × β)) (k : κ) (v : β) : List (κ × β) := if kvs.any (fun kv => decide (kv.1 = k)) then kvs.map (fun kv => if kv.1 = k then (kv.1, v) else kv) else kvs ++ [(k, v)]
def drK (kvs : List (κ × β)) (k : κ) : List (κ × β) := kvs.filter fun kv => decide (kv.1 ≠ k)
end
section
variable {K : PySem.W.Frag} {F : Hp} {κ : Type} [DecidableEq κ]
def Ents (K : PySem.W.Frag) (F : Hp) (kvs : List (κ × D)) (vs : List (κ × V)) : Prop := vs.map (·.1) = kvs.map (·.1) ∧ Reps K F (kvs.map (·.2)) (vs.map (·.2))
theorem Ents.nil : Ents (κ := κ) K F [] [] := ⟨rfl, rfl⟩
theorem Ents.cons {k : κ} {d : D} {v : V} {kvs : List (κ × D)} {vs : List (κ × V)} (h : Rep K F d v) (t : Ents K F kvs vs) : Ents K F ((k, d) :: kvs) ((k, v) :: vs) :=
  ⟨by rw [List.map_cons, List.map_cons, t.1], .cons h t.2⟩
theorem Ents.inv {p : κ × D} {kvs : List (κ × D)} {vs : List (κ × V)} (h : Ents K F (p :: kvs) vs) : ∃ v r, vs = (p.1, v) :: r ∧ Rep K F p.2 v ∧ Ents K F kvs r := by
  obtain ⟨h1, h2⟩ := h
  cases vs with
  | nil => cases h1
  | cons q r =>
    rw [List.map_cons, List.map_cons] at h1
    injection h1 with e1 e2
    rw [List.map_cons, List.map_cons] at h2
    obtain ⟨v, r', e3, r1, r2⟩ := h2
    injection e3 with e4 e5
    subst e5
    exact ⟨q.2, r, by rw [← e1], by rw [e4]; exact r1, e2, r2⟩
theorem Ents.emp {vs : List (κ × V)} (h : Ents K F ([] : List (κ × D)) vs) : vs = [] := List.map_eq_nil_iff.1 h.1
theorem Ents.length {kvs : List (κ × D)} {vs : List (κ × V)} (h : Ents K F kvs vs) : kvs.length = vs.length := by
  have := congrArg List.length h.1
  rw [List.length_map, List.length_map] at this
  exact this.symm
end
abbrev dkS (a : Addr) (kvs : List (Key × D)) : Sl := .reg (.val (.ref a)) [(a, .dk kvs)]
abbrev dkD (kvs : List (Key × D)) : D := .dk (kvs.map (·.1)) (kvs.map (·.2))
def kD : Key → D
  | .inl i => .int i
  | .inr x => .str x
theorem dk_ok {K : PySem.W.Frag} {F H : Hp} {v : V} {a : Addr} {kvs : List (Key × D)} : SlOk K F H v (dkS a kvs) ↔ v = .ref a ∧ F a = none ∧ ∃ vs, H a = some (.dK vs) ∧ Ents K F kvs vs := by
  constructor
  · rintro ⟨h1, _, h3⟩
    obtain ⟨n, o, ho, vs, rfl, r1, r2⟩ := h3 (a, .dk kvs) List.mem_cons_self
    exact ⟨h1, n, vs, ho, r1, r2⟩
  · rintro ⟨h1, h2, vs, h3, h4, h5⟩
    refine ⟨h1, List.pairwise_singleton _ _, fun p hp => ?_⟩
    rw [List.mem_singleton.mp hp]
    exact ⟨h2, _, h3, vs, rfl, h4, h5⟩
def dkAt (env : Env') (i : Nat) (kvs : List (Key × D)) : Prop := (∃ a, env[i]? = some (dkS a kvs)) ∨ env[i]? = some (.ext (dkD kvs))
section
variable {G : GG} {N : List Str} {sc : SC} {k : Nat} {a b : Expr} {ta tb : DT} {py pos spos apos cpos : Pos} {x : Str}
def dDIn (neg : Bool) (i : Nat) (t : DT) : DT := fun Ex env Q => t Ex env fun x env1 => ∃ key kvs, x = .ext (kD key) ∧ dkAt env1 i kvs ∧ Q (.ext (.bl (neg != (luK kvs key).isSome))) env1
def dDGet (i : Nat) (t : DT) : DT := fun Ex env Q => (∃ kvs, dkAt env i kvs) ∧ t Ex env fun x env1 => ∃ key kvs d, x = .ext (kD key) ∧ dkAt env1 i kvs ∧ luK kvs key = some d ∧ Q (.ext d) env1
def sPutD (i : Nat) (tk tv : DT) : DTS := fun Ex E env => tv Ex env fun y env0 => frzD env0 y fun d env1 => (∃ a kvs, env1[i]? = some (dkS a kvs)) ∧ tk Ex env1 fun x env2 => ∃ a kvs key, env2[i]? = some (dkS a kvs) ∧ x = .ext (kD key) ∧ kvs.length < sizeLine ∧ E.nx (env2.set i (dkS a (ptK kvs key d)))
def dDNew : DT := fun _ env Q => ∀ a, Q (dkS a []) env
theorem de_dnew : DE G N sc k (.Dict [] [] pos) dDNew := ⟨fun W => ⟨tDNewK, fun X S => pe_dnewK, fun e Ex hl env T F σ H Q R hh ht hR p hp => by
  refine hR _ _ F env (dkS p []) (hh.push (Grow.loose hh.fh hp) (dk_ok.2 ⟨rfl, hh.fh.free hp, [], upd_same, .nil⟩) fun c hc => ?_) (ht p)
  rw [List.mem_singleton.mp hc]
  exact hp⟩⟩
def dDOne (tk tv : DT) : DT := fun Ex env Q => tk Ex env fun x env1 => tv Ex env1 fun y env2 => ∃ key, x = .ext (kD key) ∧ frzD env2 y fun d env3 => ∀ a, Q (dkS a [(key, d)]) env3
end
def sSealD (i : Nat) (t : DTS) : DTS := fun Ex E env => ∃ a kvs, env[i]? = some (dkS a kvs) ∧ t Ex E (env.set i (.ext (dkD kvs)))
def keyS (x : Sl) (q : List Key → Prop) : Prop := match x with
  | .ext (.dk ks _) => q ks
  | _ => False
theorem keyS_dk (ks : List Key) (ds : List D) (q : List Key → Prop) : keyS (.ext (.dk ks ds)) q = q ks := rfl
def dKeys (t : DT) : DTI := fun Ex env Q => t Ex env fun x env1 => keyS x fun ks => Q (ks.map kD) (fun _ => True) env1
end HD
namespace PySem.AutoSeq1
theorem ext_tup (l : Addr) (xs : Array Value) (n : Nat) (b : Addr) (ys : Array Value) (m : Nat) (sl : Array (Option Value)) (h0 : ¬(!xs.isEmpty && Builtin.List.listTooLong (xs.size + ys.size)) = true) (h1 : xs.size ≤ sizeLine) (h2 : xs.size + ys.size ≤ sizeLine + 1) :
    Meets (Builtin.«list.extend» ⟨[.ref l, .ref b], []⟩) (fun _ R s => s.heap.get? l = some { cls := .type "list", dict := none, data := .seq xs n, slots := #[] } ∧ s.heap.get? b = some { cls := .type "tuple", dict := none, data := .seq ys m, slots := sl } ∧ R (.ok (.ret Value.none)) { s with heap := s.heap.update l (Obj.mapSeq fun x => x ++ ys), toks := s.toks }) :=
  .of_wp fun prog w A R s h => by
    obtain ⟨hp, gs, dr, tk, os⟩ := s
    obtain ⟨hl, hb, h⟩ := h
    have g1 := idx_int
    have g2 := sub_tuple_tuple
    have g3 := sub_list_list
    have g4 := sub_tuple_list
    have g5 := sub_list_tuple
    have hz : (xs ++ ys).size ≤ sizeLine + 1 := by
      rw [Array.size_append]
      exact h2
    wp_walk using (wpAny_updateSeq hl rfl (hz := h1) (_hz' := hz)), wpAny_loadPart' hl, wpAny_loadPart' hb
    exact ⟨_, rfl, h⟩
end PySem.AutoSeq1
namespace HD
open PySem PyProof.Rows L2
def rExtT (K : PySem.W.Frag) : V → List V → Hp → VK → Prop := fun x vs H Q => ∃ l b xs zs, x = .ref l ∧ vs = [.ref b] ∧ H l = some (.lst xs) ∧ TupD K H b zs ∧ xs.length + zs.length ≤ sizeLine ∧ Q .non (upd H l (.lst (xs ++ zs)))
theorem mt_extT {X : Cx} : MtM X "list.extend" (rExtT X.K) := by
  intro pins s σ H x vs v us Q I rx rv h
  obtain ⟨l, b, xs, zs, rfl, rfl, hH, hB, hz, q⟩ := h
  cases rx
  obtain ⟨u, rfl, ru⟩ := rv.one
  cases ru
  obtain ⟨z, its, n, r, hl, e⟩ := I.lstM hH
  obtain ⟨its2, r2, ⟨ob, e2, ec, m, ed⟩, z2⟩ := I.tuple hB.sq
  obtain ⟨ob', e3, en⟩ := hB.noDict I
  rw [e2] at e3
  cases e3
  have hl2 := r2.length
  have hsz : its.toArray.size + its2.toArray.size ≤ sizeLine := by rw [List.size_toArray, List.size_toArray]; omega
  have hlong : ¬ (!its.toArray.isEmpty && Builtin.List.listTooLong (its.toArray.size + its2.toArray.size)) = true := extend_door hsz
  obtain ⟨cls, dict, data, slots⟩ := ob
  cases ec
  cases ed
  cases en
  refine call_meets F.slot_list_extend ⟨_, e, rfl⟩ F.entry_list_extend (F.args_list_extend_2 _ _)
    (AutoSeq1.ext_tup l its.toArray n b its2.toArray m slots hlong (by rw [List.size_toArray]; omega) (by omega)) ⟨e, e2, ?_⟩
  refine ⟨.non, _, I.lset (its' := its ++ its2) hH e (by simp) (r.append r2) ?_, rfl, q⟩
  rw [List.length_append]
  omega
section
variable {G : GG} {N : List Str} {sc : SC} {k : Nat} {b : Expr} {tb : DT} {apos cpos py : Pos} {x : Str}
def dExtT (i : Nat) (t : DT) : DT := fun Ex env Q => (∃ a ds, env[i]? = some (.lst a ds)) ∧ t Ex env fun x env1 => ∃ a ds es, x = .ext (.tup es) ∧ env1[i]? = some (.lst a ds) ∧ ds.length + es.length ≤ sizeLine ∧ Q (.ext .non) (env1.set i (.lst a (ds ++ es)))
theorem de_extT (i : Nat) (hb : DE G N sc k b tb) (hw : FewArgs (.Name x py) "extend" b [] cpos := by intro _; exact ⟨rfl, rfl, rfl, rfl⟩) (hv : VisV N sc i x := by exact ⟨rfl, by first | exact Or.inl rfl | exact Or.inr (Or.inl rfl) | exact Or.inr (Or.inr rfl), by decide, by decide⟩) (hline : (apos.endLine == cpos.line) = true := by rfl) :
    DE G N sc k (.Call (.Attribute (.Name x py) "extend" apos) [b] [] cpos) (dExtT i tb) := ⟨fun W => by
  obtain ⟨tf, p2, i2⟩ := hb.ex W
  refine ⟨tBM G.K "list" (rExtT G.K) (tVar i) (tCons tf tNil), fun X S => ?_, fun e Ex hl env T F σ H Q R hh ht hR => ?_⟩
  · obtain ⟨hbase, hfew, hs, hplain⟩ := hw X.env
    rw [← S.K]
    exact pe_bm PySem.F.plainAttrs_list PySem.F.slot_list_extend PySem.F.type_list_extend mt_extT (pe_var (by rw [S.nms]; exact hv.1) (S.vis hv.2.1) hv.2.2.1 hv.2.2.2) (pa_cons (p2 X S) pa_nil hs) hbase hfew hline hs hplain
  · obtain ⟨⟨c, ds0, hc⟩, ht⟩ := ht
    rcases hh.slots i _ hc with z | ⟨v0, hv0, e0, _, us0, hu0, _⟩
    · cases z
    subst e0
    refine ⟨_, hv0, .inl ⟨rfl, us0, SqL.of hu0⟩, ?_⟩
    refine i2 e Ex hl env T F σ H _ _ hh ht fun u H2 F2 env2 y hh2 q2 => ?_
    obtain ⟨c1, ds, es, rfl, hc1, hz, q⟩ := q2
    rcases hh2.slots i _ hc1 with z | ⟨v1, hv1, e1, _, us, hu, rr⟩
    · cases z
    subst e1
    rw [hv0] at hv1
    cases hv1
    obtain ⟨ct, zs, eu, ht, rt⟩ := hh2.temps (u, .ext (.tup es)) List.mem_cons_self
    subst eu
    show rExtT G.K (.ref c) [.ref ct] H2 R
    exact ⟨c, ct, us, zs, rfl, rfl, hu, TupD.same hh2.fh ht, by rw [← rr.length, ← rt.length]; exact hz, hR .non _ F2 _ (.ext .non) ((hh2.pop.write hc1 (rr.append rt)).pushE rfl) q⟩⟩
end
theorem seq_putD (i : Nat) (tk tv : DT) (u : DTS) (Ex : DX) (E : DEnds) (env : Env') : sSeq (sPutD i tk tv) u Ex E env = sPutD i tk tv Ex { E with nx := fun env1 => u Ex E env1 } env := rfl
theorem seq_sealD (i : Nat) (t u : DTS) (Ex : DX) (E : DEnds) (env : Env') : sSeq (sSealD i t) u Ex E env = sSealD i t Ex { E with nx := fun env1 => u Ex E env1 } env := rfl
theorem seq_while (c : DTT) (b u : DTS) (Ex : DX) (E : DEnds) (env : Env') : sSeq (sWhile c b) u Ex E env = sWhile c b Ex { E with nx := fun env1 => u Ex E env1 } env := rfl
end HD
namespace HD
open PySem PyProof.Rows L2
section
variable {prog : Program} {w : World} {A : Around} {E : Value → Shared → Prop} {s : Shared}
theorem collect_tup {l : Addr} {vs : List Value} {Q : List Value → Shared → Prop} (hl : IsTup s.heap l vs.toArray)
    (h : Q vs { s with heap := (s.heap.push (seqObj "list" #[] 0)).update s.heap.objs.size (Obj.mapSeq (· ++ vs.toArray)) }) (hsz : vs.length ≤ sizeLine) :
    wpAny (model prog w) A (collect (.ref l)) Q E s := by
  obtain ⟨o, ho, hc, n, hd⟩ := id hl
  unfold collect
  refine wpAny_bind (wpAny_runValue (codeAny_builtin entry_proto_collect' ?_))
  show wpAny _ _ (do again (.builtin "list.__iadd__" ⟨[← newList [], .ref l], []⟩)) _ _ s
  refine wpAny_bind (wpAny_newList (wpAny_pure ⟨Code.quiet_builtin _ (by decide +kernel), codeAny_builtin entry_list_iadd' ?_⟩))
  show wpAny _ _ (Builtin.List.listExtendWith (.ref s.heap.objs.size) (.ref l) (.ref s.heap.objs.size)) _ _ { s with heap := s.heap.push (seqObj "list" #[] 0) }
  unfold Builtin.List.listExtendWith
  have ho' : (s.heap.push (seqObj "list" #[] 0)).get? l = some o := Heap.get?_push_of_some _ ho
  refine wpAny_bind (wpAny_typeOf (T := "tuple") ⟨o, ho', hc⟩ ?_)
  have ht : (Value.type "tuple" == Value.type "tuple") = true := by rfl
  rw [if_pos (by rw [ht]; simp)]
  refine wpAny_bind (listItems_at ho' hd ?_)
  refine wpAny_bind (listItems_at (xs := #[]) (n := 0) (Heap.get?_push_size _ rfl) rfl ?_)
  rw [if_neg (by simp)]
  refine wpAny_bind (listUpdate_at (xs := #[]) (n := 0) (Heap.get?_push_size _ rfl) rfl ?_ (Nat.zero_le _) (by show (#[] ++ vs.toArray).size ≤ sizeLine + 1; simp only [Array.size_append, List.size_toArray, List.length_nil]; omega))
  refine wpAny_pure ?_
  show wpAny (model prog w) A (do
      let o ← load s.heap.objs.size
      match o.data with
      | .seq xs _ => pure xs.toList
      | _ => unsupported "internal:collect") Q E { s with heap := (s.heap.push (seqObj "list" #[] 0)).update s.heap.objs.size (Obj.mapSeq (· ++ vs.toArray)) }
  refine wpAny_bind (wpAny_load (get?_update_seq (Heap.get?_push_size _ rfl) _) ?_)
  show wpAny _ _ (pure ((#[] : Array Value) ++ vs.toArray).toList) Q E _
  rw [show ((#[] : Array Value) ++ vs.toArray).toList = vs by simp]
  exact wpAny_pure h
open SrtO in
theorem sorted_ordT {l : Addr} {vs : List Value} {ltv : Value → Value → Bool} {Q : Value → Shared → Prop} (O : Swo ltv) (hl : IsTup s.heap l vs.toArray) (hz : vs.length ≤ sizeLine)
    (hS : 2 ≤ vs.length → ∀ (h₁ : Heap) (a : Addr), h₁.get? a = some (seqObj "list" vs.toArray 0) → (∀ b o, s.heap.get? b = some o → b ≠ a ∧ h₁.get? b = some o) → SortableO prog w A.in1.in1 { s with heap := h₁ } a vs ltv)
    (h : ∀ out : List Value, Srtd ltv out → Stb ltv out vs → Q (.ref (s.heap.objs.size + 1)) { s with heap := sortedAll s.heap vs out.toArray }) :
    wpAny (model prog w) A (call (.builtin "sorted") [.ref l]) Q E s := by
  refine Calls.call_function_entry kind_sorted plain_sorted entry_sorted (args_sorted1 _) ?_
  unfold Builtin.«sorted»
  refine wpAny_bind (m := checkCount "sorted" 1 1 _) (wpAny_pure ?_)
  refine wpAny_bind (collect_tup hl ?_ hz)
  refine wpAny_bind (wpAny_newList ?_ hz)
  have hsz : ((s.heap.push (seqObj "list" #[] 0)).update s.heap.objs.size (Obj.mapSeq (· ++ vs.toArray))).objs.size = s.heap.objs.size + 1 := by
    rw [Heap.size_update, size_push']
  have hoL : (((s.heap.push (seqObj "list" #[] 0)).update s.heap.objs.size (Obj.mapSeq (· ++ vs.toArray))).push (seqObj "list" vs.toArray 0)).get? (s.heap.objs.size + 1) = some (seqObj "list" vs.toArray 0) := by
    rw [← hsz]; exact Heap.get?_push_size _ rfl
  have keep : ∀ b o, s.heap.get? b = some o → b ≠ s.heap.objs.size + 1 ∧ (((s.heap.push (seqObj "list" #[] 0)).update s.heap.objs.size (Obj.mapSeq (· ++ vs.toArray))).push (seqObj "list" vs.toArray 0)).get? b = some o := fun b o q => by
    have hlt : b < s.heap.objs.size := Heap.lt_size q
    refine ⟨Nat.ne_of_lt (Nat.lt_succ_of_lt hlt), Heap.get?_push_of_some _ ?_⟩
    rw [Heap.get?_update_ne _ _ _ _ (Nat.ne_of_lt hlt)]
    exact Heap.get?_push_of_some _ q
  show wpAny _ _ _ _ _ { s with heap := ((s.heap.push (seqObj "list" #[] 0)).update s.heap.objs.size (Obj.mapSeq (· ++ vs.toArray))).push (seqObj "list" vs.toArray 0) }
  rw [hsz]
  refine wpAny_bind (wpAny_holding (wpAny_call_entry slot_list_sort ⟨_, hoL, rfl⟩ entry_list_sort (list_sort_ord O hoL hz (fun h2 => hS h2 _ _ hoL keep) fun out hs hb => ⟨_, rfl, ?_⟩) (args_list_sort _)))
  exact wpAny_pure ⟨_, rfl, h out hs hb⟩
end
def rSortT (K : PySem.W.Frag) : List V → Hp → VK → Prop := fun vs H Q => ∃ (a : Addr) (ns : List Int), vs = [V.ref a] ∧ SqT K H a (ns.map V.int) ∧
  ∀ (ns' : List Int) (p : Addr), ns'.Perm ns → ns'.Pairwise (· ≤ ·) → H p = none → Q (.ref p) (upd H p (.lst (ns'.map V.int)))
theorem cr_sortT {X : Cx} : CallR X (.builtin "sorted") (rSortT X.K) := by
  intro pins s σ H vs us Q I r h
  obtain ⟨a, ns, rfl, hs, q⟩ := h
  obtain ⟨its, rv, hl, hz⟩ := I.tuple hs
  rw [Vals.ref1 r]
  have hi := rv.ints
  refine sorted_ordT SrtO.swo_int hl (by rw [← rv.length]; exact hz) (fun h2 h₁ a' _ _ => SrtO.ints_sortable hi h2) fun out h1 h2 => ?_
  obtain ⟨k1, k2, k3⟩ := SrtO.ints_out hi h1 h2
  obtain ⟨ep, he'⟩ := PyProof.Rows.sortedAll_at s.heap its out.toArray
  have hlen : ((out.map SrtO.iv).map V.int).length ≤ sizeLine := by
    rw [List.length_map, k2.length_eq]
    rw [List.length_map] at hz
    exact hz
  exact ⟨.ref _, upd H (s.heap.objs.size + 1) (.lst ((out.map SrtO.iv).map V.int)), I.laid (t' := s.toks) (fun _ _ => PyProof.Rows.sortedAll_old) (Nat.le_succ _) ⟨hlen, out, ep, vals_of_ints k1, he'⟩, rfl, q _ _ k2 k3 (I.hok.fresh (Nat.le_succ _))⟩
def fSortT : List D → (Sl → Prop) → Prop
  | [.tup ds], Q => ∃ ns : List Int, ds = ns.map D.int ∧ ∀ (ns' : List Int) (a : Addr), ns'.Perm ns → ns'.Pairwise (· ≤ ·) → Q (.lst a (ns'.map D.int))
  | _, _ => False
theorem b_sortT : BR "sorted" fSortT := ⟨fun _ _ K => rSortT K, fun _ _ K F H vs ds Q R fh hr hf ha => by
    unfold fSortT at hf
    split at hf
    · obtain ⟨v, rfl, r⟩ := hr.one
      obtain ⟨ns, rfl, q⟩ := hf
      obtain ⟨a, vs, rfl, e1, _, r1⟩ := r.tup fh
      have z := r1.ints
      subst z
      exact ⟨a, ns, rfl, e1, fun ns' p h1 h2 n => ha.lst fh n (Reps.of_ints ns') (q ns' p h1 h2)⟩
    · exact hf.elim, fun X _ _ => cr_sortT⟩
end HD
namespace HD
open PySem PyProof.Rows L2
open PySem.W (AlikeAll minD dataLt min_list_data readsAll_at keyToks keyToksAll)
abbrev pD (p : Int × Int) : D := .tup [.int p.1, .int p.2]
theorem lt_pair (a b c d : Int) : dataLt (.tuple [.int a, .int b]) (.tuple [.int c, .int d]) = decide (a < c ∨ (a = c ∧ b < d)) := by
  have key : dataLt (.tuple [.int a, .int b]) (.tuple [.int c, .int d]) = (decide (a < c) || (!decide (c < a) && (decide (b < d) || (!decide (d < b) && false)))) := by
    unfold dataLt keyToks keyToksAll keyToks keyToksAll keyToks keyToksAll
    simp only [List.cons_append, List.nil_append, lex_cons, PyProof.Rows.lexLt]
    show ((decide ((1 : Int) < 1)) || (!decide ((1 : Int) < 1) && (decide (a < c) || (!decide (c < a) && ((decide ((1 : Int) < 1)) || (!decide ((1 : Int) < 1) && (decide (b < d) || (!decide (d < b) && (decide ((0 : Int) < 0) || (!decide ((0 : Int) < 0) && false)))))))))) = _
    simp
  rw [key, Bool.eq_iff_iff]
  simp only [Bool.or_eq_true, Bool.and_eq_true, Bool.not_eq_true', decide_eq_true_eq, decide_eq_false_iff_not, Bool.and_false, Bool.or_false]
  omega
def lxP (p q : Int × Int) : Prop := p.1 < q.1 ∨ (p.1 = q.1 ∧ p.2 ≤ q.2)
def fMinP : List D → (Sl → Prop) → Prop
  | [.lst ds], Q => ∃ ps : List (Int × Int), ds = ps.map pD ∧ ps ≠ [] ∧ ∀ p ∈ ps, (∀ q ∈ ps, lxP p q) → Q (.ext (pD p))
  | _, _ => False
end HD
namespace HD
open PySem PyProof.Rows L2
section
variable {G : GG} {N : List Str} {sc : SC} {k : Nat} {b : Expr} {tb : DT} {apos cpos py : Pos} {x : Str}
def dRemove (i : Nat) (t : DT) : DT := fun Ex env Q => (∃ a ds, env[i]? = some (.lst a ds)) ∧ t Ex env fun x env1 => ∃ (a : Addr) (ns : List Int) (n : Int) (j : Nat), x = .ext (.int n) ∧ env1[i]? = some (.lst a (ns.map D.int)) ∧ ns[j]? = some n ∧ (∀ m, m < j → ns[m]? ≠ some n) ∧ Q (.ext .non) (env1.set i (.lst a ((ns.eraseIdx j).map D.int)))
end
theorem sw_cell {env : Env} {elt : Expr} {gens : List Comprehension} {scope : Scope} {pos py : Pos} {y : Str} {line : Nat} (h : env.scope.names.lookup y = some .cell) : swapsWith (.ListComp elt gens scope pos) (some (.Name y py)) line env = pure false := by
  have e : env.kindOf y = some .cell := h
  show (pure (env.blockKind == .function && env.kindOf y == some .local && py.line == pos.line && !(scope.names.any fun (n, k) => n == y && (k == .local || k == .cell))) : Sem Bool) = pure false
  rw [e]
  have f : ((some NameKind.cell : Option NameKind) == some .local) = false := by decide
  rw [f, Bool.and_false, Bool.false_and, Bool.false_and]
end HD
namespace HD
theorem hxb : True := True.intro
end HD
namespace HD
open PySem PyProof.Rows L2
abbrev tkI (P : Program) (w : World) : HeapKind P w (List Int) := tupleKind (PySem.intKind P w)
abbrev KB := List (List Int × Addr × V)
def PX (kbs : KB) (xs : List (List Int × Addr × Value)) : Prop := Paired (fun x y => x.1 = y.1 ∧ x.2.1 = y.2.1 ∧ RelV x.2.2 y.2.2) kbs xs
theorem px_to : ∀ {kbs : KB} {xs : List (List Int × Addr × Value)}, PX kbs xs → ∃ us, Vals (kbs.map (·.2.2)) us ∧ xs = (kbs.zip us).map fun x => (x.1.1, x.1.2.1, x.2)
  | [], _, h => by
    cases h
    exact ⟨[], .nil, rfl⟩
  | x :: kbs, _, h => by
    cases h with
    | @cons _ y _ _ r t =>
      obtain ⟨us, h1, rfl⟩ := px_to t
      refine ⟨y.2.2 :: us, .cons r.2.2 h1, ?_⟩
      obtain ⟨y1, y2, y3⟩ := y
      obtain ⟨r1, r2, r3⟩ := r
      rw [List.zip_cons_cons, List.map_cons]
      show _ = (x.1, x.2.1, y3) :: _
      rw [show x.1 = y1 from r1, show x.2.1 = y2 from r2]
abbrev kvB (kbs : KB) : List (List Int × V) := kbs.map fun x => (x.1, x.2.2)
section
variable {P : Program} {w : World} {H : Hp} {h h' : Heap} {a : Addr} {kbs : KB}
theorem dtO_mk (z : kbs.length ≤ sizeLine) (hs : (a == sysModules) = false) (nd : (kbs.map (·.1)).Nodup) {xs : List (List Int × Addr × Value)} (px : PX kbs xs) {o : Obj} {es : Array DictEntry} {ep : Nat} (ho : h.get? a = some o) (hc : o.ExactDict) (hd : o.data = .dict es ep)
    (he : es.toList = xs.map (entryOfKey (tkI P w))) : ObjOk P w H h a (dtO a kbs) := by
  obtain ⟨us, h1, rfl⟩ := px_to px
  refine ⟨⟨z, hs, nd, us, o, es, ep, h1, ho, hc, hd, ?_⟩, ⟨o, ho⟩, fun h1 h2 ⟨a1, a2, a3, us, o, es, ep, b1, b2, b3, b4, b5⟩ k => ⟨a1, a2, a3, us, o, es, ep, b1, k o b2, b3, b4, b5⟩⟩
  rw [he, List.map_map]
  rfl
end
section
variable {X : Cx} {pins : List (Addr × Obj)} {σ : L2.St} {H : Hp} {s : Shared} {a b : Addr} {kbs : KB} {ks : List Int}
def KeysOk (K : PySem.W.Frag) (H : Hp) (kbs : KB) : Prop := ∀ x ∈ kbs, TupD K H x.2.1 (x.1.map V.int)
end
section
variable {X : Cx} {o i e value : Expr} {pos pos' tpos : Pos} {td ty tv : TE}
def tTNew : TE := fun _ H Q => ∀ p, H p = none → Q (.ref p) (upd H p (dtO p []))
theorem pe_tnew : PE X (.Dict [] [] pos) tTNew := ⟨fun pins s σ H Q I h =>
  wpAny_Dict_empty ⟨.ref s.heap.objs.size, _, I.laid (a := s.heap.objs.size) (o := dtO s.heap.objs.size []) (t' := s.toks) (fun _ _ q => Heap.get?_push_of_some _ q) (Nat.le_refl _)
    (dtO_mk (Nat.zero_le _) (beq_eq_false_iff_ne.mpr (Ne.symm (Nat.ne_of_lt I.big))) List.nodup_nil (xs := []) .nil (Heap.get?_push_size _ rfl) ⟨rfl, rfl, rfl⟩ rfl rfl), rfl, h _ (I.hok.fresh (Nat.le_refl _))⟩⟩
end
section
variable {K : PySem.W.Frag} {F : Hp}
def EntT (K : PySem.W.Frag) (F : Hp) (kvs : List (List Int × D)) (kbs : KB) : Prop := Ents K F kvs (kvB kbs) ∧ KeysOk K F kbs
theorem EntT.nil : EntT K F [] [] := ⟨Ents.nil, fun x hx => nomatch hx⟩
abbrev dtS (a : Addr) (kvs : List (List Int × D)) : Sl := .reg (.val (.ref a)) [(a, .dt kvs)]
abbrev dtD (kvs : List (List Int × D)) : D := .dt (kvs.map (·.1)) (kvs.map (·.2))
abbrev kT (k : List Int) : D := .tup (k.map D.int)
theorem entT_iff {kvs : List (List Int × D)} {kbs : KB} : EntT K F kvs kbs ↔ kbs.map (·.1) = kvs.map (·.1) ∧ (∀ x ∈ kbs, TupD K F x.2.1 (x.1.map V.int)) ∧ Reps K F (kvs.map (·.2)) (kbs.map (·.2.2)) := by
  unfold EntT Ents KeysOk
  rw [kvB, List.map_map, List.map_map]
  exact ⟨fun h => ⟨h.1.1, h.2, h.1.2⟩, fun h => ⟨⟨h.1, h.2.2⟩, h.2.1⟩⟩
theorem dt_ok {H : Hp} {v : V} {a : Addr} {kvs : List (List Int × D)} : SlOk K F H v (dtS a kvs) ↔ v = .ref a ∧ F a = none ∧ ∃ kbs, H a = some (dtO a kbs) ∧ EntT K F kvs kbs := by
  constructor
  · rintro ⟨h1, _, h3⟩
    obtain ⟨n, o, ho, kbs, rfl, r1, r2, r3⟩ := h3 (a, .dt kvs) List.mem_cons_self
    exact ⟨h1, n, kbs, ho, entT_iff.2 ⟨r1, r2, r3⟩⟩
  · rintro ⟨h1, h2, kbs, h3, h4⟩
    obtain ⟨r1, r2, r3⟩ := entT_iff.1 h4
    refine ⟨h1, List.pairwise_singleton _ _, fun p hp => ?_⟩
    rw [List.mem_singleton.mp hp]
    exact ⟨h2, _, h3, kbs, rfl, r1, r2, r3⟩
def dtAt (env : Env') (i : Nat) (kvs : List (List Int × D)) : Prop := (∃ a, env[i]? = some (dtS a kvs)) ∨ env[i]? = some (.ext (dtD kvs))
end
section
variable {G : GG} {N : List Str} {sc : SC} {k : Nat} {a b : Expr} {ta tb : DT} {py pos spos apos cpos : Pos} {x : Str}
def dDInT (neg : Bool) (i : Nat) (t : DT) : DT := fun Ex env Q => t Ex env fun x env1 => ∃ key kvs, x = .ext (kT key) ∧ dtAt env1 i kvs ∧ Q (.ext (.bl (neg != (luK kvs key).isSome))) env1
def dDGetT (i : Nat) (t : DT) : DT := fun Ex env Q => (∃ kvs, dtAt env i kvs) ∧ t Ex env fun x env1 => ∃ key kvs d, x = .ext (kT key) ∧ dtAt env1 i kvs ∧ luK kvs key = some d ∧ Q (.ext d) env1
def sPutDT (i : Nat) (tk tv : DT) : DTS := fun Ex E env => tv Ex env fun y env0 => frzD env0 y fun d env1 => (∃ a kvs, env1[i]? = some (dtS a kvs)) ∧ tk Ex env1 fun x env2 => ∃ a kvs key, env2[i]? = some (dtS a kvs) ∧ x = .ext (kT key) ∧ kvs.length < sizeLine ∧ E.nx (env2.set i (dtS a (ptK kvs key d)))
def dDNewT : DT := fun _ env Q => ∀ a, Q (dtS a []) env
theorem de_dnewT : DE G N sc k (.Dict [] [] pos) dDNewT := ⟨fun W => ⟨tTNew, fun X S => pe_tnew, fun e Ex hl env T F σ H Q R hh ht hR p hp => by
  refine hR _ _ F env (dtS p []) (hh.push (Grow.loose hh.fh hp) (dt_ok.2 ⟨rfl, hh.fh.free hp, [], upd_same, .nil⟩) fun c hc => ?_) (ht p)
  rw [List.mem_singleton.mp hc]
  exact hp⟩⟩
def sSealDT (i : Nat) (t : DTS) : DTS := fun Ex E env => ∃ a kvs, env[i]? = some (dtS a kvs) ∧ t Ex E (env.set i (.ext (dtD kvs)))
end
end HD
namespace HD
open PySem PyProof.Rows L2
def keyST (x : Sl) (q : List (List Int) → Prop) : Prop := match x with
  | .ext (.dt ks _) => q ks
  | _ => False
theorem keyST_dt (ks : List (List Int)) (ds : List D) (q : List (List Int) → Prop) : keyST (.ext (.dt ks ds)) q = q ks := rfl
def dKeysT (t : DT) : DTI := fun Ex env Q => t Ex env fun x env1 => keyST x fun ks => Q (ks.map kT) (fun _ => True) env1
end HD
namespace HD
open PySem PyProof.Rows L2
open PySem.W (dataLt keyToks keyToksAll dataLe EachIs AllAlike Sortable list_sort_data KdlSrc kdl_extend kdl_hint_dict alike alikeAll)
theorem toks_ints : ∀ ns ms : List Int, PyProof.Rows.lexLt itemOrd (keyToksAll (ns.map PyData.int)) (keyToksAll (ms.map PyData.int)) = HT.lexLt ns ms
  | [], [] => by
    show PyProof.Rows.lexLt itemOrd [Sum.inl 0] [Sum.inl 0] = false
    decide
  | [], m :: ms => by
    show PyProof.Rows.lexLt itemOrd [Sum.inl 0] (Sum.inl 1 :: _) = true
    rw [lex_cons]
    show (decide ((0 : Int) < 1) || _) = true
    rfl
  | n :: ns, [] => by
    show PyProof.Rows.lexLt itemOrd (Sum.inl 1 :: _) [Sum.inl 0] = false
    rw [lex_cons]
    show (decide ((1 : Int) < 0) || (!decide ((0 : Int) < 1) && _)) = false
    rfl
  | n :: ns, m :: ms => by
    show PyProof.Rows.lexLt itemOrd (Sum.inl 1 :: Sum.inl n :: keyToksAll (ns.map PyData.int)) (Sum.inl 1 :: Sum.inl m :: keyToksAll (ms.map PyData.int)) = _
    rw [lex_cons, lex_cons, toks_ints ns ms, HT.lexLt_cons]
    show (decide ((1 : Int) < 1) || (!decide ((1 : Int) < 1) && (decide (n < m) || (!decide (m < n) && HT.lexLt ns ms)))) = _
    have e1 : decide ((1 : Int) < 1) = false := by decide
    rw [e1, Bool.false_or, Bool.not_false, Bool.true_and]
    by_cases e : n = m
    · subst e
      rw [if_pos rfl, decide_eq_false (Int.lt_irrefl n), Bool.false_or, Bool.not_false, Bool.true_and]
    · rw [if_neg e]
      by_cases h : n < m
      · rw [decide_eq_true h, Bool.true_or]
      · rw [decide_eq_false h, decide_eq_true (show m < n by omega)]
        rfl
abbrev tI (k : List Int) : PyData := .tuple (k.map PyData.int)
theorem alike_ints : ∀ ns ms : List Int, alikeAll (ns.map PyData.int) (ms.map PyData.int) = true
  | [], _ => rfl
  | _ :: _, [] => rfl
  | n :: ns, m :: ms => by
    show (alike (.int n) (.int m) && alikeAll (ns.map PyData.int) (ms.map PyData.int)) = true
    rw [alike_ints ns ms]
    rfl
section
variable {prog : Program} {w : World} {A : Around} {E : Value → Shared → Prop} {s : Shared}
theorem depth_all : ∀ k : List Int, PyData.depthAll (k.map PyData.int) = 0
  | [] => rfl
  | n :: k => by
    show max 0 (PyData.depthAll (k.map PyData.int)) = 0
    rw [depth_all k]
    rfl
theorem depth_ints (k : List Int) : (tI k).depth ≤ 1 := by
  show PyData.depthAll (k.map PyData.int) + 1 ≤ 1
  rw [depth_all]
  exact Nat.le_refl _
end
theorem tup_reads {X : Cx} {pins : List (Addr × Obj)} {σ : L2.St} {H : Hp} {s : Shared} {b : Addr} {ks : List Int} (I : Inv X pins σ H s) (h : TupD X.K H b (ks.map V.int)) : ∃ as, Reads s.heap (.ref b) (tI ks) as := by
  refine Dp.reads I _ (.ref b) (.ref b) (.tup h.sq ?_) rfl
  clear h
  induction ks with
  | nil => exact .nil
  | cons k ks ih => exact .cons (.int k) ih
def LxK (ks : List (List Int)) : Prop := ks.Pairwise fun a b => HT.lexLt b a = false
def fSortK : List D → (Sl → Prop) → Prop
  | [.dt ks _], Q => (ks.length ≤ 1 ∨ ∀ k ∈ ks, k ≠ []) ∧ ∀ (ks' : List (List Int)) (a : Addr), ks'.Perm ks → LxK ks' → Q (.lst a (ks'.map kT))
  | _, _ => False
theorem seq_putDT (i : Nat) (tk tv : DT) (u : DTS) (Ex : DX) (E : DEnds) (env : Env') : sSeq (sPutDT i tk tv) u Ex E env = sPutDT i tk tv Ex { E with nx := fun env1 => u Ex E env1 } env := rfl
theorem seq_sealDT (i : Nat) (t u : DTS) (Ex : DX) (E : DEnds) (env : Env') : sSeq (sSealDT i t) u Ex E env = sSealDT i t Ex { E with nx := fun env1 => u Ex E env1 } env := rfl
end HD
namespace HD
open PySem PyProof.Rows L2
section
variable {X : Cx} {a b c d : Expr} {ta tb tc td : TE} {pos : Pos}
def tChain3 (r r' r'' : R2) (ta tb tc td : TE) : TE := fun σ H Q => ta σ H fun x H1 => tb σ H1 fun y H2 => r x y H2 fun z H3 => ∃ k, z = .bl k ∧
  (if k = true then tc σ H3 fun w H4 => r' y w H4 fun z' H5 => ∃ k', z' = .bl k' ∧ (if k' = true then td σ H5 fun v H6 => r'' w v H6 Q else Q (.bl false) H5) else Q (.bl false) H3)
theorem pe_chain3 {op op' op'' : CmpOp} {r r' r'' : R2} (ho : OpR X (compareOp op) r) (ho' : OpR X (compareOp op') r') (ho'' : OpR X (compareOp op'') r'') (ha : PE X a ta) (hb : PE X b tb) (hc : PE X c tc) (hd : PE X d td)
    (hm : lastMarks [op, op', op''] [b, c, d] = false := by with_unfolding_all rfl) : PE X (.Compare a [op, op', op''] [b, c, d] pos) (tChain3 r r' r'' ta tb tc td) := by
  refine ⟨fun pins s σ H Q I h => ?_⟩
  refine Compare_chain (thn (ha.run pins s σ H _ I h) fun v s1 ⟨x, H1, I1, r1, q1⟩ => chain_link (thn (hb.run pins s1 σ H1 _ I1 q1) fun u s2 ⟨y, H2, I2, r2, q2⟩ =>
    thn (ho pins s2 σ H2 x y v u _ I2 r1 r2 q2) fun d s3 ⟨z, H3, I3, r3, k, e, q3⟩ => ?_)) hm
  subst e
  cases r3
  refine wpAny_truthy_bool ?_
  cases k with
  | false => exact ite_ff ⟨.bl false, H3, I3, rfl, q3⟩
  | true =>
    refine ite_tt (chain_link (thn (hc.run pins s3 σ H3 _ I3 q3) fun w' s4 ⟨z', H4, I4, r4, q4⟩ => thn (ho' pins s4 σ H4 y z' u w' _ I4 r2 r4 q4) fun d' s5 ⟨z2, H5, I5, r5, k2, e2, q5⟩ => ?_))
    subst e2
    cases r5
    refine wpAny_truthy_bool ?_
    cases k2 with
    | false => exact ite_ff ⟨.bl false, H5, I5, rfl, q5⟩
    | true => exact ite_tt (chain_last (thn (hd.run pins s5 σ H5 _ I5 q5) fun w2 s6 ⟨z3, H6, I6, r6, q6⟩ => ho'' pins s6 σ H6 z' z3 w' w2 Q I6 r4 r6 q6))
end
section
variable {G : GG} {N : List Str} {sc : SC} {k : Nat} {a b c d : Expr} {ta tb tc td : DT} {pos : Pos}
def dChain3 (f f' f'' : D → D → (Sl → Prop) → Prop) (ta tb tc td : DT) : DT := fun Ex env Q => ta Ex env fun x env1 => tb Ex env1 fun y env2 => wd env2 x fun d => wd env2 y fun d' => f d d' fun z =>
  BlS z (fun b => if b = true then (tc Ex env2 fun w env3 => wd env3 y fun d1 => wd env3 w fun d2 => f' d1 d2 fun z' => BlS z' (fun b' => if b' = true then (td Ex env3 fun v env4 => wd env4 w fun d3 => wd env4 v fun d4 => f'' d3 d4 fun sl => Q sl env4) else Q (.ext (.bl false)) env3) .mk) else Q (.ext (.bl false)) env2) .mk
theorem bls {z : Sl} {k : Bool → Prop} {t : Tok k} (h : BlS z k t) : ∃ b, z = .ext (.bl b) ∧ k b := by
  unfold BlS at h
  split at h
  · exact ⟨_, rfl, h⟩
  · exact h.elim
theorem de_chain3 {op op' op'' : CmpOp} {f f' f'' : D → D → (Sl → Prop) → Prop} (hr : CmpR op f) (hr' : CmpR op' f') (hr'' : CmpR op'' f'') (ha : DE G N sc k a ta) (hb : DE G N sc k b tb) (hc : DE G N sc k c tc) (hd : DE G N sc k d td)
    (hm : lastMarks [op, op', op''] [b, c, d] = false := by with_unfolding_all rfl) : DE G N sc k (.Compare a [op, op', op''] [b, c, d] pos) (dChain3 f f' f'' ta tb tc td) :=
  ⟨fun W => by
    obtain ⟨r, h1, h2⟩ := hr
    obtain ⟨r', h1', h2'⟩ := hr'
    obtain ⟨r'', h1'', h2''⟩ := hr''
    obtain ⟨te, p1, i1⟩ := ha.ex W
    obtain ⟨tf, p2, i2⟩ := hb.ex W
    obtain ⟨tg, p3, i3⟩ := hc.ex W
    obtain ⟨tw, p4, i4⟩ := hd.ex W
    refine ⟨tChain3 (r G.K) (r' G.K) (r'' G.K) te tf tg tw, fun X S => pe_chain3 (by rw [← S.K]; exact h2 X S.units) (by rw [← S.K]; exact h2' X S.units) (by rw [← S.K]; exact h2'' X S.units) (p1 X S) (p2 X S) (p3 X S) (p4 X S) hm, fun e Ex hl env T F σ H Q R hh ht hR => ?_⟩
    refine i1 e Ex hl env T F σ H _ _ hh ht fun v H1 F1 env1 x hh1 q1 => ?_
    refine i2 e Ex hl env1 _ F1 σ H1 _ _ hh1 q1 fun u H2 F2 env2 y hh2 q2 => ?_
    obtain ⟨d, rd, q3⟩ := hh2.wd (v := v) (sl := x) (List.mem_cons_of_mem _ List.mem_cons_self) q2
    obtain ⟨d', rd', q4⟩ := hh2.wd (v := u) (sl := y) List.mem_cons_self q3
    refine h1 _ F2 H2 v u d d' _ _ hh2.fh rd rd' q4 fun z F3 H3 sl g ok own q5 => ?_
    obtain ⟨bb, e5, q5'⟩ := bls q5
    subst e5
    clear q5
    have hh3 := hh2.push g ok own
    refine ⟨bb, hh3.temps (z, .ext (.bl bb)) List.mem_cons_self, ?_⟩
    cases bb with
    | false =>
      rw [if_neg Bool.false_ne_true] at q5' ⊢
      exact hR (.bl false) H3 F3 env2 (.ext (.bl false)) (hh3.pop.pop.pop.pushE rfl) q5'
    | true =>
      rw [if_pos rfl] at q5' ⊢
      refine i3 e Ex hl env2 _ F3 σ H3 _ _ hh3.pop q5' fun w H4 F4 env4 x4 hh4 q6 => ?_
      obtain ⟨d1, rd1, q7⟩ := hh4.wd (v := u) (sl := y) (List.mem_cons_of_mem _ List.mem_cons_self) q6
      obtain ⟨d2, rd2, q8⟩ := hh4.wd (v := w) (sl := x4) List.mem_cons_self q7
      refine h1' _ F4 H4 u w d1 d2 _ _ hh4.fh rd1 rd2 q8 fun z' F5 H5 sl' g' ok' own' q9 => ?_
      obtain ⟨b2, e9, q9'⟩ := bls q9
      subst e9
      clear q9
      have hh5 := hh4.push g' ok' own'
      refine ⟨b2, hh5.temps (z', .ext (.bl b2)) List.mem_cons_self, ?_⟩
      cases b2 with
      | false =>
        rw [if_neg Bool.false_ne_true] at q9' ⊢
        exact hR (.bl false) H5 F5 env4 (.ext (.bl false)) (hh5.pop.pop.pop.pop.pushE rfl) q9'
      | true =>
        rw [if_pos rfl] at q9' ⊢
        refine i4 e Ex hl env4 _ F5 σ H5 _ _ hh5.pop q9' fun t H6 F6 env6 x6 hh6 q10 => ?_
        obtain ⟨d3, rd3, q11⟩ := hh6.wd (v := w) (sl := x4) (List.mem_cons_of_mem _ List.mem_cons_self) q10
        obtain ⟨d4, rd4, q12⟩ := hh6.wd (v := t) (sl := x6) List.mem_cons_self q11
        exact h1'' _ F6 H6 w t d3 d4 _ R hh6.fh rd3 rd4 q12 (hh6.pop.pop.pop.pop.done hR)⟩
end
def rGeT (K : PySem.W.Frag) : R2 := fun x y H Q => ∃ (a b : Addr) (ns ms : List Int), x = .ref a ∧ y = .ref b ∧ TupD K H a (ns.map V.int) ∧ TupD K H b (ms.map V.int) ∧ Q (.bl (!HT.lexLt ns ms)) H
theorem op_geT {X : Cx} (hu : X.A.units + 64 < cLine) : OpR X (compareOp .GtE) (rGeT X.K) := by
  intro pins s σ H x y v u Q I rx ry h
  obtain ⟨a, b, ns, ms, rfl, rfl, ha, hb, q⟩ := h
  cases rx
  cases ry
  obtain ⟨as, ra⟩ := tup_reads I ha
  obtain ⟨bs, rb⟩ := tup_reads I hb
  have hdp := depth_ints ns
  refine PySem.W.ge_data ra rb (alike_ints ns ms) (fun z => by cases z) ?_ ?_
  · have : min (tI ns).depth (tI ms).depth ≤ (tI ns).depth := Nat.min_le_left _ _
    omega
  · have e : PySem.W.dataLt (tI ns) (tI ms) = HT.lexLt ns ms := toks_ints ns ms
    rw [e]
    exact ⟨.bl (!HT.lexLt ns ms), H, I, rfl, q⟩
def fGeT : D → D → (Sl → Prop) → Prop
  | .tup xs, .tup ys, Q => ∃ ns ms : List Int, xs = ns.map D.int ∧ ys = ms.map D.int ∧ Q (.ext (.bl (!HT.lexLt ns ms)))
  | _, _, _ => False
theorem c_geT : CmpR .GtE fGeT := ⟨fun K => rGeT K, fun K F H v u d d' Q R fh r1 r2 h ha => by
    cases d <;> try exact h.elim
    cases d' <;> try exact h.elim
    obtain ⟨ns, ms, rfl, rfl, q⟩ := h
    obtain ⟨a, vs, rfl, _, e1, p1⟩ := r1.tup fh
    obtain ⟨b, us, rfl, _, e2, p2⟩ := r2.tup fh
    have z1 := p1.ints
    have z2 := p2.ints
    subst z1
    subst z2
    exact ⟨a, b, ns, ms, rfl, rfl, TupD.same fh e1, TupD.same fh e2, ha.bl fh q⟩, fun X hu => op_geT hu⟩
end HD
namespace HD
open PySem PyProof.Rows L2
section
variable {G : GG} {N : List Str} {sc : SC} {k : Nat} {a : Expr} {ta : DT} {p p2 pos pos2 : Pos}
def dSortSetB (t : DT) : DT := fun Ex env Q => t Ex env fun x env1 => wd env1 x fun d => match d with
  | .lst ds => ∃ ns : List Int, ds = ns.map D.int ∧ ns.length < 3000 ∧ (∀ n ∈ ns, 0 ≤ n ∧ n < 60) ∧ ∀ (ns' : List Int) (b : Addr), ns'.Pairwise (· < ·) → (∀ n : Int, n ∈ ns' ↔ n ∈ ns) → Q (.lst b (ns'.map D.int)) env1
  | _ => False
end
end HD
namespace HD
open PySem L2
abbrev Cells := List (Addr × OC)
def putC (cs : Cells) (b : Addr) (oc : OC) : Cells := cs.map fun p => if p.1 = b then (b, oc) else p
theorem putC_keys (cs : Cells) (b : Addr) (oc : OC) : (putC cs b oc).map (·.1) = cs.map (·.1) := by
  unfold putC
  rw [List.map_map]
  refine List.map_congr_left fun p _ => ?_
  show (if p.1 = b then (b, oc) else p).1 = p.1
  split
  · rename_i h
    exact h.symm
  · rfl
section
variable {K : PySem.W.Frag} {e : Ent} {env env' : Env'} {T T' : Tmp} {F : Hp} {σ : L2.St} {H : Hp}
theorem cells_write {v : V} {d : D} {cs : Cells} {b : Addr} {oc : OC} {o : HO} (h : SlOk K F H v (.reg d cs)) (ok : OC.ok K F b oc o) : SlOk K F (upd H b o) v (.reg d (putC cs b oc)) := by
  obtain ⟨h1, h2, h3⟩ := h
  refine ⟨h1, by rw [putC_keys]; exact h2, fun p hp => ?_⟩
  obtain ⟨q, hq, rfl⟩ := List.mem_map.1 hp
  obtain ⟨n, o', ho, okc⟩ := h3 q hq
  show F (if q.1 = b then (b, oc) else q).1 = none ∧ ∃ o1, upd H b o (if q.1 = b then (b, oc) else q).1 = some o1 ∧ OC.ok K F (if q.1 = b then (b, oc) else q).1 (if q.1 = b then (b, oc) else q).2 o1
  split
  · rename_i z
    exact ⟨by rw [← z]; exact n, o, upd_same, ok⟩
  · rename_i z
    exact ⟨n, o', by rw [upd_ne z]; exact ho, okc⟩
theorem Holds.cellW {i : Nat} {d : D} {cs : Cells} {b : Addr} {oc : OC} {o : HO} (h : Holds K e env T F σ H) (hi : env[i]? = some (.reg d cs)) (hb : b ∈ cs.map (·.1)) (ok : OC.ok K F b oc o) : Holds K e (env.set i (.reg d (putC cs b oc))) T F σ (upd H b o) :=
  h.writeR hi hb (putC_keys cs b oc) (fun v z => cells_write z ok) (fun z => nomatch z)
theorem cellOf_key {cs : Cells} {b : Addr} {oc : OC} (h : cellOf cs b = some oc) : b ∈ cs.map (·.1) := List.mem_map.2 ⟨(b, oc), cellOf_mem h, rfl⟩
theorem Holds.regroup (h : Holds K e env T F σ H) (len : env'.length = σ.length) (slots : ∀ (i : Nat) sl, env'[i]? = some sl → sl = .un ∨ ∃ v, σ[i]? = some (some v) ∧ SlOk K F H v sl) (temps : ∀ p ∈ T', SlOk K F H p.1 p.2)
    (nd : (ownedE env' ++ ownedT T').Nodup) (sub : ∀ a ∈ ownedE env' ++ ownedT T', a ∈ ownedE env ++ ownedT T) : Holds K e env' T' F σ H :=
  ⟨h.fh, len, slots, temps, nd, h.s1, h.s2, fun a ha => h.s3 a (sub a ha)⟩
theorem Holds.retemp {v : V} {sl sl' : Sl} (h : Holds K e env ((v, sl) :: T) F σ H) (ok : SlOk K F H v sl') (nd : sl'.owned.Nodup) (sub : ∀ a ∈ sl'.owned, a ∈ sl.owned) : Holds K e env ((v, sl') :: T) F σ H := by
  have h1 : (ownedE env ++ (sl.owned ++ ownedT T)).Nodup := h.nd
  obtain ⟨n1, n2, n3⟩ := List.nodup_append.mp h1
  obtain ⟨n4, n5, n6⟩ := List.nodup_append.mp n2
  refine h.regroup h.len h.slots (fun p hp => ?_) ?_ (fun a ha => ?_)
  · rcases List.mem_cons.mp hp with rfl | hp
    · exact ok
    · exact h.temps p (List.mem_cons_of_mem _ hp)
  · show (ownedE env ++ (sl'.owned ++ ownedT T)).Nodup
    refine List.nodup_append.mpr ⟨n1, List.nodup_append.mpr ⟨nd, n5, fun a ha b hb => n6 a (sub a ha) b hb⟩, fun a ha b hb => ?_⟩
    rcases List.mem_append.mp hb with hb | hb
    · exact n3 a ha b (List.mem_append_left _ (sub b hb))
    · exact n3 a ha b (List.mem_append_right _ hb)
  · have ha' : a ∈ ownedE env ++ (sl'.owned ++ ownedT T) := ha
    show a ∈ ownedE env ++ (sl.owned ++ ownedT T)
    rcases List.mem_append.mp ha' with hb | hb
    · exact List.mem_append_left _ hb
    · rcases List.mem_append.mp hb with hb | hb
      · exact List.mem_append_right _ (List.mem_append_left _ (sub a hb))
      · exact List.mem_append_right _ (List.mem_append_right _ hb)
theorem Holds.asReg {v : V} {p : Addr} {ds : List D} (h : Holds K e env ((v, .lst p ds) :: T) F σ H) : Holds K e env ((v, .reg (.val (.ref p)) [(p, .lst ds)]) :: T) F σ H := by
  obtain ⟨h1, h2, vs, h3, h4⟩ := h.temps (v, .lst p ds) List.mem_cons_self
  refine h.retemp ⟨h1, List.pairwise_singleton _ _, fun q hq => ?_⟩ (List.pairwise_singleton _ _) fun a ha => ha
  rw [List.mem_singleton.mp hq]
  exact ⟨h2, _, h3, vs, rfl, h4⟩
theorem Holds.extReg {v : V} {d : D} (h : Holds K e env ((v, .ext d) :: T) F σ H) : Holds K e env ((v, .reg d []) :: T) F σ H :=
  h.retemp ⟨h.temps (v, .ext d) List.mem_cons_self, List.nodup_nil, fun q hq => nomatch hq⟩ List.nodup_nil fun a ha => ha
def stoS (fz : Bool) (env : Env') (x : Sl) (k : D → Cells → Env' → Prop) : Prop := match x with
  | .ext d => k d [] env
  | .lst p ds => if fz = true then k (.lst ds) [] env else k (.val (.ref p)) [(p, .lst ds)] env
  | .reg d cs => k d cs env
  | .al i a => match env[i]? with
    | some (.lst b ds) => b = a ∧ k (.lst ds) [] (env.set i (.ext (.lst ds)))
    | _ => False
  | .ar _ _ => False
  | .un => False
theorem Holds.sto {fz : Bool} {v : V} {x : Sl} {k : D → Cells → Env' → Prop} (h : Holds K e env ((v, x) :: T) F σ H) (w : stoS fz env x k) : ∃ d cs F1 env', Same F F1 ∧ Holds K e env' ((v, .reg d cs) :: T) F1 σ H ∧ k d cs env' := by
  cases x with
  | un => exact w.elim
  | ar _ _ => exact w.elim
  | ext d => exact ⟨d, [], F, env, Same.refl _, h.extReg, w⟩
  | reg d cs => exact ⟨d, cs, F, env, Same.refl _, h, w⟩
  | lst p ds =>
    cases fz with
    | true =>
      obtain ⟨F1, sm, h1⟩ := h.freezeT
      exact ⟨.lst ds, [], F1, env, sm, h1.extReg, w⟩
    | false => exact ⟨_, _, F, env, Same.refl _, h.asReg, w⟩
  | al i a =>
    have w' : (match env[i]? with | some (.lst b ds) => b = a ∧ k (.lst ds) [] (env.set i (.ext (.lst ds))) | _ => False) := w
    split at w'
    · rename_i b ds hb
      obtain ⟨rfl, w'⟩ := w'
      have w2 : frzD env (.al i b) fun d env1 => k d [] env1 := by
        show (match env[i]? with | some (.lst c ds) => c = b ∧ k (.lst ds) [] (env.set i (.ext (.lst ds))) | some (.ext (.lst ds)) => False | _ => False)
        rw [hb]
        exact ⟨rfl, w'⟩
      obtain ⟨d, F1, env1, sm, h1, rd, q⟩ := h.frz1 w2
      exact ⟨d, [], F1, env1, sm, (h1.pushE rd).extReg, q⟩
    · exact w'.elim
theorem Holds.absorb {v : V} {i : Nat} {d d2 : D} {cs cs2 : Cells} (h : Holds K e env ((v, .reg d2 cs2) :: T) F σ H) (hi : env[i]? = some (.reg d cs)) :
    (∀ a ∈ cs.map (·.1), a ∉ cs2.map (·.1)) ∧ Rep K F d2 v ∧ Holds K e (env.set i (.reg d (cs ++ cs2))) T F σ H := by
  obtain ⟨A, B, e1, e2⟩ := splitE hi
  have nd : (ownedE env ++ (cs2.map (·.1) ++ ownedT T)).Nodup := h.nd
  have m1 : ∀ a ∈ cs.map (·.1), a ∈ ownedE env := fun a ha => mem_ownedE hi ha
  obtain ⟨n1, n2, n3⟩ := List.nodup_append.mp nd
  have dis : ∀ a ∈ cs.map (·.1), a ∉ cs2.map (·.1) := fun a ha hb => n3 a (m1 a ha) a (List.mem_append_left _ hb) rfl
  obtain ⟨t1, t2, t3⟩ := h.temps (v, .reg d2 cs2) List.mem_cons_self
  have perm : (ownedE env ++ (cs2.map (·.1) ++ ownedT T)).Perm (ownedE (env.set i (.reg d (cs ++ cs2))) ++ ownedT T) := by
    rw [e1, e2]
    show (A ++ (cs.map (·.1) ++ B) ++ (cs2.map (·.1) ++ ownedT T)).Perm (A ++ ((cs ++ cs2).map (·.1) ++ B) ++ ownedT T)
    simp only [List.map_append, List.append_assoc]
    refine List.Perm.append_left A (List.Perm.append_left _ ?_)
    rw [← List.append_assoc, ← List.append_assoc]
    exact List.Perm.append_right _ List.perm_append_comm
  refine ⟨dis, t1, h.regroup (by rw [List.length_set]; exact h.len) (fun j sl q => ?_) (fun p hp => h.temps p (List.mem_cons_of_mem _ hp)) (perm.nodup nd) fun a ha => perm.mem_iff.mpr ha⟩
  rw [List.getElem?_set] at q
  split at q
  · rename_i ij
    subst ij
    split at q
    · cases q
      rcases h.slots i _ hi with z | ⟨w, hw, o1, o2, o3⟩
      · cases z
      · refine .inr ⟨w, hw, o1, ?_, fun p hp => ?_⟩
        · rw [List.map_append]
          exact List.nodup_append.mpr ⟨o2, t2, fun a ha b hb z => dis a ha (z ▸ hb)⟩
        · rcases List.mem_append.mp hp with hp | hp
          · exact o3 p hp
          · exact t3 p hp
    · cases q
  · exact h.slots j sl q
theorem Holds.carve {i : Nat} {d : D} {b : Addr} {cs sub rest : Cells} (h : Holds K e env T F σ H) (hi : env[i]? = some (.reg d cs)) (hp : cs.Perm (sub ++ rest)) : Holds K e (env.set i (.reg d rest)) ((.ref b, .reg (.val (.ref b)) sub) :: T) F σ H := by
  obtain ⟨A, B, e1, e2⟩ := splitE hi
  have pk : (cs.map (·.1)).Perm (sub.map (·.1) ++ rest.map (·.1)) := by
    have := hp.map (·.1)
    rwa [List.map_append] at this
  have perm : (ownedE env ++ ownedT T).Perm (ownedE (env.set i (.reg d rest)) ++ (sub.map (·.1) ++ ownedT T)) := by
    rw [e1, e2]
    show (A ++ (cs.map (·.1) ++ B) ++ ownedT T).Perm (A ++ (rest.map (·.1) ++ B) ++ (sub.map (·.1) ++ ownedT T))
    simp only [List.append_assoc]
    refine List.Perm.append_left A ?_
    refine ((pk.trans List.perm_append_comm).append_right (B ++ ownedT T)).trans ?_
    simp only [List.append_assoc]
    refine List.Perm.append_left _ ?_
    rw [← List.append_assoc, ← List.append_assoc]
    exact List.Perm.append_right _ List.perm_append_comm
  have n : (sub.map (·.1) ++ rest.map (·.1)).Nodup := by
    rcases h.slots i _ hi with z | ⟨w, hw, o1, o2, o3⟩
    · cases z
    · exact pk.nodup o2
  obtain ⟨m1, m2, m3⟩ := List.nodup_append.mp n
  rcases h.slots i _ hi with z | ⟨w, hw, o1, o2, o3⟩
  · cases z
  refine h.regroup (by rw [List.length_set]; exact h.len) (fun j sl q => ?_) (fun p hp' => ?_) (perm.nodup h.nd) fun a ha => perm.mem_iff.mpr ha
  · rw [List.getElem?_set] at q
    split at q
    · rename_i ij
      subst ij
      split at q
      · cases q
        exact .inr ⟨w, hw, o1, m2, fun p hp' => o3 p (hp.mem_iff.mpr (List.mem_append_right _ hp'))⟩
      · cases q
    · exact h.slots j sl q
  · rcases List.mem_cons.mp hp' with rfl | hp'
    · exact ⟨rfl, m1, fun p hp' => o3 p (hp.mem_iff.mpr (List.mem_append_left _ hp'))⟩
    · exact h.temps p hp'
end
end HD
namespace HD
open PySem L2
def cellS (env : Env') (x : Sl) (k : Nat → Addr → D → Cells → OC → Prop) : Prop := match x with
  | .ar i b => match env[i]? with
    | some (.reg d cs) => match cellOf cs b with
      | some oc => k i b d cs oc
      | none => False
    | _ => False
  | _ => False
def ptrD (i : Nat) : D → Sl
  | .val (.ref q) => .ar i q
  | d => .ext d
def lstO (oc : OC) (k : List D → Prop) : Prop := match oc with
  | .lst ds => k ds
  | _ => False
def insO (oc : OC) (k : Str → Addr → List (Str × D) → Prop) : Prop := match oc with
  | .ins c dx fs => k c dx fs
  | _ => False
section
variable {K : PySem.W.Frag} {e : Ent} {env : Env'} {T : Tmp} {F : Hp} {σ : L2.St} {H : Hp}
theorem Holds.cellS {v : V} {x : Sl} {k : Nat → Addr → D → Cells → OC → Prop} (h : Holds K e env T F σ H) (m : (v, x) ∈ T) (w : HD.cellS env x k) :
    ∃ i b d cs oc, x = .ar i b ∧ v = .ref b ∧ env[i]? = some (.reg d cs) ∧ cellOf cs b = some oc ∧ (F b = none ∧ ∃ o, H b = some o ∧ OC.ok K F b oc o) ∧ k i b d cs oc := by
  cases x with
  | ar i b =>
    have ev : v = .ref b := h.temps _ m
    have w' : (match env[i]? with | some (.reg d cs) => (match cellOf cs b with | some oc => k i b d cs oc | none => False) | _ => False) := w
    split at w'
    · rename_i d cs hi
      split at w'
      · rename_i oc hc
        exact ⟨i, b, d, cs, oc, rfl, ev, hi, hc, h.cell hi hc, w'⟩
      · exact w'.elim
    · exact w'.elim
  | _ => exact w.elim
theorem putC_out {cs : Cells} {b : Addr} {oc : OC} (h : b ∉ cs.map (·.1)) : putC cs b oc = cs := by
  unfold putC
  refine (List.map_congr_left fun p hp => ?_).trans (List.map_id cs)
  exact if_neg fun z => h (List.mem_map.2 ⟨p, hp, z⟩)
theorem putC_app (cs cs2 : Cells) (b : Addr) (oc : OC) : putC (cs ++ cs2) b oc = putC cs b oc ++ putC cs2 b oc := List.map_append
theorem Holds.putIn {v : V} {i : Nat} {d d2 : D} {cs cs2 : Cells} {b : Addr} {oc : OC} {o : HO} (h : Holds K e env ((v, .reg d2 cs2) :: T) F σ H) (hi : env[i]? = some (.reg d cs)) (hb : b ∈ cs.map (·.1)) (ok : Rep K F d2 v → OC.ok K F b oc o) :
    (∀ a ∈ cs.map (·.1), a ∉ cs2.map (·.1)) ∧ Holds K e (env.set i (.reg d (putC cs b oc ++ cs2))) T F σ (upd H b o) := by
  obtain ⟨dis, rd, h1⟩ := h.absorb hi
  have hl : i < env.length := (List.getElem?_eq_some_iff.mp hi).1
  have hi1 : (env.set i (.reg d (cs ++ cs2)))[i]? = some (.reg d (cs ++ cs2)) := by rw [List.getElem?_set, if_pos rfl, if_pos hl]
  have h2 := h1.cellW hi1 (b := b) (by rw [List.map_append]; exact List.mem_append_left _ hb) (ok rd)
  rw [List.set_set, putC_app, putC_out (dis b hb)] at h2
  exact ⟨dis, h2⟩
def putFD (f : Str) (d : D) : List (Str × D) → List (Str × D)
  | [] => [(f, d)]
  | (g, x) :: r => if g = f then (g, d) :: r else (g, x) :: putFD f d r
theorem putF_ents {f : Str} {d : D} {v : V} (hd : Rep K F d v) : ∀ {fs : List (Str × D)} {vs : List (Str × V)}, Ents K F fs vs → Ents K F (putFD f d fs) (putF f v vs)
  | [], vs, h => by
    rw [h.emp]
    exact .cons hd .nil
  | (g, x) :: r, vs, h => by
    obtain ⟨u, rs, rfl, r1, r2⟩ := h.inv
    show Ents K F (if g = f then (g, d) :: r else (g, x) :: putFD f d r) (if g = f then (g, v) :: rs else (g, u) :: putF f v rs)
    split
    · exact .cons hd r2
    · exact .cons r1 (putF_ents hd r2)
end
structure ClsF (G : GG) (c f : Str) : Prop where
  cl : Cls G.K (He.ga G.K c)
  na : NoAttr G.K (He.ga G.K c) f
section
variable {G : GG} {N : List Str} {sc : SC} {k : Nat} {a b : Expr} {ta tb tc : DT} {apos cpos p p2 pos pos2 py spos : Pos} {x : Str}
def dVarR (i : Nat) : DT := fun _ env Q => match env[i]? with
  | some (.reg d _) => ∃ q, rootOf d = some q ∧ Q (.ar i q) env
  | some (.ar j q) => Q (.ar j q) env
  | _ => False
theorem de_varR (i : Nat) {pos : Pos} (hN : N[i]? = some x := by rfl) (hv : Vis sc.sc x := by first | exact Or.inl rfl | exact Or.inr (Or.inl rfl) | exact Or.inr (Or.inr rfl))
    (hd : (x == ("__debug__" : Str)) = false := by decide) (hcd : (x == ("__classdict__" : Str)) = false := by decide) : DE G N sc k (.Name x pos) (dVarR i) :=
  ⟨fun W => ⟨tVar i, fun X S => pe_var (by rw [S.nms]; exact hN) (S.vis hv) hd hcd, fun e Ex _ env T F σ H Q R hh ht hR => by
    unfold dVarR at ht
    split at ht
    · rename_i d cs q
      obtain ⟨q0, e0, ht⟩ := ht
      rcases hh.slots i _ q with z | ⟨v, hv, ok, _⟩
      · cases z
      rw [rootOf_some e0] at ok
      have ev : v = .ref q0 := ok
      subst ev
      exact ⟨_, hv, hR _ H F env (.ar i q0) (hh.push (Grow.refl hh.fh) rfl fun a ha => nomatch ha) ht⟩
    · rename_i j q0 q
      rcases hh.slots i _ q with z | ⟨v, hv, ok⟩
      · cases z
      have ev : v = .ref q0 := ok
      subst ev
      exact ⟨_, hv, hR _ H F env (.ar j q0) (hh.push (Grow.refl hh.fh) rfl fun a ha => nomatch ha) ht⟩
    · exact ht.elim⟩⟩
def dPtr (i j : Nat) : DT := fun _ env Q => match env[i]? with
  | some (.ext (.val (.ref q))) => Q (.ar j q) env
  | _ => False
def dAttr (c0 f : Str) (t : DT) : DT := fun Ex env Q => t Ex env fun x env1 => cellS env1 x fun i _ _ _ oc => insO oc fun c _ fs => c = c0 ∧ ∃ d, luK fs f = some d ∧ Q (ptrD i d) env1
def sAttr (c0 f : Str) (fz : Bool) (t te : DT) : DTS := fun Ex E env => te Ex env fun y env1 => stoS fz env1 y fun d2 cs2 env2 => t Ex env2 fun x env3 => cellS env3 x fun i b r cs oc => insO oc fun c dx fs =>
  c = c0 ∧ fs.length < 1000 ∧ ((∀ a ∈ cs.map (·.1), a ∉ cs2.map (·.1)) → E.nx (env3.set i (.reg r (putC cs b (.ins c dx (putFD f d2 fs)) ++ cs2))))
theorem ds_attr {c0 f : Str} {fz : Bool} (h : DE G N sc k a ta) (hb : DE G N sc k b tb) (hc : ClsF G c0 f) (hs : ∀ env, swapsWith b (some (.Attribute a f spos)) pos.line env = pure false := by intro _; rfl) : DS G N sc k (.Assign [.Attribute a f spos] b pos) (sAttr c0 f fz ta tb) := ⟨fun W => by
  obtain ⟨te, p1, i1⟩ := h.ex W
  obtain ⟨tf, p2, i2⟩ := hb.ex W
  refine ⟨sFld G.K te tf f, fun X S => by rw [← S.K]; exact ps_fld (p1 X S) (p2 X S) (hs _), fun e Ex hl env F σ H E Dn hh ht ok => ?_⟩
  refine i2 e Ex hl env [] F σ H _ _ hh ht fun v H1 F1 env1 y hh1 q1 => ?_
  obtain ⟨d2, cs2, F2, env2, _, hh2, q2⟩ := hh1.sto q1
  refine i1 e Ex hl env2 _ F2 σ H1 _ _ hh2 q2 fun u H3 F3 env3 z hh3 q3 => ?_
  obtain ⟨i, b, d, cs, oc, rfl, rfl, hi, hcell, ⟨_, o, ho, okc⟩, q⟩ := hh3.cellS List.mem_cons_self q3
  cases oc with
  | ins c dx fs =>
    obtain ⟨rfl, hz, q⟩ := q
    obtain ⟨vs, rfl, m1, m2⟩ := okc
    have hle : vs.length < 1000 := by
      rw [← Ents.length (K := G.K) (F := F3) ⟨m1, m2⟩]
      exact hz
    obtain ⟨dis, hh4⟩ := hh3.pop.putIn (oc := .ins c dx (putFD f d2 fs)) (o := .ins (He.ga G.K c) dx (putF f v vs)) hi (cellOf_key hcell) (fun rd => ⟨_, rfl, (putF_ents rd ⟨m1, m2⟩).1, (putF_ents rd ⟨m1, m2⟩).2⟩)
    exact ⟨b, _, dx, vs, rfl, ho, hc.cl, hc.na, hle, ok.nx _ F3 σ _ hh4 (q dis)⟩
  | _ => exact q.elim⟩
def lstK (_ : Nat) (_ : Addr) (_ : D) (_ : Cells) (oc : OC) : Prop := lstO oc fun _ => True
def dAppR (fz : Bool) (t te : DT) : DT := fun Ex env Q => t Ex env fun x env1 => cellS env1 x lstK ∧ te Ex env1 fun y env2 => stoS fz env2 y fun d2 cs2 env3 => cellS env3 x fun i b r cs oc => lstO oc fun ds =>
  ds.length < sizeLine ∧ ((∀ a ∈ cs.map (·.1), a ∉ cs2.map (·.1)) → Q (.ext .non) (env3.set i (.reg r (putC cs b (.lst (ds ++ [d2])) ++ cs2))))
def dExtR (t te : DT) : DT := fun Ex env Q => t Ex env fun x env1 => cellS env1 x lstK ∧ te Ex env1 fun y env2 => wd env2 y fun d2 => match d2 with
  | .lst es => cellS env2 x fun i b r cs oc => lstO oc fun ds => ds.length + es.length ≤ sizeLine ∧ Q (.ext .non) (env2.set i (.reg r (putC cs b (.lst (ds ++ es)))))
  | _ => False
def dClrR (t : DT) : DT := fun Ex env Q => t Ex env fun x env1 => cellS env1 x fun i b r cs oc => lstO oc fun _ => Q (.ext .non) (env1.set i (.reg r (putC cs b (.lst []))))
def dPopR (t : DT) : DT := fun Ex env Q => t Ex env fun x env1 => cellS env1 x fun i b r cs oc => lstO oc fun ds => ∃ d, ds[ds.length - 1]? = some d ∧ Q (ptrD i d) (env1.set i (.reg r (putC cs b (.lst ds.dropLast))))
def dIxR (t te : DT) : DT := fun Ex env Q => t Ex env fun x env1 => te Ex env1 fun y env2 => match y with
  | .ext (.int n) => cellS env2 x fun i _ _ _ oc => lstO oc fun ds => ∃ d, atI ds n = some d ∧ Q (ptrD i d) env2
  | _ => False
end
end HD
namespace HD
open PySem L2
def dkO (oc : OC) (k : List (Key × D) → Prop) : Prop := match oc with
  | .dk kvs => k kvs
  | .lkK _ _ kvs => k kvs
  | _ => False
def dtO' (oc : OC) (k : List (List Int × D) → Prop) : Prop := match oc with
  | .dt kvs => k kvs
  | .lkT _ _ kvs => k kvs
  | _ => False
def dkW (oc : OC) (k : List (Key × D) → Prop) : Prop := match oc with
  | .dk kvs => k kvs
  | _ => False
def dtW (oc : OC) (k : List (List Int × D) → Prop) : Prop := match oc with
  | .dt kvs => k kvs
  | _ => False
section
variable {G : GG} {N : List Str} {sc : SC} {k : Nat} {a b c : Expr} {ta tb tc : DT} {apos cpos p p2 pos pos2 py spos : Pos} {x : Str}
def sSetR (fz : Bool) (t tI te : DT) : DTS := fun Ex E env => te Ex env fun y env0 => stoS fz env0 y fun d2 cs2 env1 => t Ex env1 fun x env2 => tI Ex env2 fun z env3 => match z with
  | .ext (.int n) => cellS env3 x fun i b r cs oc => lstO oc fun ds => ∃ j, ixN ds.length n = some j ∧ ((∀ a ∈ cs.map (·.1), a ∉ cs2.map (·.1)) → E.nx (env3.set i (.reg r (putC cs b (.lst (ds.set j d2)) ++ cs2))))
  | _ => False
def dDGetR (t te : DT) : DT := fun Ex env Q => t Ex env fun x env1 => te Ex env1 fun y env2 => cellS env2 x fun i _ _ _ oc => dkO oc fun kvs => ∃ key d, y = .ext (kD key) ∧ luK kvs key = some d ∧ Q (ptrD i d) env2
def dDInR (neg : Bool) (te t : DT) : DT := fun Ex env Q => te Ex env fun y env1 => t Ex env1 fun x env2 => cellS env2 x fun _ _ _ _ oc => dkO oc fun kvs => ∃ key, y = .ext (kD key) ∧ Q (.ext (.bl (neg != (luK kvs key).isSome))) env2
def sPutR (fz : Bool) (t tk tv : DT) : DTS := fun Ex E env => tv Ex env fun y env0 => stoS fz env0 y fun d2 cs2 env1 => t Ex env1 fun x env2 => tk Ex env2 fun z env3 => cellS env3 x fun i b r cs oc => dkW oc fun kvs => ∃ key, z = .ext (kD key) ∧ kvs.length < sizeLine ∧
  ((∀ a ∈ cs.map (·.1), a ∉ cs2.map (·.1)) → E.nx (env3.set i (.reg r (putC cs b (.dk (ptK kvs key d2)) ++ cs2))))
def dkK (_ : Nat) (_ : Addr) (_ : D) (_ : Cells) (oc : OC) : Prop := dkO oc fun _ => True
def dGet2R (t te tf : DT) : DT := fun Ex env Q => t Ex env fun x env1 => cellS env1 x dkK ∧ te Ex env1 fun y env2 => tf Ex env2 fun z env3 => frzD env3 z fun d3 env4 => cellS env4 x fun i _ _ _ oc => dkO oc fun kvs => ∃ key, y = .ext (kD key) ∧ Q (ptrD i ((luK kvs key).getD d3)) env4
def dPop1R (t te : DT) : DT := fun Ex env Q => t Ex env fun x env1 => cellS env1 x dkK ∧ te Ex env1 fun y env2 => cellS env2 x fun i b r cs oc => dkW oc fun kvs => ∃ key d, y = .ext (kD key) ∧ luK kvs key = some d ∧ Q (ptrD i d) (env2.set i (.reg r (putC cs b (.dk (drK kvs key)))))
def dPop2R (t te tf : DT) : DT := fun Ex env Q => t Ex env fun x env1 => cellS env1 x dkK ∧ te Ex env1 fun y env2 => tf Ex env2 fun z env3 => frzD env3 z fun d3 env4 => cellS env4 x fun i b r cs oc => dkW oc fun kvs => ∃ key, y = .ext (kD key) ∧
  Q (ptrD i ((luK kvs key).getD d3)) (env4.set i (.reg r (putC cs b (.dk (drK kvs key)))))
end
end HD
namespace HD
open PySem PySem.Spec PyProof.Rows L2
section
variable {G : GG} {N : List Str} {sc : SC} {k : Nat} {a b c : Expr} {ta tb tc : DT} {apos cpos p p2 pos pos2 py spos : Pos} {x : Str}
def dDGetTR (t te : DT) : DT := fun Ex env Q => t Ex env fun x env1 => te Ex env1 fun y env2 => cellS env2 x fun i _ _ _ oc => dtO' oc fun kvs => ∃ key d, y = .ext (kT key) ∧ luK kvs key = some d ∧ Q (ptrD i d) env2
def dDInTR (neg : Bool) (te t : DT) : DT := fun Ex env Q => te Ex env fun y env1 => t Ex env1 fun x env2 => cellS env2 x fun _ _ _ _ oc => dtO' oc fun kvs => ∃ key, y = .ext (kT key) ∧ Q (.ext (.bl (neg != (luK kvs key).isSome))) env2
def sPutTR (fz : Bool) (t tk tv : DT) : DTS := fun Ex E env => tv Ex env fun y env0 => stoS fz env0 y fun d2 cs2 env1 => t Ex env1 fun x env2 => tk Ex env2 fun z env3 => cellS env3 x fun i b r cs oc => dtW oc fun kvs => ∃ key, z = .ext (kT key) ∧ kvs.length < sizeLine ∧
  ((∀ a ∈ cs.map (·.1), a ∉ cs2.map (·.1)) → E.nx (env3.set i (.reg r (putC cs b (.dt (ptK kvs key d2)) ++ cs2))))
def dtK (_ : Nat) (_ : Addr) (_ : D) (_ : Cells) (oc : OC) : Prop := dtO' oc fun _ => True
def dPop1TR (t te : DT) : DT := fun Ex env Q => t Ex env fun x env1 => cellS env1 x dtK ∧ te Ex env1 fun y env2 => cellS env2 x fun i b r cs oc => dtW oc fun kvs => ∃ key d, y = .ext (kT key) ∧ luK kvs key = some d ∧ Q (ptrD i d) (env2.set i (.reg r (putC cs b (.dt (drK kvs key)))))
end
end HD
namespace HD
open PySem PyProof.Rows L2
inductive Bk where
  | no
  | slot (i : Nat)
  | part (i : Nat)
def lend1 (m : Nat) (env : Env') (x : Sl) (k : Sl → Bk → Env' → Prop) : Prop := match m with
  | 0 => froz env x fun d => k (.ext d) .no env
  | 1 => match x with
    | .al i a => match env[i]? with
      | some (.lst b ds) => b = a ∧ k (.lst a ds) (.slot i) (env.set i .un)
      | _ => False
    | .ar i b => match env[i]? with
      | some (.reg d cs) => rootOf d = some b ∧ k (.reg (.val (.ref b)) cs) (.slot i) (env.set i .un)
      | _ => False
    | .lst a ds => k (.lst a ds) .no env
    | .reg d cs => k (.reg d cs) .no env
    | .ext d => k (.ext d) .no env
    | .un => False
  | _ => match x with
    | .ar i b => match env[i]? with
      | some (.reg d cs) => ∃ sub rest, cs.Perm (sub ++ rest) ∧ k (.reg (.val (.ref b)) sub) (.part i) (env.set i (.reg d rest))
      | _ => False
    | _ => False
def lendM : List Nat → Env' → List Sl → (List Sl → List Bk → Env' → Prop) → Prop
  | [], env, [], k => k [] [] env
  | m :: ms, env, x :: xs, k => lend1 m env x fun s bk env1 => lendM ms env1 xs fun ss bks env2 => k (s :: ss) (bk :: bks) env2
  | _, _, _, _ => False
def give1 (b : Bk) (env : Env') (s : Sl) (k : Env' → Prop) : Prop := match b with
  | .no => k env
  | .slot i => s.plain ∧ k (env.set i s)
  | .part i => match s with
    | .reg _ sub => match env[i]? with
      | some (.reg d rest) => (∀ a ∈ rest.map (·.1), a ∉ sub.map (·.1)) → k (env.set i (.reg d (rest ++ sub)))
      | _ => False
    | _ => False
def giveM : List Bk → Env' → List Sl → (Env' → Prop) → Prop
  | [], env, _, k => k env
  | b :: bs, env, s :: ss, k => give1 b env s fun env1 => giveM bs env1 ss k
  | _ :: _, _, [], _ => False
def BkOk (σ : L2.St) (v : V) : Bk → Prop
  | .slot i => σ[i]? = some (some v)
  | _ => True
def BksOk (σ : L2.St) : List V → List Bk → Prop
  | v :: vs, b :: bs => BkOk σ v b ∧ BksOk σ vs bs
  | _, _ => True
section
variable {K : PySem.W.Frag} {e : Ent} {σ : L2.St} {H : Hp}
theorem Holds.lend1 {m : Nat} {env : Env'} {T : Tmp} {F : Hp} {v : V} {x : Sl} {k : Sl → Bk → Env' → Prop} (h : Holds K e env ((v, x) :: T) F σ H) (w : HD.lend1 m env x k) :
    ∃ s bk F1 env1, Same F F1 ∧ Holds K e env1 ((v, s) :: T) F1 σ H ∧ BkOk σ v bk ∧ k s bk env1 := by
  match m with
  | 0 =>
    obtain ⟨d, F1, sm, h1, rd, q⟩ := h.froz1 w
    exact ⟨.ext d, .no, F1, env, sm, h1.pushE rd, trivial, q⟩
  | 1 =>
    cases x with
    | un => exact w.elim
    | ext d => exact ⟨_, .no, F, env, Same.refl _, h, trivial, w⟩
    | lst a ds => exact ⟨_, .no, F, env, Same.refl _, h, trivial, w⟩
    | reg d cs => exact ⟨_, .no, F, env, Same.refl _, h, trivial, w⟩
    | al i a =>
      have ev : v = .ref a := h.temps (v, .al i a) List.mem_cons_self
      have w' : (match env[i]? with | some (.lst b ds) => b = a ∧ k (.lst a ds) (.slot i) (env.set i .un) | _ => False) := w
      split at w'
      · rename_i b ds hb
        obtain ⟨rfl, w'⟩ := w'
        rcases h.slots i _ hb with z | ⟨u, hu, e1, _⟩
        · cases z
        subst e1
        subst ev
        exact ⟨_, .slot i, F, _, Same.refl _, h.pop.take hb hu, hu, w'⟩
      · exact w'.elim
    | ar i b =>
      have ev : v = .ref b := h.temps (v, .ar i b) List.mem_cons_self
      have w' : (match env[i]? with | some (.reg d cs) => rootOf d = some b ∧ k (.reg (.val (.ref b)) cs) (.slot i) (env.set i .un) | _ => False) := w
      split at w'
      · rename_i d cs hb
        obtain ⟨hr, w'⟩ := w'
        have ed := rootOf_some hr
        subst ed
        rcases h.slots i _ hb with z | ⟨u, hu, e1, _⟩
        · cases z
        have e1' : u = .ref b := e1
        subst e1'
        subst ev
        exact ⟨_, .slot i, F, _, Same.refl _, h.pop.take hb hu, hu, w'⟩
      · exact w'.elim
  | m + 2 =>
    cases x with
    | ar i b =>
      have ev : v = .ref b := h.temps (v, .ar i b) List.mem_cons_self
      have w' : (match env[i]? with | some (.reg d cs) => ∃ sub rest, cs.Perm (sub ++ rest) ∧ k (.reg (.val (.ref b)) sub) (.part i) (env.set i (.reg d rest)) | _ => False) := w
      split at w'
      · rename_i d cs hb
        obtain ⟨sub, rest, hp, w'⟩ := w'
        subst ev
        exact ⟨_, .part i, F, _, Same.refl _, h.pop.carve hb hp, trivial, w'⟩
      · exact w'.elim
    | _ => exact w.elim
theorem Holds.lendM : ∀ {ms : List Nat} {vs : List V} {xs : List Sl} {env : Env'} {T : Tmp} {F : Hp} {k : List Sl → List Bk → Env' → Prop}, vs.length = xs.length → Holds K e env (vs.zip xs ++ T) F σ H → HD.lendM ms env xs k →
    ∃ ss bks F1 env1, Same F F1 ∧ ss.length = vs.length ∧ Holds K e env1 (vs.zip ss ++ T) F1 σ H ∧ BksOk σ vs bks ∧ k ss bks env1
  | [], [], [], env, T, F, k, _, h, w => ⟨[], [], F, env, Same.refl _, rfl, h, trivial, w⟩
  | [], _, _ :: _, _, _, _, _, _, _, w => w.elim
  | _ :: _, _, [], _, _, _, _, _, _, w => w.elim
  | _, _ :: _, [], _, _, _, _, le, _, _ => by cases le
  | _, [], _ :: _, _, _, _, _, le, _, _ => by cases le
  | m :: ms, v :: vs, x :: xs, env, T, F, k, le, h, w => by
    have le' : vs.length = xs.length := by simpa using le
    have w' : HD.lend1 m env x fun s bk env1 => HD.lendM ms env1 xs fun ss bks env2 => k (s :: ss) (bk :: bks) env2 := w
    obtain ⟨s, bk, F1, env1, sm, h1, b1, w1⟩ := Holds.lend1 (T := vs.zip xs ++ T) h w'
    have h2 : Holds K e env1 (vs.zip xs ++ ((v, s) :: T)) F1 σ H := h1.perm List.perm_middle.symm
    obtain ⟨ss, bks, F2, env2, sm2, l2, h3, b2, w2⟩ := Holds.lendM le' h2 w1
    exact ⟨s :: ss, bk :: bks, F2, env2, sm.trans sm2, by rw [List.length_cons, List.length_cons, l2], h3.perm List.perm_middle, ⟨b1, b2⟩, w2⟩
theorem ownedT_zip : ∀ {vs : List V} {ss : List Sl}, ss.length = vs.length → ownedT (vs.zip ss) = ownedE ss
  | [], [], _ => rfl
  | [], _ :: _, h => by cases h
  | _ :: _, [], h => by cases h
  | v :: vs, s :: ss, h => by
    show s.owned ++ ownedT (vs.zip ss) = s.owned ++ ownedE ss
    rw [ownedT_zip (by simpa using h)]
theorem ownedT_app (T U : Tmp) : ownedT (T ++ U) = ownedT T ++ ownedT U := by
  unfold ownedT
  exact List.flatMap_append
theorem zip_get {vs : List V} {ss : List Sl} (le : ss.length = vs.length) {i : Nat} {s : Sl} (h : ss[i]? = some s) : ∃ v, vs[i]? = some v ∧ (v, s) ∈ vs.zip ss := by
  obtain ⟨hi, e⟩ := List.getElem?_eq_some_iff.mp h
  have hv : i < vs.length := by omega
  refine ⟨vs[i], List.getElem?_eq_getElem hv, ?_⟩
  refine List.mem_iff_getElem?.2 ⟨i, ?_⟩
  rw [List.getElem?_zip_eq_some]
  exact ⟨List.getElem?_eq_getElem hv, h⟩
theorem Holds.argsM {env : Env'} {T : Tmp} {F : Hp} {vs : List V} {ss : List Sl} (le : ss.length = vs.length) (h : Holds K e env (vs.zip ss ++ T) F σ H) : Holds K (entOf F H ss) ss [] F (vs.map some) H := by
  have nd := h.nd
  rw [ownedT_app, ownedT_zip le] at nd
  refine ⟨h.fh, by rw [List.length_map, le], fun i sl q => ?_, (fun p hp => nomatch hp), ?_, Same.refl _, fun a o q _ => ⟨q, fun z => z⟩, fun a ha => .inl ?_⟩
  · obtain ⟨v, hv, hm⟩ := zip_get le q
    exact .inr ⟨v, by rw [List.getElem?_map, hv]; rfl, h.temps _ (List.mem_append_left _ hm)⟩
  · show (ownedE ss ++ []).Nodup
    rw [List.append_nil]
    exact (List.nodup_append.mp (List.nodup_append.mp nd).2.1).1
  · have ha' : a ∈ ownedE ss ++ [] := ha
    rwa [List.append_nil] at ha'
theorem Holds.leftM {env : Env'} {T : Tmp} {F F' H' : Hp} {vs : List V} {ss fin : List Sl} {v : V} {r : Sl} (le : ss.length = vs.length) (h : Holds K e env (vs.zip ss ++ T) F σ H) (hf : Holds K (entOf F H ss) fin [(v, r)] F' (vs.map some) H') :
    fin.length = vs.length ∧ Holds K e env ((v, r) :: (vs.zip fin ++ T)) F' σ H' := by
  have lf : fin.length = vs.length := by rw [hf.len, List.length_map]
  have nd := h.nd
  rw [ownedT_app, ownedT_zip le] at nd
  obtain ⟨n1, n2, n3⟩ := List.nodup_append.mp nd
  obtain ⟨n4, n5, n6⟩ := List.nodup_append.mp n2
  have l : Left (ownedE ss) F H F' H' := ⟨hf.s1, hf.fh, fun b o q n => hf.s2 b o q n⟩
  have hmem : ∀ a, a ∈ ownedE env ++ ownedT T → a ∈ ownedE env ++ ownedT (vs.zip ss ++ T) := fun a ha => by
    rw [ownedT_app]
    rcases List.mem_append.mp ha with z | z
    · exact List.mem_append_left _ z
    · exact List.mem_append_right _ (List.mem_append_right _ z)
  have dis : ∀ a ∈ ownedE env ++ ownedT T, a ∉ ownedE ss := fun a ha hb => by
    rcases List.mem_append.mp ha with z | z
    · exact n3 a z a (List.mem_append_left _ hb) rfl
    · exact n6 a hb a z rfl
  have live : ∀ a ∈ ownedE env ++ ownedT T, H a ≠ none := fun a ha z => by
    obtain ⟨_, o, q⟩ := h.ownedH a (hmem a ha)
    rw [z] at q
    cases q
  have new : ∀ a ∈ ownedE fin ++ ownedT [(v, r)], a ∈ ownedE ss ∨ H a = none := fun a ha => hf.s3 a ha
  have apart : ∀ a ∈ ownedE fin ++ ownedT [(v, r)], a ∉ ownedE env ++ ownedT T := fun a ha hb => by
    rcases new a ha with z | z
    · exact dis a hb z
    · exact live a hb z
  have inA : ∀ a ∈ ownedE ss, a ∈ e.A0 ∨ e.H0 a = none := fun a ha => h.s3 a (by
    rw [ownedT_app, ownedT_zip le]
    exact List.mem_append_right _ (List.mem_append_left _ ha))
  refine ⟨lf, l.fh, h.len, fun i sl q => ?_, fun p hp => ?_, ?_, h.s1.trans l.ff, fun b o q n => ?_, fun a ha => ?_⟩
  · rcases h.slots i sl q with z | ⟨w, hw, ok⟩
    · exact .inl z
    · exact .inr ⟨w, hw, ok.left l fun a ha => dis a (List.mem_append_left _ (mem_ownedE q ha))⟩
  · rcases List.mem_cons.mp hp with rfl | hp
    · exact hf.temps (v, r) List.mem_cons_self
    · rcases List.mem_append.mp hp with hp | hp
      · obtain ⟨i, hi⟩ := List.mem_iff_getElem?.1 hp
        obtain ⟨p1, p2⟩ := p
        rw [List.getElem?_zip_eq_some] at hi
        obtain ⟨h1, h2⟩ := hi
        rcases hf.slots i p2 h2 with z | ⟨w, hw, ok⟩
        · subst z
          trivial
        · rw [List.getElem?_map, h1] at hw
          cases hw
          exact ok
      · exact (h.temps p (List.mem_append_right _ hp)).left l fun a ha => dis a (List.mem_append_right _ (List.mem_flatMap.mpr ⟨p, hp, ha⟩))
  · show (ownedE env ++ (r.owned ++ ownedT (vs.zip fin ++ T))).Nodup
    rw [ownedT_app, ownedT_zip lf]
    have hn : (ownedE fin ++ (r.owned ++ [])).Nodup := hf.nd
    rw [List.append_nil] at hn
    have hn2 : (r.owned ++ ownedE fin).Nodup := (List.perm_append_comm).nodup hn
    have ap : ∀ a ∈ r.owned ++ ownedE fin, a ∉ ownedE env ++ ownedT T := fun a ha => apart a (by
      show a ∈ ownedE fin ++ (r.owned ++ [])
      rw [List.append_nil]
      rcases List.mem_append.mp ha with z | z
      · exact List.mem_append_right _ z
      · exact List.mem_append_left _ z)
    rw [← List.append_assoc r.owned]
    refine List.nodup_append.mpr ⟨n1, List.nodup_append.mpr ⟨hn2, n5, fun a ha b hb z => ap a ha (z ▸ List.mem_append_right _ hb)⟩, fun a ha b hb z => ?_⟩
    subst z
    rcases List.mem_append.mp hb with hb | hb
    · exact ap a hb (List.mem_append_left _ ha)
    · exact n3 a ha a (List.mem_append_right _ hb) rfl
  · obtain ⟨q1, q2⟩ := h.s2 b o q n
    have nb : b ∉ ownedE ss := fun z => by
      rcases inA b z with y | y
      · exact n y
      · rw [q] at y
        cases y
    obtain ⟨r1, r2⟩ := l.out b o q1 nb
    exact ⟨r1, fun z => r2 (q2 z)⟩
  · have key : ∀ a ∈ ownedE fin ++ ownedT [(v, r)], a ∈ e.A0 ∨ e.H0 a = none := fun a ha => by
      rcases new a ha with z | z
      · exact inA a z
      · cases q : e.H0 a with
        | none => exact .inr rfl
        | some o =>
          by_cases hA : a ∈ e.A0
          · exact .inl hA
          · rw [(h.s2 a o q hA).1] at z
            cases z
    have ha' : a ∈ ownedE env ++ (r.owned ++ ownedT (vs.zip fin ++ T)) := ha
    rw [ownedT_app, ownedT_zip lf] at ha'
    rcases List.mem_append.mp ha' with hb | hb
    · exact h.s3 a (hmem a (List.mem_append_left _ hb))
    · rcases List.mem_append.mp hb with hb | hb
      · refine key a ?_
        show a ∈ ownedE fin ++ (r.owned ++ [])
        rw [List.append_nil]
        exact List.mem_append_right _ hb
      · rcases List.mem_append.mp hb with hb | hb
        · exact key a (List.mem_append_left _ hb)
        · exact h.s3 a (hmem a (List.mem_append_right _ hb))
theorem Holds.give1 {bk : Bk} {env : Env'} {T : Tmp} {F : Hp} {v : V} {s : Sl} {k : Env' → Prop} (h : Holds K e env ((v, s) :: T) F σ H) (b : BkOk σ v bk) (w : HD.give1 bk env s k) : ∃ env1, Holds K e env1 T F σ H ∧ k env1 := by
  cases bk with
  | no => exact ⟨env, h.pop, w⟩
  | slot i =>
    obtain ⟨hp, w⟩ := w
    have h2 := h.assign i hp
    have z : σ.set i (some v) = σ := by
      obtain ⟨hl, e⟩ := List.getElem?_eq_some_iff.mp (show σ[i]? = some (some v) from b)
      rw [← e]
      exact List.set_getElem_self hl
    rw [z] at h2
    exact ⟨_, h2, w⟩
  | part i =>
    cases s with
    | reg d2 sub =>
      have w' : (match env[i]? with | some (.reg d rest) => (∀ a ∈ rest.map (·.1), a ∉ sub.map (·.1)) → k (env.set i (.reg d (rest ++ sub))) | _ => False) := w
      split at w'
      · rename_i d rest hb
        obtain ⟨dis, _, h2⟩ := h.absorb hb
        exact ⟨_, h2, w' dis⟩
      · exact w'.elim
    | _ => exact w.elim
theorem Holds.giveM : ∀ {bks : List Bk} {vs : List V} {ss : List Sl} {env : Env'} {T : Tmp} {F : Hp} {k : Env' → Prop}, ss.length = vs.length → Holds K e env (vs.zip ss ++ T) F σ H → BksOk σ vs bks → HD.giveM bks env ss k → ∃ env1, Holds K e env1 T F σ H ∧ k env1
  | [], vs, ss, env, T, F, k, _, h, _, w => ⟨env, h.sub (List.sublist_append_right _ _), w⟩
  | _ :: _, _, [], _, _, _, _, _, _, _, w => w.elim
  | _ :: _, [], _ :: _, _, _, _, _, le, _, _, _ => by cases le
  | b :: bs, v :: vs, s :: ss, env, T, F, k, le, h, bo, w => by
    have w' : HD.give1 b env s fun env1 => HD.giveM bs env1 ss k := w
    obtain ⟨env1, h1, w1⟩ := Holds.give1 (T := vs.zip ss ++ T) h bo.1 w'
    exact Holds.giveM (by simpa using le) h1 bo.2 w1
def callM (spec : DSpec) (ms : List Nat) (Ex : DX) (env : Env') (xs : List Sl) (Q : Sl → Env' → Prop) : Prop := lendM ms env xs fun ss bks env1 => spec ss (fun r fin => r.plain ∧ giveM bks env1 fin fun env2 => Q r env2) (fun c fin => giveM bks env1 fin fun env2 => Ex c env2)
end
def dCallM (spec : DSpec) (ms : List Nat) (ta : DTA) : DT := fun Ex env Q => ta Ex env fun xs env1 => callM spec ms Ex env1 xs Q
section
variable {G : GG} {N : List Str} {sc : SC} {k kf n : Nat} {x : Str} {spec : DSpec} {e o : Expr} {es : List Expr} {p pos apos : Pos}
def insK (c m : Str) (_ : Nat) (_ : Addr) (_ : D) (_ : Cells) (oc : OC) : Prop := insO oc fun c' _ fs => c' = c ∧ luK fs m = none
def objS (c m : Str) (env : Env') (x : Sl) : Prop := match x with
  | .reg (.val (.ref a)) cs => match cellOf cs a with
    | some (.ins c' _ fs) => c' = c ∧ luK fs m = none
    | _ => False
  | x => cellS env x (insK c m)
def dMethO (c m : Str) (spec : DSpec) (ms : List Nat) (to : DT) (ta : DTA) : DT := fun Ex env Q => to Ex env fun x env1 => objS c m env1 x ∧ ta Ex env1 fun xs env2 => callM spec ms Ex env2 (x :: xs) Q
end
end HD
namespace HD
open PySem PyProof.Rows L2
abbrev newS (c : Str) (a dx : Addr) : Sl := .reg (.val (.ref a)) [(a, .ins c dx []), (dx, .own a)]
def makeM (c : Str) (spec : DSpec) (ms : List Nat) (Ex : DX) (env : Env') (xs : List Sl) (Q : Sl → Env' → Prop) : Prop := lendM ms env xs fun ss bks env1 => ∀ a dx, a ≠ dx → spec (newS c a dx :: ss)
  (fun r fin => r = .ext .non ∧ match fin with | s0 :: fr => giveM bks env1 fr fun env2 => s0.plain ∧ Q s0 env2 | [] => False)
  (fun c fin => match fin with | _ :: fr => giveM bks env1 fr fun env2 => Ex c env2 | [] => False)
def dMake (c : Str) (spec : DSpec) (ms : List Nat) (ta : DTA) : DT := fun Ex env Q => ta Ex env fun xs env1 => makeM c spec ms Ex env1 xs Q
def tMakeD (C : Addr) (sp : Sp) (E : L2.St → XK) (t : TA) : TE := fun σ H Q => t σ H fun vs H1 => ∀ x dx, H1 x = none → H1 dx = none → dx ≠ x → sp (.ref x :: vs) (upd (upd H1 dx (.own x)) x (.ins C dx [])) (fun v H2 => v = .non ∧ Q (.ref x) H2) (E σ)
section
variable {K : PySem.W.Frag} {e : Ent} {σ : L2.St} {H : Hp}
theorem Holds.pushNew {env : Env'} {T : Tmp} {F : Hp} {c : Str} {x dx : Addr} (h : Holds K e env T F σ H) (hx : H x = none) (hd : H dx = none) (ne : dx ≠ x) : Holds K e env ((V.ref x, newS c x dx) :: T) F σ (upd (upd H dx (.own x)) x (.ins (He.ga K c) dx [])) := by
  have g1 : Grow F H F (upd H dx (.own x)) := Grow.loose h.fh hd
  have hx' : upd H dx (.own x) x = none := by rw [upd_ne ne.symm]; exact hx
  have g2 := g1.trans (Grow.loose (o := .ins (He.ga K c) dx []) g1.fh hx')
  refine h.push g2 ⟨rfl, ?_, fun p hp => ?_⟩ fun a ha => ?_
  · exact List.nodup_cons.2 ⟨fun z => ne (List.mem_singleton.1 z).symm, List.pairwise_singleton _ _⟩
  · rcases List.mem_cons.1 hp with rfl | hp
    · exact ⟨h.fh.free hx, _, upd_same, [], rfl, rfl, rfl⟩
    · rw [List.mem_singleton.1 hp]
      exact ⟨h.fh.free hd, .own x, by show upd (upd H dx (HO.own x)) x _ dx = _; rw [upd_ne ne, upd_same], rfl⟩
  · rcases List.mem_cons.1 ha with rfl | ha
    · exact hx
    · rw [List.mem_singleton.1 ha]
      exact hd
theorem im_make {W : WX} {c : Str} {spec : DSpec} {n : Nat} {ms : List Nat} {ta : TA} {t : DTA} (h : ImA K W ta t) (hn : ∀ ds Q X, spec ds Q X → ds.length = n) : Im K W (tMakeD (He.ga K c) (toSp K n spec) (WE W) ta) (dMake c spec ms t) := fun e Ex hl env T F σ H Q R hh ht hR => by
  refine h e Ex hl env T F σ H _ _ hh ht fun vs H1 F1 env1 xs le hh1 q1 x dx hx hd ne => ?_
  obtain ⟨ss, bks, F2, env2, _, ls, h1, b1, w1⟩ := hh1.lendM le q1
  have w2 := w1 x dx ne.symm
  have h2 : Holds K e env2 ((V.ref x :: vs).zip (newS c x dx :: ss) ++ T) F2 σ _ := h1.pushNew hx hd ne
  have ls' : (newS c x dx :: ss).length = (V.ref x :: vs).length := by rw [List.length_cons, List.length_cons, ls]
  refine ⟨F2, newS c x dx :: ss, _, _, by rw [← hn _ _ _ w2, ls'], h2.argsM ls', w2, fun v H' F' r fin hf hq => ?_, fun c' H' F' fin hf hq => ?_⟩
  · obtain ⟨lf, h3⟩ := h2.leftM ls' hf
    obtain ⟨rfl, hq⟩ := hq
    cases fin with
    | nil => exact hq.elim
    | cons s0 fr =>
      have ev : v = .non := h3.temps (v, .ext .non) List.mem_cons_self
      refine ⟨ev, ?_⟩
      have h4 : Holds K e env2 (vs.zip fr ++ ((V.ref x, s0) :: T)) F' σ H' := h3.pop.perm List.perm_middle.symm
      obtain ⟨env3, h5, _, q⟩ := h4.giveM (by simpa using lf) b1 hq
      exact hR _ H' F' env3 s0 h5 q
  · have hf' : Holds K (entOf F2 _ (newS c x dx :: ss)) fin [(V.non, Sl.ext .non)] F' ((V.ref x :: vs).map some) H' := hf.pushE rfl
    obtain ⟨lf, h3⟩ := h2.leftM ls' hf'
    cases fin with
    | nil => exact hq.elim
    | cons s0 fr =>
      have h4 : Holds K e env2 (vs.zip fr ++ ((V.ref x, s0) :: T)) F' σ H' := h3.pop.perm List.perm_middle.symm
      obtain ⟨env3, h5, q⟩ := h4.giveM (by simpa using lf) b1 hq
      exact hl c' env3 F' σ H' h5.bare q
end
structure KDef (G : GG) (kf : Nat) (c : Str) (n : Nat) (spec : DSpec) : Prop where
  ex : ∃ f fd ps, FnG G.P G.w G.K G.mg G.base (L2.CX G.P G.w) kf f fd ps (toSp G.K n spec) ∧ Mk G.K (He.ga G.K c) f ∧ Binds G.K fd ps []
  mg : G.mg c = some (.ref (He.ga G.K c))
  len : ∀ ds Q X, spec ds Q X → ds.length = n
section
variable {X : Cx} {C : CXT} {k : Nat} {f c : Addr} {fd : FuncData} {ps : List Str} {sp : Sp} {E : XK}
theorem run_makeG {pins : List (Addr × Obj)} {σ : L2.St} {H : Hp} {s : Shared} {Q : VK} {us : List Value} {vs : List V} (M : Mk X.K c f) (F : FnG X.prog X.w X.K X.mg X.base C k f fd ps sp) (gd : X.A.guards = some []) (hr : Room (k + 1) X.A) (hb : Binds X.K fd ps [])
    (pass : ∀ (pins : List (Addr × Obj)) (H : Hp) (s : Shared) (e : Value) (s' : Shared), L2.Inv X pins σ H s → C X.stack H s E e s' → X.xe e s') (I : L2.Inv X pins σ H s) (r : Vals vs us)
    (h : ∀ x dx, H x = none → H dx = none → dx ≠ x → sp (.ref x :: vs) (upd (upd H dx (.own x)) x (.ins c dx [])) (fun v H2 => v = .non ∧ Q (.ref x) H2) E) :
    wpAny (model X.prog X.w) X.A (call (.ref c) us) (EP X pins σ Q) X.xe s := by
  have hq := h (s.heap.objs.size + 1) s.heap.objs.size (I.hok.fresh (Nat.le_succ _)) (I.hok.fresh (Nat.le_refl _)) (Nat.ne_of_lt (Nat.lt_succ_self _))
  have I2 := L2.Inv.made (C := c) I
  have r2 : Vals (V.ref (s.heap.objs.size + 1) :: vs) (Value.ref (s.heap.objs.size + 1) :: us) := .cons rfl r
  have hl : (Value.ref (s.heap.objs.size + 1) :: us).length = ps.length := by
    have e := r2.length
    rw [F.fit _ _ _ _ hq] at e
    exact e.symm
  have b := hb { s with heap := (s.heap.push PySem.W.emptyDict).push (PySem.W.instObj c s.heap.objs.size) } (Value.ref (s.heap.objs.size + 1) :: us) I2.kIn (by rw [List.append_nil]; exact hl)
  rw [List.append_nil] at b
  refine wpAny_call (make_map (f := f) I.kIn M.makes M.init (beq_iff_eq.mp M.fn) (codeAny_mono (F.go _ X.stack _ _ ⟨Value.ref (s.heap.objs.size + 1) :: us, []⟩ (Value.ref (s.heap.objs.size + 1) :: us) _ _ E (by exact gd) (hr.make c us [])
    (I2.env0.make c us []) b r2 hq) fun r s' hq' => ?_))
  cases r with
  | error e => exact pass pins _ _ e s' I2 hq'
  | ok fl =>
    cases fl with
    | ret u =>
      obtain ⟨v, H', I3, rv, ev, q3⟩ := I2.after hq'
      subst ev
      exact ⟨rv, ⟨V.ref (s.heap.objs.size + 1), H', I3, rfl, q3⟩⟩
    | next => exact False.elim hq'
    | brk => exact False.elim hq'
    | cont => exact False.elim hq'
end
section
variable {G : GG} {N : List Str} {sc : SC} {k kf n : Nat} {spec : DSpec} {e o a : Expr} {es : List Expr} {p pos apos : Pos} {st : Stmt} {t : DTS} {ta : DT}
theorem de_make {c : Str} {ta : DTA} (ms : List Nat) (d : KDef G kf c n spec) (ha : DAs G N sc k (e :: es) ta) (hk : kf + 1 ≤ k := by decide) (hg : GlS sc c := by rfl) (hdb : (c == ("__debug__" : Str)) = false := by decide) (he : NoStar e es := by intro _; rfl) (hpl : ∀ env, (backTo pos (starEach es env)).any (·.1) = false := by intro _; rfl) :
    DE G N sc k (.Call (.Name c p) (e :: es) [] pos) (dMake c spec ms ta) := ⟨fun W => by
  obtain ⟨te, p1, i1⟩ := ha.ex W
  refine ⟨_, fun X S => ?_, im_make i1 d.len⟩
  obtain ⟨f, fd, ps, h1, h3, h4⟩ := d.ex
  have h2 := d.mg
  have pass : ∀ σ, PassesAt (L2.CX X.prog X.w) X σ (WE W σ) := fun σ => passAt S.tk σ
  rw [← S.prog, ← S.w, ← S.K, ← S.mg, ← S.base] at h1
  rw [← S.mg, ← S.K] at h2
  rw [← S.K] at h3 h4 ⊢
  refine ⟨fun pins s σ H Q I h => ?_⟩
  refine wpAny_Call_Name_kw (ld_glob I (S.gl hg) h2 ?_ hdb)
  refine PySem.W.callWith_K (h₀ := X.base) I.ok.mod.kin h3.kp (thn ((p1 X S).run pos pins s σ H _ I h) fun us s1 ⟨vs, H1, I1, r, q⟩ => ⟨I1.kIn, ?_⟩) (he _) (hpl _)
  exact run_makeG h3 h1 S.gd (S.room.mono hk) h4 (pass σ) I1 r q⟩
def sSetA (i : Nat) (t : DT) : DTS := fun Ex E env => t Ex env fun x env1 => match x with
  | .ar j b => E.nx (env1.set i (.ar j b))
  | .ext d => E.nx (env1.set i (.ext d))
  | _ => False
def dMoveR (i : Nat) : DT := fun _ env Q => match env[i]? with
  | some (.reg d cs) => Q (.reg d cs) (env.set i .un)
  | _ => False
end
end HD
namespace HD
open PySem PyProof.Rows L2
section
variable {G : GG} {N : List Str} {sc : SC} {k kf n : Nat} {e o a : Expr} {es : List Expr} {p pos apos : Pos} {st : Stmt} {t : DTS} {ta : DT}
def sSetG (i : Nat) (t : DT) : DTS := fun Ex E env => t Ex env fun x env1 => match x with
  | .lst a ds => E.nx (env1.set i (.reg (.val (.ref a)) [(a, .lst ds)]))
  | .reg d cs => E.nx (env1.set i (.reg d cs))
  | _ => False
def dExtTR (t te : DT) : DT := fun Ex env Q => t Ex env fun x env1 => cellS env1 x lstK ∧ te Ex env1 fun y env2 => match y with
  | .ext (.tup es) => cellS env2 x fun i b r cs oc => lstO oc fun ds => ds.length + es.length ≤ sizeLine ∧ Q (.ext .non) (env2.set i (.reg r (putC cs b (.lst (ds ++ es)))))
  | _ => False
end
theorem seq_setG (i : Nat) (t : DT) (u : DTS) (Ex : DX) (E : DEnds) (env : Env') : sSeq (sSetG i t) u Ex E env = sSetG i t Ex { E with nx := fun env1 => u Ex E env1 } env := rfl
theorem seq_setA (i : Nat) (t : DT) (u : DTS) (Ex : DX) (E : DEnds) (env : Env') : sSeq (sSetA i t) u Ex E env = sSetA i t Ex { E with nx := fun env1 => u Ex E env1 } env := rfl
theorem seq_attr (c f : Str) (fz : Bool) (t te : DT) (u : DTS) (Ex : DX) (E : DEnds) (env : Env') : sSeq (sAttr c f fz t te) u Ex E env = sAttr c f fz t te Ex { E with nx := fun env1 => u Ex E env1 } env := rfl
theorem seq_setR (fz : Bool) (t tI te : DT) (u : DTS) (Ex : DX) (E : DEnds) (env : Env') : sSeq (sSetR fz t tI te) u Ex E env = sSetR fz t tI te Ex { E with nx := fun env1 => u Ex E env1 } env := rfl
theorem seq_putR (fz : Bool) (t tI te : DT) (u : DTS) (Ex : DX) (E : DEnds) (env : Env') : sSeq (sPutR fz t tI te) u Ex E env = sPutR fz t tI te Ex { E with nx := fun env1 => u Ex E env1 } env := rfl
theorem seq_putTR (fz : Bool) (t tI te : DT) (u : DTS) (Ex : DX) (E : DEnds) (env : Env') : sSeq (sPutTR fz t tI te) u Ex E env = sPutTR fz t tI te Ex { E with nx := fun env1 => u Ex E env1 } env := rfl
end HD
namespace HD
open PySem L2
def RegS (o : Option Sl) (k : D → Cells → Prop) (_ : Tok k) : Prop := match o with
  | some (.reg d cs) => k d cs
  | _ => False
def CellS (o : Option OC) (k : OC → Prop) (_ : Tok k) : Prop := match o with
  | some oc => k oc
  | none => False
def RefS (o : Option Sl) (k1 : Addr → Prop) (k2 : Nat → Addr → Prop) (_ : Tok k1) (_ : Tok k2) : Prop := match o with
  | some (.reg d _) => ∃ q, rootOf d = some q ∧ k1 q
  | some (.ar j q) => k2 j q
  | _ => False
theorem RegS_reg (d : D) (cs : Cells) (k : D → Cells → Prop) (t : Tok k) : RegS (some (.reg d cs)) k t = k d cs := rfl
theorem CellS_some (oc : OC) (k : OC → Prop) (t : Tok k) : CellS (some oc) k t = k oc := rfl
theorem RefS_reg (a : Addr) (cs : Cells) (k1 : Addr → Prop) (k2 : Nat → Addr → Prop) (t : Tok k1) (u : Tok k2) : RefS (some (.reg (.val (.ref a)) cs)) k1 k2 t u = k1 a :=
  propext ⟨fun ⟨q, e, h⟩ => by cases e; exact h, fun h => ⟨a, rfl, h⟩⟩
theorem RefS_ar (j : Nat) (a : Addr) (k1 : Addr → Prop) (k2 : Nat → Addr → Prop) (t : Tok k1) (u : Tok k2) : RefS (some (.ar j a)) k1 k2 t u = k2 j a := rfl
theorem dVarR_w (i : Nat) (Ex : DX) (env : Env') (Q : Sl → Env' → Prop) : dVarR i Ex env Q = RefS env[i]? (fun q => Q (.ar i q) env) (fun j q => Q (.ar j q) env) .mk .mk := rfl
theorem cellS_ar (env : Env') (i : Nat) (b : Addr) (k : Nat → Addr → D → Cells → OC → Prop) : cellS env (.ar i b) k = RegS env[i]? (fun d cs => CellS (cellOf cs b) (fun oc => k i b d cs oc) .mk) .mk := by
  unfold RegS CellS cellS
  dsimp only <;> (rcases env[i]? with _ | s <;> first | rfl | (cases s <;> rfl))
theorem wd_ar (env : Env') (i : Nat) (b : Addr) (k : D → Prop) : wd env (.ar i b) k = RegS env[i]? (fun _ cs => CellS (cellOf cs b) (fun oc => lstO oc fun ds => k (.lst ds)) .mk) .mk := by
  unfold RegS CellS lstO wd
  dsimp only <;> (rcases env[i]? with _ | s <;> first | rfl | (cases s <;> first | rfl | (rename_i d cs; dsimp only <;> (rcases cellOf cs b with _ | oc <;> first | rfl | (cases oc <;> rfl)))))
theorem seqD_ar (env : Env') (i : Nat) (b : Addr) (q : List D → (Env' → Prop) → Prop) : seqD env (.ar i b) q = RegS env[i]? (fun _ cs => CellS (cellOf cs b) (fun oc => lstO oc fun ds => q ds (atC i b ds)) .mk) .mk := by
  unfold RegS CellS lstO seqD iterD
  dsimp only <;> (rcases env[i]? with _ | s <;> first | rfl | (cases s <;> first | rfl | (rename_i d cs; dsimp only <;> (rcases cellOf cs b with _ | oc <;> first | rfl | (cases oc <;> rfl)))))
theorem lstO_lst (ds : List D) (k : List D → Prop) : lstO (.lst ds) k = k ds := rfl
theorem insO_ins (c : Str) (dx : Addr) (fs : List (Str × D)) (k : Str → Addr → List (Str × D) → Prop) : insO (.ins c dx fs) k = k c dx fs := rfl
theorem dkO_dk (kvs : List (Key × D)) (k : List (Key × D) → Prop) : dkO (.dk kvs) k = k kvs := rfl
theorem dkO_lk (od : Obj) (vs : List (Key × V)) (kvs : List (Key × D)) (k : List (Key × D) → Prop) : dkO (.lkK od vs kvs) k = k kvs := rfl
theorem dtO_dt (kvs : List (List Int × D)) (k : List (List Int × D) → Prop) : dtO' (.dt kvs) k = k kvs := rfl
theorem dtO_lk (od : Obj) (kbs : List (List Int × Addr × V)) (kvs : List (List Int × D)) (k : List (List Int × D) → Prop) : dtO' (.lkT od kbs kvs) k = k kvs := rfl
theorem dkW_dk (kvs : List (Key × D)) (k : List (Key × D) → Prop) : dkW (.dk kvs) k = k kvs := rfl
theorem dtW_dt (kvs : List (List Int × D)) (k : List (List Int × D) → Prop) : dtW (.dt kvs) k = k kvs := rfl
theorem stoS_ext (fz : Bool) (env : Env') (d : D) (k : D → Cells → Env' → Prop) : stoS fz env (.ext d) k = k d [] env := rfl
theorem stoS_reg (fz : Bool) (env : Env') (d : D) (cs : Cells) (k : D → Cells → Env' → Prop) : stoS fz env (.reg d cs) k = k d cs env := rfl
theorem stoS_lstT (env : Env') (p : Addr) (ds : List D) (k : D → Cells → Env' → Prop) : stoS true env (.lst p ds) k = k (.lst ds) [] env := by
  simp [stoS]
theorem stoS_lstF (env : Env') (p : Addr) (ds : List D) (k : D → Cells → Env' → Prop) : stoS false env (.lst p ds) k = k (.val (.ref p)) [(p, .lst ds)] env := by
  simp [stoS]
theorem stoS_al (fz : Bool) (env : Env') (i : Nat) (a : Addr) (k : D → Cells → Env' → Prop) : stoS fz env (.al i a) k = AtL env[i]? fun b ds => b = a ∧ k (.lst ds) [] (env.set i (.ext (.lst ds))) := by
  simp only [AtL, ← AtL_eq] <;> rfl
theorem ptrD_ref (i : Nat) (q : Addr) : ptrD i (.val (.ref q)) = .ar i q := rfl
theorem ptrD_int (i : Nat) (n : Int) : ptrD i (.int n) = .ext (.int n) := rfl
theorem ptrD_str (i : Nat) (n : Str) : ptrD i (.str n) = .ext (.str n) := rfl
theorem ptrD_bl (i : Nat) (n : Bool) : ptrD i (.bl n) = .ext (.bl n) := rfl
theorem ptrD_non (i : Nat) : ptrD i .non = .ext .non := rfl
theorem ptrD_tup (i : Nat) (ds : List D) : ptrD i (.tup ds) = .ext (.tup ds) := rfl
theorem ptrD_tk (i : Nat) (ds : List D) : ptrD i (.tk ds) = .ext (.tk ds) := rfl
theorem ptrD_lst (i : Nat) (ds : List D) : ptrD i (.lst ds) = .ext (.lst ds) := rfl
theorem ptrD_fz (i : Nat) (ds : List D) : ptrD i (.fz ds) = .ext (.fz ds) := rfl
def setGS (i : Nat) (x : Sl) (env1 : Env') (k : Env' → Prop) : Prop := match x with
  | .lst a ds => k (env1.set i (.reg (.val (.ref a)) [(a, .lst ds)]))
  | .reg d cs => k (env1.set i (.reg d cs))
  | _ => False
theorem sSetG_w (i : Nat) (t : DT) (Ex : DX) (E : DEnds) (env : Env') : sSetG i t Ex E env = t Ex env fun x env1 => setGS i x env1 E.nx := rfl
theorem setGS_lst (i : Nat) (a : Addr) (ds : List D) (env1 : Env') (k : Env' → Prop) : setGS i (.lst a ds) env1 k = k (env1.set i (.reg (.val (.ref a)) [(a, .lst ds)])) := rfl
theorem setGS_reg (i : Nat) (d : D) (cs : Cells) (env1 : Env') (k : Env' → Prop) : setGS i (.reg d cs) env1 k = k (env1.set i (.reg d cs)) := rfl
def setAS (i : Nat) (x : Sl) (env1 : Env') (k : Env' → Prop) : Prop := match x with
  | .ar j b => k (env1.set i (.ar j b))
  | .ext d => k (env1.set i (.ext d))
  | _ => False
theorem sSetA_w (i : Nat) (t : DT) (Ex : DX) (E : DEnds) (env : Env') : sSetA i t Ex E env = t Ex env fun x env1 => setAS i x env1 E.nx := rfl
theorem setAS_ar (i j : Nat) (b : Addr) (env1 : Env') (k : Env' → Prop) : setAS i (.ar j b) env1 k = k (env1.set i (.ar j b)) := rfl
theorem setAS_ext (i : Nat) (d : D) (env1 : Env') (k : Env' → Prop) : setAS i (.ext d) env1 k = k (env1.set i (.ext d)) := rfl
def intS (y : Sl) (k : Int → Prop) : Prop := match y with
  | .ext (.int n) => k n
  | _ => False
theorem intS_int (n : Int) (k : Int → Prop) : intS (.ext (.int n)) k = k n := rfl
theorem dIxR_w (t te : DT) (Ex : DX) (env : Env') (Q : Sl → Env' → Prop) : dIxR t te Ex env Q = t Ex env fun x env1 => te Ex env1 fun y env2 => intS y fun n => cellS env2 x fun i _ _ _ oc => lstO oc fun ds => GetS (atI ds n) (fun d => Q (ptrD i d) env2) .mk := rfl
def tupS (y : Sl) (k : List D → Prop) : Prop := match y with
  | .ext (.tup es) => k es
  | _ => False
theorem tupS_tup (es : List D) (k : List D → Prop) : tupS (.ext (.tup es)) k = k es := rfl
theorem dExtTR_w (t te : DT) (Ex : DX) (env : Env') (Q : Sl → Env' → Prop) : dExtTR t te Ex env Q = t Ex env fun x env1 => cellS env1 x lstK ∧ te Ex env1 fun y env2 => tupS y fun es => cellS env2 x fun i b r cs oc => lstO oc fun ds => ds.length + es.length ≤ sizeLine ∧ Q (.ext .non) (env2.set i (.reg r (putC cs b (.lst (ds ++ es))))) := rfl
def lstS (d : D) (k : List D → Prop) : Prop := match d with
  | .lst es => k es
  | _ => False
theorem lstS_lst (es : List D) (k : List D → Prop) : lstS (.lst es) k = k es := rfl
theorem dExtR_w (t te : DT) (Ex : DX) (env : Env') (Q : Sl → Env' → Prop) : dExtR t te Ex env Q = t Ex env fun x env1 => cellS env1 x lstK ∧ te Ex env1 fun y env2 => wd env2 y fun d2 => lstS d2 fun es => cellS env2 x fun i b r cs oc => lstO oc fun ds => ds.length + es.length ≤ sizeLine ∧ Q (.ext .non) (env2.set i (.reg r (putC cs b (.lst (ds ++ es))))) := rfl
theorem dPopR_w (t : DT) (Ex : DX) (env : Env') (Q : Sl → Env' → Prop) : dPopR t Ex env Q = t Ex env fun x env1 => cellS env1 x fun i b r cs oc => lstO oc fun ds => GetS ds[ds.length - 1]? (fun d => Q (ptrD i d) (env1.set i (.reg r (putC cs b (.lst ds.dropLast))))) .mk := rfl
end HD
namespace HD
open PySem PyProof.Rows L2
open PySem.W (dataLt dataLe EachIs AllAlike Sortable list_sort_data sorted_data)
section
variable {prog : Program} {w : World} {A : Around} {E : Value → Shared → Prop} {s : Shared}
theorem sorted_dataT {β : Type} {R : Value → β → Prop} {enc : β → PyData} {vs : List Value} {bs : List β} {l : Addr} {Q : Value → Shared → Prop} (hl : IsTup s.heap l vs.toArray) (e : EachIs R vs bs) (er : EachIs (fun v b => ∃ as, Reads s.heap v (enc b) as) vs bs) (hal : AllAlike (bs.map enc)) (hk : Sortable (bs.map enc)) (hL : bs.length ≤ sizeLine)
    (hu : ∀ b, b ∈ bs → A.units + 3 + (enc b).depth < cLine)
    (h : ∀ out, out.length = bs.length → EachIs R out (bs.mergeSort (dataLe false enc)) → Q (.ref (s.heap.objs.size + 1)) { s with heap := sortedAll s.heap vs (List.toArray out) }) :
    wpAny (model prog w) A (call (.builtin "sorted") [.ref l]) Q E s := by
  have hz : vs.length ≤ sizeLine := by rw [e.length]; exact hL
  refine Calls.call_function_entry kind_sorted plain_sorted entry_sorted (args_sorted1 _) ?_
  unfold Builtin.«sorted»
  refine wpAny_bind (m := checkCount "sorted" 1 1 _) (wpAny_pure ?_)
  refine wpAny_bind (collect_tup hl ?_ hz)
  refine wpAny_bind (wpAny_newList ?_ hz)
  have hsz : ((s.heap.push (seqObj "list" #[] 0)).update s.heap.objs.size (Obj.mapSeq (· ++ vs.toArray))).objs.size = s.heap.objs.size + 1 := by
    rw [Heap.size_update, size_push']
  have hoL : (((s.heap.push (seqObj "list" #[] 0)).update s.heap.objs.size (Obj.mapSeq (· ++ vs.toArray))).push (seqObj "list" vs.toArray 0)).get? (s.heap.objs.size + 1) = some (seqObj "list" vs.toArray 0) := by
    rw [← hsz]; exact Heap.get?_push_size _ rfl
  have keep : ∀ b o, s.heap.get? b = some o → b ≠ s.heap.objs.size + 1 ∧ (((s.heap.push (seqObj "list" #[] 0)).update s.heap.objs.size (Obj.mapSeq (· ++ vs.toArray))).push (seqObj "list" vs.toArray 0)).get? b = some o := fun b o q => by
    have hlt : b < s.heap.objs.size := Heap.lt_size q
    refine ⟨Nat.ne_of_lt (Nat.lt_succ_of_lt hlt), Heap.get?_push_of_some _ ?_⟩
    rw [Heap.get?_update_ne _ _ _ _ (Nat.ne_of_lt hlt)]
    exact Heap.get?_push_of_some _ q
  show wpAny _ _ _ _ _ { s with heap := ((s.heap.push (seqObj "list" #[] 0)).update s.heap.objs.size (Obj.mapSeq (· ++ vs.toArray))).push (seqObj "list" vs.toArray 0) }
  rw [hsz]
  refine wpAny_bind (wpAny_holding (list_sort_data (R := R) (enc := enc) (bs := bs) hoL e (er.mono fun v b r' => r'.elim fun as r => ⟨as, PyProof.Rows.Reads.keeps (fun b o q => (keep b o q).2) r, fun ha => (PyProof.On.reads_mem_get r _ ha).elim fun o ho => (keep _ o ho).1 rfl⟩) hal hk hL (fun b hb => ?_) fun out hlen he => ?_))
  · have := hu b hb
    show A.units + 1 + 1 + (enc b).depth < cLine
    omega
  · exact wpAny_pure ⟨_, rfl, h out hlen he⟩
end
def rSortD (K : PySem.W.Frag) : List V → Hp → VK → Prop := fun vs H Q => ∃ (a : Addr) (us : List V) (ds : List D), vs = [V.ref a] ∧ (SqL K H a us ∨ SqT K H a us) ∧ DpAll K H us (D.pys ds) ∧
  (∀ d ∈ ds, ∃ x r, d.py = .tuple (x :: r)) ∧ AllAlike (D.pys ds) ∧ (∀ d ∈ ds, d.py.depth ≤ 50) ∧
  ∀ (zs : List (V × D)) (p : Addr), zs.Perm (us.zip ds) → zs.Pairwise (fun a b => dataLt b.2.py a.2.py = false) → H p = none → Q (.ref p) (upd H p (.lst (zs.map (·.1))))
theorem zip_each {X : Cx} {pins : List (Addr × Obj)} {σ : L2.St} {H : Hp} {s : Shared} (I : Inv X pins σ H s) : ∀ {us : List V} {ds : List D} {its : List Value}, Vals us its → DpAll X.K H us (D.pys ds) →
    EachIs (fun v (b : V × D) => RelV b.1 v) its (us.zip ds) ∧ EachIs (fun v (b : V × D) => ∃ as, Reads s.heap v b.2.py as) its (us.zip ds) ∧ (us.zip ds).map (fun b => b.2.py) = D.pys ds ∧ us.length = ds.length
  | _, [], _, .nil, .nil => ⟨.nil, .nil, rfl, rfl⟩
  | u :: us, d :: ds, i :: its, .cons r rs, .cons h hs => by
    obtain ⟨z1, z2, z3, z4⟩ := zip_each I (ds := ds) rs hs
    refine ⟨.cons r z1, .cons (Dp.reads I _ _ _ h r) z2, ?_, by simp [z4]⟩
    exact congrArg (d.py :: ·) z3
theorem each_vals {out : List Value} {zs : List (V × D)} (h : EachIs (fun v (b : V × D) => RelV b.1 v) out zs) : Vals (zs.map (·.1)) out := by
  induction h with
  | nil => exact .nil
  | cons a _ ih => exact .cons a ih
theorem pys_mem' {ds : List D} {x : PyData} (h : x ∈ D.pys ds) : ∃ d ∈ ds, d.py = x := by
  induction ds with
  | nil => cases h
  | cons d ds ih =>
    rcases List.mem_cons.1 h with rfl | h
    · exact ⟨d, List.mem_cons_self, rfl⟩
    · obtain ⟨e, he, q⟩ := ih h
      exact ⟨e, List.mem_cons_of_mem _ he, q⟩
theorem cr_sortD {X : Cx} (hu : X.A.units + 64 < cLine) : CallR X (.builtin "sorted") (rSortD X.K) := by
  intro pins s σ H vs us Q I r h
  obtain ⟨a, ys, ds, rfl, hs, hd, hc, hal, hdp, q⟩ := h
  rw [Vals.ref1 r]
  have main : ∀ its : List Value, Vals ys its → its.length ≤ sizeLine → ∀ out, EachIs (fun v (b : V × D) => RelV b.1 v) out ((ys.zip ds).mergeSort (dataLe false fun b => b.2.py)) →
      ∃ (v : V) (H' : Hp), Inv X pins σ H' { s with heap := sortedAll s.heap its out.toArray } ∧ RelV v (.ref (s.heap.objs.size + 1)) ∧ Q v H' := fun its rv hz out he => by
    obtain ⟨ep, he'⟩ := PyProof.Rows.sortedAll_at s.heap its out.toArray
    obtain ⟨z1, z2, z3, z4⟩ := zip_each I (ds := ds) rv hd
    have hpm := List.mergeSort_perm (ys.zip ds) (dataLe false fun b => b.2.py)
    have hlen : (((ys.zip ds).mergeSort (dataLe false fun b => b.2.py)).map (·.1)).length ≤ sizeLine := by
      rw [List.length_map, hpm.length_eq, ← z1.length]; exact hz
    refine ⟨.ref _, upd H (s.heap.objs.size + 1) (.lst (((ys.zip ds).mergeSort (dataLe false fun b => b.2.py)).map (·.1))), I.laid (t' := s.toks) (fun _ _ => PyProof.Rows.sortedAll_old) (Nat.le_succ _) ⟨hlen, out, ep, each_vals he, he'⟩, rfl, q _ _ hpm ?_ (I.hok.fresh (Nat.le_succ _))⟩
    have := List.pairwise_mergeSort (le := dataLe false fun b : V × D => b.2.py) (fun a b c => (PySem.W.sortLe_total _ _ _).trans a b c) (fun a b => Bool.or_eq_true_iff.2 ((PySem.W.sortLe_total _ _ _).total a b)) (ys.zip ds)
    refine this.imp fun {a b} hab => ?_
    have hab' : (!dataLt b.2.py a.2.py) = true := hab
    simpa using hab'
  have hsrt : ∀ its : List Value, Vals ys its → Sortable ((ys.zip ds).map fun b => b.2.py) ∧ AllAlike ((ys.zip ds).map fun b => b.2.py) ∧ ∀ b ∈ ys.zip ds, b.2.py.depth ≤ 50 := fun its rv => by
    obtain ⟨_, _, z3, _⟩ := zip_each I (ds := ds) rv hd
    rw [z3]
    refine ⟨.inl fun d h => ?_, hal, fun b hb => hdp _ (List.of_mem_zip hb).2⟩
    obtain ⟨e, he, rfl⟩ := pys_mem' h
    exact hc e he
  rcases hs with hs | hs
  · obtain ⟨its, rv, hl, hz⟩ := I.list hs
    obtain ⟨z1, z2, z3, z4⟩ := zip_each I (ds := ds) rv hd
    obtain ⟨s1, s2, s3⟩ := hsrt its rv
    have hz' : its.length ≤ sizeLine := by rw [← rv.length]; exact hz
    refine sorted_data hl.isList z1 z2 s2 s1 (by rw [← z1.length]; exact hz') (fun b hb => ?_) fun out _ he => main its rv hz' out he
    have := s3 b hb
    omega
  · obtain ⟨its, rv, hl, hz⟩ := I.tuple hs
    obtain ⟨z1, z2, z3, z4⟩ := zip_each I (ds := ds) rv hd
    obtain ⟨s1, s2, s3⟩ := hsrt its rv
    have hz' : its.length ≤ sizeLine := by rw [← rv.length]; exact hz
    refine sorted_dataT hl z1 z2 s2 s1 (by rw [← z1.length]; exact hz') (fun b hb => ?_) fun out _ he => main its rv hz' out he
    have := s3 b hb
    omega
def SrtD (ds : List D) : Prop := D.noVals ds = true ∧ (∀ d ∈ ds, ∃ x r, d.py = .tuple (x :: r)) ∧ AllAlike (D.pys ds) ∧ ∀ d ∈ ds, d.py.depth ≤ 50
def fSortD : List D → (Sl → Prop) → Prop
  | [.lst ds], Q => SrtD ds ∧ ∀ (ds' : List D) (a : Addr), ds'.Perm ds → ds'.Pairwise (fun x y => dataLt y.py x.py = false) → Q (.lst a ds')
  | [.tup ds], Q => SrtD ds ∧ ∀ (ds' : List D) (a : Addr), ds'.Perm ds → ds'.Pairwise (fun x y => dataLt y.py x.py = false) → Q (.lst a ds')
  | _, _ => False
theorem reps_dpall {K : PySem.W.Frag} {H : Hp} : ∀ {ds : List D} {vs : List V}, D.noVals ds = true → Reps K H ds vs → DpAll K H vs (D.pys ds)
  | [], vs, _, h => by
    have e : vs = [] := h
    subst e
    exact .nil
  | d :: ds, vs, hn, h => by
    obtain ⟨v, r, rfl, h1, h2⟩ := h
    have hn' : (d.noVal && D.noVals ds) = true := hn
    rw [Bool.and_eq_true] at hn'
    exact .cons (Rep.dp hn'.1 h1) (reps_dpall hn'.2 h2)
theorem reps_zip {K : PySem.W.Frag} {F : Hp} : ∀ {ds : List D} {vs : List V}, Reps K F ds vs → (vs.zip ds).map (·.2) = ds ∧ ∀ b ∈ vs.zip ds, Rep K F b.2 b.1
  | [], vs, h => by
    have e : vs = [] := h
    subst e
    exact ⟨rfl, fun b hb => nomatch hb⟩
  | d :: ds, vs, h => by
    obtain ⟨v, r, rfl, h1, h2⟩ := h
    obtain ⟨i1, i2⟩ := reps_zip h2
    refine ⟨congrArg (d :: ·) i1, fun b hb => ?_⟩
    rcases List.mem_cons.1 hb with rfl | hb
    · exact h1
    · exact i2 b hb
theorem reps_of_zip {K : PySem.W.Frag} {F : Hp} : ∀ {zs : List (V × D)}, (∀ b ∈ zs, Rep K F b.2 b.1) → Reps K F (zs.map (·.2)) (zs.map (·.1))
  | [], _ => rfl
  | b :: zs, h => .cons (h b List.mem_cons_self) (reps_of_zip fun c hc => h c (List.mem_cons_of_mem _ hc))
theorem b_sortD : BR "sorted" fSortD := ⟨fun _ _ K => rSortD K, fun _ _ K F H vs ds Q R fh hr hf ha => by
    unfold fSortD at hf
    have main : ∀ (es : List D) (us : List V) (b : Addr), Reps K F es us → (SqL K H b us ∨ SqT K H b us) → SrtD es → (∀ (ds' : List D) (a : Addr), ds'.Perm es → ds'.Pairwise (fun x y => dataLt y.py x.py = false) → Q (.lst a ds')) → rSortD K [V.ref b] H R := fun es us b hr hs ⟨n1, n2, n3, n4⟩ q => by
      refine ⟨b, us, es, rfl, hs, ?_, n2, n3, n4, fun zs p hpm hsr hp => ?_⟩
      · exact reps_dpall n1 (hr.same fh)
      · obtain ⟨y1, y2⟩ := reps_zip hr
        have := ha.lst fh hp (reps_of_zip fun b hb => y2 b (hpm.mem_iff.1 hb)) (q (zs.map (·.2)) p (by
          have := hpm.map (·.2)
          rw [y1] at this
          exact this) (by rw [List.pairwise_map]; exact hsr))
        exact this
    split at hf
    · obtain ⟨v, rfl, r⟩ := hr.one
      obtain ⟨n, q⟩ := hf
      obtain ⟨a, vs, rfl, e1, r1⟩ := r.lst fh
      exact main _ _ _ r1 (.inl (SqL.of e1)) n q
    · obtain ⟨v, rfl, r⟩ := hr.one
      obtain ⟨n, q⟩ := hf
      obtain ⟨a, vs, rfl, e1, _, r1⟩ := r.tup fh
      exact main _ _ _ r1 (.inr e1) n q
    · exact hf.elim, fun X _ hu => cr_sortD hu⟩
end HD
namespace HD
open PySem PyProof.Rows L2
def deepD (cs : Cells) : Nat → D → D
  | 0, d => d
  | n + 1, .val (.ref b) => match cellOf cs b with
    | some (.lst ds) => .lst (ds.map (deepD cs n))
    | _ => .val (.ref b)
  | n + 1, .lst ds => .lst (ds.map (deepD cs n))
  | n + 1, .tup ds => .tup (ds.map (deepD cs n))
  | _ + 1, d => d
def regC (env : Env') (i : Nat) (k : Cells → Prop) : Prop := match env[i]? with
  | some (.reg _ cs) => k cs
  | _ => False
def dCallD (i n : Nat) (spec : DSpec) (ta : DTA) : DT := fun Ex env Q => ta Ex env fun xs env1 => wds env1 xs fun ds => regC env1 i fun cs =>
  spec ((ds.map (deepD cs n)).map .ext) (fun r _ => r.imm = true ∧ r.plain ∧ Q r env1) (fun c _ => Ex c env1)
theorem regC_reg (env : Env') (i : Nat) (k : Cells → Prop) : regC env i k = RegS env[i]? (fun _ cs => k cs) .mk := by
  first | rfl | (unfold regC RegS <;> rfl)
theorem dMoveR_w (i : Nat) (Ex : DX) (env : Env') (Q : Sl → Env' → Prop) : dMoveR i Ex env Q = RegS env[i]? (fun d cs => Q (.reg d cs) (env.set i .un)) .mk := by
  first | rfl | (unfold dMoveR RegS <;> rfl)
theorem froz_lst (env : Env') (a : Addr) (ds : List D) (q : D → Prop) : froz env (.lst a ds) q = q (.lst ds) := rfl
theorem froz_ext (env : Env') (d : D) (q : D → Prop) : froz env (.ext d) q = q d := rfl
def dMoveL (i : Nat) : DT := fun _ env Q => AtL env[i]? fun a ds => Q (.lst a ds) (env.set i .un)
section
variable {G : GG} {N : List Str} {sc : SC} {k : Nat} {a b : Expr} {ta tb : DT} {p p2 pos pos2 apos cpos : Pos}
def dDictP (ta : DT) : DT := fun Ex env Q => ta Ex env fun x env1 => froz env1 x fun d => match d with
  | .lst xs => ∃ kvs : List (List Int × D), xs = kvs.map (fun p => D.tup [kT p.1, p.2]) ∧ (kvs.map (·.1)).Nodup ∧ ∀ a, Q (dtS a kvs) env1
  | _ => False
end
def upK (kvs more : List (List Int × D)) : List (List Int × D) := more.foldl (fun acc p => ptK acc p.1 p.2) kvs
section
variable {G : GG} {N : List Str} {sc : SC} {k : Nat} {a b : Expr} {ta tb : DT} {apos cpos : Pos}
def dUpdTR (t te : DT) : DT := fun Ex env Q => t Ex env fun x env1 => cellS env1 x dtK ∧ te Ex env1 fun y env2 => cellS env2 x fun i b r cs oc => dtW oc fun kvs => ∃ b2 more, y = dtS b2 more ∧ (kvs ≠ [] ∨ (more.map fun p => hT p.1).Nodup) ∧ kvs.length + more.length ≤ sizeLine ∧
  Q (.ext .non) (env2.set i (.reg r (putC cs b (.dt (upK kvs more)))))
end
end HD
namespace HD
open PySem PyProof.Rows L2
def mgK (kvs more : List (Key × D)) : List (Key × D) := more.foldl (fun acc p => ptK acc p.1 p.2) kvs
section
variable {G : GG} {N : List Str} {sc : SC} {k : Nat} {a b : Expr} {ta tb : DT} {apos cpos : Pos}
def dUpdKR (t te : DT) : DT := fun Ex env Q => t Ex env fun x env1 => cellS env1 x dkK ∧ te Ex env1 fun y env2 => cellS env2 x fun i b r cs oc => dkW oc fun kvs => ∃ b2 more, y = .reg (.val (.ref b2)) [(b2, .dk more)] ∧ kvs.length + more.length ≤ sizeLine ∧
  Q (.ext .non) (env2.set i (.reg r (putC cs b (.dk (mgK kvs more)))))
end
section
variable {G : GG} {N : List Str} {sc : SC} {k : Nat} {a b : Expr} {ta tb : DT} {p p2 pos pos2 : Pos}
def dDictZipK (ta tb : DT) : DT := fun Ex env Q => ta Ex env fun x env1 => tb Ex env1 fun y env2 => seqD env2 x fun xs _ => seqD env2 y fun ys _ => ∃ kvs : List (Key × D), xs = kvs.map (fun p => kD p.1) ∧ ys = kvs.map (·.2) ∧ ∀ a, Q (dkS a (mgK [] kvs)) env2
end
section
variable {G : GG} {N : List Str} {sc : SC} {k : Nat} {a : Expr} {ta : DT} {p pos : Pos}
def dDictC (ta : DT) : DT := fun Ex env Q => ta Ex env fun x env1 => cellS env1 x fun _ _ _ _ oc => dkO oc fun kvs => ∀ a, Q (dkS a kvs) env1
end
end HD
namespace HD
open PySem PyProof.Rows L2
section
variable {G : GG} {N : List Str} {sc : SC} {k : Nat} {x : Str} {py apos cpos : Pos}
def dClear (i : Nat) : DT := fun _ env Q => AtL env[i]? fun a _ => mutD env i a (fun _ q => q .non []) Q
end
end HD
namespace HD
open PySem PySem.Spec PyProof.Rows L2
section
variable {G : GG} {N : List Str} {sc : SC} {k : Nat} {a : Expr} {ta : DT} {p apos cpos pos : Pos}
def dListItems (ta : DT) : DT := fun Ex env Q => ta Ex env fun x env1 => ∃ b kvs, x = dkS b kvs ∧ ∀ a, Q (.lst a (kvs.map fun q => D.tup [kD q.1, q.2])) env1
end
end HD
namespace HD
open PySem PySem.Spec PyProof.Rows L2
section
variable {G : GG} {N : List Str} {sc : SC} {k : Nat} {a : Expr} {ta : DT} {p pos : Pos}
def dLenK (ta : DT) : DT := fun Ex env Q => ta Ex env fun x env1 => cellS env1 x fun _ _ _ _ oc => dkO oc fun kvs => Q (.ext (.int kvs.length)) env1
def dSortKI (ta : DT) : DT := fun Ex env Q => ta Ex env fun x env1 => cellS env1 x fun _ _ _ _ oc => dkO oc fun kvs => ∃ ks : List Int, kvs.map (·.1) = ks.map Sum.inl ∧ ks.length < 64 ∧ ∀ (ys : List Int) (b : Addr), ys.Perm ks → ys.Pairwise (· ≤ ·) → Q (.lst b (ys.map D.int)) env1
end
end HD
namespace HD
open PySem PySem.Spec PyProof.Rows L2
section
variable {G : GG} {N : List Str} {sc : SC} {k : Nat} {a : Expr} {ta : DT} {p pos : Pos} {y : Str} {cs : List Str}
def dInC (neg : Bool) (cs : List Str) (ta : DT) : DT := fun Ex env Q => ta Ex env fun x env1 => wd env1 x fun d => match d with
  | .str z => Q (.ext (.bl (if neg then !decide (z ∈ cs) else decide (z ∈ cs)))) env1
  | _ => False
end
end HD
namespace HD
open PySem PySem.Spec PySem.Calls PyProof.Rows L2
def fMinT : List D → (Sl → Prop) → Prop
  | [.tup ds], Q => ∃ ns : List Int, ds = ns.map D.int ∧ ns ≠ [] ∧ ∀ m, m ∈ ns → (∀ y, y ∈ ns → m ≤ y) → Q (.ext (.int m))
  | _, _ => False
def fMaxT : List D → (Sl → Prop) → Prop
  | [.tup ds], Q => ∃ ns : List Int, ds = ns.map D.int ∧ ns ≠ [] ∧ ∀ m, m ∈ ns → (∀ y, y ∈ ns → y ≤ m) → Q (.ext (.int m))
  | _, _ => False
end HD
namespace HD
open PySem PySem.Spec PyProof.Rows L2
section
variable {G : GG} {N : List Str} {sc : SC} {k : Nat} {a : Expr} {ta : DT} {p pos : Pos}
def dListKT (ta : DT) : DT := fun Ex env Q => ta Ex env fun x env1 => cellS env1 x fun _ _ _ _ oc => dtO' oc fun kvs => ∀ a, Q (.lst a (kvs.map fun q => kT q.1)) env1
end
end HD
namespace HD
open PySem PySem.Spec PyProof.Rows L2
def dispF : List (Str × Bool × DT) → Addr → List (Key × D) → Cells → DX → Env' → (Sl → Env' → Prop) → Prop
  | [], p, kvs, cs, _, env, Q => Q (.reg (.val (.ref p)) ((p, .dk (mgK [] kvs)) :: cs)) env
  | q :: r, p, kvs, cs, Ex, env, Q => q.2.2 Ex env fun x env1 => stoS q.2.1 env1 x fun d2 cs2 env2 => (∀ a ∈ p :: cs.map (·.1), a ∉ cs2.map (·.1)) → dispF r p (kvs ++ [(.inr q.1, d2)]) (cs ++ cs2) Ex env2 Q
def dDisp (prs : List (Str × Bool × DT)) : DT := fun Ex env Q => ∀ p, dispF prs p [] [] Ex env Q
end HD
namespace HD
open PySem L2
def xcC (x : Str) (cs : List Str) (K : PySem.W.Frag) : Bool := cs.all fun c => isxB K c && decide (PySem.W.exmOne K (clsV K c) (clsV K x) = some true)
theorem xcat_ofC {x : Str} {cs : List Str} {G : GG} (h : xcC x cs G.K = true) (hm : G.mg x = some (clsV G.K x)) : XCat G x cs := ⟨hm, fun c hc => by
  have h := List.all_eq_true.1 h c hc
  simp only [Bool.and_eq_true, decide_eq_true_eq] at h
  exact h.2⟩
end HD
namespace LS.V2.Y5.Y50.K50.E
open PySem L2 HD
def topS (i : Nat) : Stmt := PySem.Challenge.pw_sumorder_k50_trees_of_bags_looked_at.main.body.getD i (.Pass ⟨0, 0, 0, 0⟩)
abbrev s_is_whole : Stmt := topS 6
abbrev s_near_of : Stmt := topS 31
abbrev s_bag_of : Stmt := topS 36
abbrev s_law_jar : Stmt := topS 41
abbrev s_law_prime : Stmt := topS 42
abbrev s_law_times : Stmt := topS 45
abbrev s_law_tied : Stmt := topS 53
abbrev s_law_bag : Stmt := topS 54
abbrev s_law_whole_number : Stmt := topS 58
abbrev s_law_hang : Stmt := topS 60
abbrev s_are_names : Stmt := topS 14
abbrev s_is_tie : Stmt := topS 30
abbrev s_hanging : Stmt := topS 32
abbrev s_law_dip : Stmt := topS 43
abbrev s_law_are_names : Stmt := topS 59
abbrev s_law_are_ties : Stmt := topS 61
abbrev s_are_bags : Stmt := topS 29
abbrev s_is_tree : Stmt := topS 33
abbrev s_law_some : Stmt := topS 50
abbrev s_law_order : Stmt := topS 56
abbrev s_law_odd_names : Stmt := topS 57
abbrev s_law_is_tree : Stmt := topS 62
abbrev s_is_bag_tree : Stmt := topS 34
abbrev s_law_web : Stmt := topS 55
abbrev s_law_built : Stmt := topS 63
abbrev s_law_bent : Stmt := topS 64
abbrev s_Keeper_init : Stmt := inClass (topS 39) 0
abbrev s_law_kept : Stmt := topS 65
abbrev s_law : Stmt := topS 66
def y_is_whole : He.DefD := ⟨("is_whole", none), "is_whole", "is_whole", defArgs s_is_whole, defBody s_is_whole, defScope s_is_whole, [], []⟩
def y_near_of : He.DefD := ⟨("near_of", none), "near_of", "near_of", defArgs s_near_of, defBody s_near_of, defScope s_near_of, [], []⟩
def y_bag_of : He.DefD := ⟨("bag_of", none), "bag_of", "bag_of", defArgs s_bag_of, defBody s_bag_of, defScope s_bag_of, [], []⟩
def y_law_jar : He.DefD := ⟨("_law_jar", none), "_law_jar", "_law_jar", defArgs s_law_jar, defBody s_law_jar, defScope s_law_jar, [], []⟩
def y_law_prime : He.DefD := ⟨("_law_prime", none), "_law_prime", "_law_prime", defArgs s_law_prime, defBody s_law_prime, defScope s_law_prime, [], []⟩
def y_law_times : He.DefD := ⟨("_law_times", none), "_law_times", "_law_times", defArgs s_law_times, defBody s_law_times, defScope s_law_times, [], []⟩
def y_law_tied : He.DefD := ⟨("_law_tied", none), "_law_tied", "_law_tied", defArgs s_law_tied, defBody s_law_tied, defScope s_law_tied, [], []⟩
def y_law_bag : He.DefD := ⟨("_law_bag", none), "_law_bag", "_law_bag", defArgs s_law_bag, defBody s_law_bag, defScope s_law_bag, [], []⟩
def y_law_whole_number : He.DefD := ⟨("_law_whole_number", none), "_law_whole_number", "_law_whole_number", defArgs s_law_whole_number, defBody s_law_whole_number, defScope s_law_whole_number, [], []⟩
def y_law_hang : He.DefD := ⟨("_law_hang", none), "_law_hang", "_law_hang", defArgs s_law_hang, defBody s_law_hang, defScope s_law_hang, [], []⟩
def y_are_names : He.DefD := ⟨("are_names", none), "are_names", "are_names", defArgs s_are_names, defBody s_are_names, defScope s_are_names, [], []⟩
def y_is_tie : He.DefD := ⟨("is_tie", none), "is_tie", "is_tie", defArgs s_is_tie, defBody s_is_tie, defScope s_is_tie, [], []⟩
def y_hanging : He.DefD := ⟨("hanging", none), "hanging", "hanging", defArgs s_hanging, defBody s_hanging, defScope s_hanging, [], []⟩
def y_law_dip : He.DefD := ⟨("_law_dip", none), "_law_dip", "_law_dip", defArgs s_law_dip, defBody s_law_dip, defScope s_law_dip, [], []⟩
def y_law_are_names : He.DefD := ⟨("_law_are_names", none), "_law_are_names", "_law_are_names", defArgs s_law_are_names, defBody s_law_are_names, defScope s_law_are_names, [], []⟩
def y_law_are_ties : He.DefD := ⟨("_law_are_ties", none), "_law_are_ties", "_law_are_ties", defArgs s_law_are_ties, defBody s_law_are_ties, defScope s_law_are_ties, [], []⟩
def y_are_bags : He.DefD := ⟨("are_bags", none), "are_bags", "are_bags", defArgs s_are_bags, defBody s_are_bags, defScope s_are_bags, [], []⟩
def y_is_tree : He.DefD := ⟨("is_tree", none), "is_tree", "is_tree", defArgs s_is_tree, defBody s_is_tree, defScope s_is_tree, [], []⟩
def y_law_some : He.DefD := ⟨("_law_some", none), "_law_some", "_law_some", defArgs s_law_some, defBody s_law_some, defScope s_law_some, [], []⟩
def y_law_order : He.DefD := ⟨("_law_order", none), "_law_order", "_law_order", defArgs s_law_order, defBody s_law_order, defScope s_law_order, [], []⟩
def y_law_odd_names : He.DefD := ⟨("_law_odd_names", none), "_law_odd_names", "_law_odd_names", defArgs s_law_odd_names, defBody s_law_odd_names, defScope s_law_odd_names, [], []⟩
def y_law_is_tree : He.DefD := ⟨("_law_is_tree", none), "_law_is_tree", "_law_is_tree", defArgs s_law_is_tree, defBody s_law_is_tree, defScope s_law_is_tree, [], []⟩
def y_is_bag_tree : He.DefD := ⟨("is_bag_tree", none), "is_bag_tree", "is_bag_tree", defArgs s_is_bag_tree, defBody s_is_bag_tree, defScope s_is_bag_tree, [], []⟩
def y_law_web : He.DefD := ⟨("_law_web", none), "_law_web", "_law_web", defArgs s_law_web, defBody s_law_web, defScope s_law_web, [], []⟩
def y_law_built : He.DefD := ⟨("_law_built", none), "_law_built", "_law_built", defArgs s_law_built, defBody s_law_built, defScope s_law_built, [], []⟩
def y_law_bent : He.DefD := ⟨("_law_bent", none), "_law_bent", "_law_bent", defArgs s_law_bent, defBody s_law_bent, defScope s_law_bent, [], []⟩
def y_Keeper_init : He.DefD := ⟨("Keeper", some "__init__"), "__init__", "Keeper.__init__", defArgs s_Keeper_init, defBody s_Keeper_init, defScope s_Keeper_init, [], []⟩
def y_law_kept : He.DefD := ⟨("_law_kept", none), "_law_kept", "_law_kept", defArgs s_law_kept, defBody s_law_kept, defScope s_law_kept, [], []⟩
def y_law : He.DefD := ⟨("law", none), "law", "law", defArgs s_law, defBody s_law, defScope s_law, [], []⟩
def fn0 : List He.DefD := [y_is_whole, y_near_of, y_bag_of, y_law_jar, y_law_prime, y_law_times, y_law_tied, y_law_bag]
def fn1 : List He.DefD := [y_law_whole_number, y_law_hang, y_are_names, y_is_tie, y_hanging, y_law_dip, y_law_are_names, y_law_are_ties]
def fn2 : List He.DefD := [y_are_bags, y_is_tree, y_law_some, y_law_order, y_law_odd_names, y_law_is_tree, y_is_bag_tree, y_law_web]
def fn3 : List He.DefD := [y_law_built, y_law_bent, y_Keeper_init, y_law_kept, y_law]
def fnA : List He.DefD := fn0 ++ fn1
def fnB : List He.DefD := fn2 ++ fn3
def fn : List He.DefD := fnA ++ fnB
def fa0 : List He.Fa := [.glo "is_whole", .glo "near_of", .glo "bag_of", .glo "_law_jar", .glo "_law_prime", .glo "_law_times", .glo "_law_tied", .glo "_law_bag", .glo "_law_whole_number", .glo "_law_hang", .glo "are_names", .glo "is_tie", .glo "hanging", .glo "_law_dip", .glo "_law_are_names", .glo "_law_are_ties"]
def fa1 : List He.Fa := [.glo "are_bags", .glo "is_tree", .glo "_law_some", .glo "_law_order", .glo "_law_odd_names", .glo "_law_is_tree", .glo "is_bag_tree", .glo "_law_web", .glo "_law_built", .glo "_law_bent", .mkr "Keeper", .glo "_law_kept", .glo "law", .free "len", .free "range", .free "sorted"]
def fa2 : List He.Fa := [.free "set", .free "tuple", .free "list", .free "dict", .free "zip", .free "enumerate", .free "all", .free "any", .free "sum", .free "min", .free "max", .free "isinstance", .free "str", .free "int", .free "repr", .free "bool"]
def fa3 : List He.Fa := [.glo "Keeper", .cls "Keeper", .noat "Keeper" "bags", .noat "Keeper" "changes", .noat "Keeper" "known", .noat "Keeper" "laid", .noat "Keeper" "many", .noat "Keeper" "near", .noat "Keeper" "parts", .noat "Keeper" "sizes", .noat "Keeper" "word", .noat "Keeper" "worths", .glo "NoTree", .exc "NoTree", .glo "NoTree", .int "MOST_BAGS" 12]
def faA : List He.Fa := fa0 ++ fa1
def faB : List He.Fa := fa2 ++ fa3
def fa : List He.Fa := faA ++ faB
def nm0 : List PySem.Str := ["_wall", "ROOF", "unit", "join", "gather", "is_whole", "fillings_of", "SumError", "NoFilling", "NoName", "NoTree", "are_names", "need_names", "place_of", "worth_by", "joined", "need_name", "without", "gathered", "settled", "widened", "all_joined", "MOST_BAGS", "are_bags", "is_tie", "near_of", "hanging", "is_tree", "is_bag_tree", "bag_of"]
def nm1 : List PySem.Str := ["left_for", "Keeper", "_law_jar", "_law_prime", "_law_dip", "_law_fillings", "_law_times", "_law_look", "_law_word", "_law_number", "_law_sizes", "_law_some", "_law_part", "_law_sheet", "_law_tied", "_law_bag", "_law_web", "_law_order", "_law_odd_names", "_law_whole_number", "_law_are_names", "_law_hang", "_law_are_ties", "_law_is_tree", "_law_built", "_law_bent", "_law_kept"]
def nm : List PySem.Str := nm0 ++ nm1
abbrev R : PySem.W.OpenRow := PySem.W.OpenLaw.row PySem.Challenge.rw_sumorder_k50_trees_of_bags_looked_at
def ex : PySem.W.Frag → Bool := xcC "NoTree" ["NoTree"]
abbrev hk : PySem.W.Hook := hookE 4 fa fn ex
def ob (s : PySem.W.SharedT) : He.AlD × Bool := obsE 4 fa fn ex (HandSHeadRun.getT s)
theorem obE (s : PySem.W.SharedT) : ob s = hk.obs s.abs := obsE_eq (HandSHeadRun.getT_eq s)
section
open PySem PySem.W PySem.Calls PyProof.Rows HandSHeadRun
theorem top0 (w : World) : ∀ os : PySem.OsState, (HandSHeadRun.endF (HandSHeadRun.stepQ (HandSHeadRun.denQ HandSHeadRun.tabQ) R.prog w) 8000 R.prog w os).map (fun s => (looksF R.prog (boot_heap w.params) s.abs, seenQ (view R.prog [66]) nm (importedModules R.prog.main.body) (fun s => xlAt (view R.prog [66]) [] s && recOk R.toRowW.records s) s.abs)) = some (true, openGood (view R.prog [66]) nm) := by
  intro os; kernel_rfl
theorem top1 (w : World) : ∀ os : PySem.OsState, (HandSHeadRun.endF (HandSHeadRun.stepQ (HandSHeadRun.denQ HandSHeadRun.tabQ) R.prog w) 8000 R.prog w os).map (fun s => obsE 4 faA fnA (fun _ => true) (HandSHeadRun.getT s)) = some (He.valD fnA, true) := by
  intro os; kernel_rfl
theorem top2 (w : World) : ∀ os : PySem.OsState, (HandSHeadRun.endF (HandSHeadRun.stepQ (HandSHeadRun.denQ HandSHeadRun.tabQ) R.prog w) 8000 R.prog w os).map (fun s => obsE 4 faB fnB ex (HandSHeadRun.getT s)) = some (He.valD fnB, true) := by
  intro os; kernel_rfl
end
theorem topRun (w : World) : HandSHeadRun.RunEq R (PySem.W.view R.prog [66]) hk ob 8000 nm w := run_parts (top0 w) (top1 w) (top2 w)
end LS.V2.Y5.Y50.K50.E
namespace PM
def sz (S : List Nat) (n : Nat) : Nat := S.getD n 0
def prodN : List Nat → Nat
  | [] => 1
  | x :: xs => x * prodN xs
def psz (S : List Nat) (ns : List Nat) : Nat := prodN (ns.map (sz S))
def fills (S : List Nat) : List Nat → List (List Nat)
  | [] => [[]]
  | n :: ns => (List.range (sz S n)).flatMap fun w => (fills S ns).map (w :: ·)
def pl (S : List Nat) : Nat → List Nat → List Nat → Nat
  | acc, n :: ns, w :: ws => pl S (acc * sz S n + w) ns ws
  | acc, _, _ => acc
def ats (ns f : List Nat) : Nat → Nat := fun n => f.getD (ns.idxOf n) 0
structure Part where
  ns : List Nat
  ws : List Int
def Rising (l : List Nat) : Prop := l.Pairwise (· < ·)
theorem rising_ext {a b : List Nat} (ha : Rising a) (hb : Rising b) (h : ∀ n, n ∈ a ↔ n ∈ b) : a = b := by
  induction a generalizing b with
  | nil =>
    cases b with
    | nil => rfl
    | cons y b => exact absurd ((h y).2 List.mem_cons_self) (by simp)
  | cons x a ih =>
    cases b with
    | nil => exact absurd ((h x).1 List.mem_cons_self) (by simp)
    | cons y b =>
      have ha' := List.pairwise_cons.1 ha
      have hb' := List.pairwise_cons.1 hb
      have e : x = y := by
        rcases List.mem_cons.1 ((h x).1 List.mem_cons_self) with e | e
        · exact e
        · rcases List.mem_cons.1 ((h y).2 List.mem_cons_self) with e' | e'
          · exact e'.symm
          · have h1 := hb'.1 x e
            have h2 := ha'.1 y e'
            omega
      subst e
      rw [ih ha'.2 hb'.2 fun n => ?_]
      constructor
      · intro hn
        rcases List.mem_cons.1 ((h n).1 (List.mem_cons_of_mem _ hn)) with e | e
        · have := ha'.1 n hn; omega
        · exact e
      · intro hn
        rcases List.mem_cons.1 ((h n).2 (List.mem_cons_of_mem _ hn)) with e | e
        · have := hb'.1 n hn; omega
        · exact e
structure Part.Ok (S : List Nat) (p : Part) : Prop where
  rise : Rising p.ns
  lt : ∀ n ∈ p.ns, n < S.length
  len : p.ws.length = psz S p.ns
def val (S : List Nat) (p : Part) (g : Nat → Nat) : Int := p.ws.getD (pl S 0 p.ns (p.ns.map g)) 0
def mkP (S : List Nat) (ns : List Nat) (F : (Nat → Nat) → Int) : Part := ⟨ns, (fills S ns).map fun f => F (ats ns f)⟩
def joinP (S : List Nat) (jn : Int → Int → Int) (U : List Nat) (p q : Part) : Part := mkP S U fun g => jn (val S p g) (val S q g)
end PM
namespace LS
open PySem L2 HD PM
local macro_rules | `(tactic| trivial) => `(tactic| try simp -dsimp only [↓sSeq, ↓sIf, ↓sRet, ↓retD_ext, ↓retD_lst, ↓retD_al, ↓sSet, ↓sSetE, ↓sAsg, ↓sDrop, ↓sNext, ↓sFor, ↓sRetN, ↓sCont, ↓sBreak, ↓dTest, ↓dOp, ↓dVar_w, ↓dC, ↓dCons, ↓dNil, ↓dTup, ↓dLst, ↓frzDs, ↓frzD_ext, ↓frzD_lst, ↓frzD_al, ↓wd_ext, ↓wd_lst, ↓wd_al, ↓wds, ↓AtS_ext, ↓AtS_lst, ↓AtL, ↓fAdd, ↓fSub, ↓fMul, ↓fDiv, ↓fMod, ↓fPow, ↓fCmp, ↓fIn, ↓fEq_ii, ↓fEq_ss, ↓fEq_bb, ↓fEq_tt, ↓fEq_ll, ↓fNe_ii, ↓fNe_ss, ↓fNe_bb, ↓fNe_tt, ↓fNe_ll, ↓fIx_l, ↓fIx_t, ↓fIx_k, ↓fIx_f, ↓GetS_some, ↓NatS_some, ↓fSl, ↓fIsN, ↓fNotN, ↓D.knN, ↓dNot, ↓dAnd, ↓dOr, ↓dAndV_w, ↓dOrV_w, ↓dNotV, ↓dIf, ↓dNeg, ↓dChain_w, ↓BlS_bl, ↓dCall_w, ↓dCallJ_w, ↓anyAl, ↓frozs, ↓froz, ↓gSet, ↓gTupD, ↓gsCons, ↓gsNil, ↓dSeq, ↓seqD_tup, ↓seqD_elst, ↓seqD_lst, ↓seqD_al, ↓dRange1, ↓dRange2, ↓dZip, ↓dCB, ↓dLc, ↓dYes, ↓dNoPart, ↓dPart, ↓dSl, ↓fLen, ↓fMin, ↓fMax, ↓fSum, ↓fAll, ↓fAny, ↓fSorted, ↓fTuple, ↓fList, ↓dRg1, ↓dRg2, ↓dLstRg, ↓dTupRg, ↓dIndex, ↓fIdx, ↓dAppend_w, ↓dExtend_w, ↓extD_lst, ↓dPopAt_w, ↓popD_int, ↓dPop_w, ↓mutD_w, ↓sSetItem_w, ↓setD_int, ↓dSortSet, ↓dTable_w, ↓wipeE, finals1, finals2, finals3, finals4, finals5, finals6, fin1_ext, fin1_lst, List.getElem?_cons_zero, List.getElem?_cons_succ, List.getElem?_nil, List.set_cons_zero, List.set_cons_succ, List.cons_append, List.nil_append, List.append_nil, List.replicate_succ, List.replicate_zero, List.map_cons, List.map_nil, List.length_cons, List.length_nil, true_and, and_true, ite_true, ite_false, if_true, if_false, Bool.false_eq_true, decide_eq_true_eq, Sl.plain, D.isSq, eq_self_iff_true, forall_const, reduceIte, true_or, or_true, atI_0, atI_1, atI_2, atI_3, ixN_0, ixN_1, ixN_2, AtS_ext, AtS_lst, FzS_lst, FzS_ext, GetS_some, NatS_some, ↓fIsi1, ↓fIsi2, BoolS_some, HD.kb_non_tuple, HD.kb_non_list, HD.kb_non_bool, HD.kb_non_int, HD.kb_non_str, HD.kb_bl_tuple, HD.kb_bl_list, HD.kb_bl_bool, HD.kb_bl_int, HD.kb_bl_str, HD.kb_int_tuple, HD.kb_int_list, HD.kb_int_bool, HD.kb_int_int, HD.kb_int_str, HD.kb_str_tuple, HD.kb_str_list, HD.kb_str_bool, HD.kb_str_int, HD.kb_str_str, HD.kb_lst_tuple, HD.kb_lst_list, HD.kb_lst_bool, HD.kb_lst_int, HD.kb_lst_str, HD.kb_tup_tuple, HD.kb_tup_list, HD.kb_tup_bool, HD.kb_tup_int, HD.kb_tup_str, ↓sFz_w, ↓FzS_lst, ↓FzS_ext, ↓dSortSetL, ↓fAbs, ↓fInt, ↓fRepr, ↓fLtT, ↓sRaise, ↓sTryKeep, ↓dCallV_w, ↓dMeth, ↓fCount, ↓fSplit])
inductive Wd where
  | sum | most | least | wide | any
  deriving DecidableEq
def Wd.s : Wd → Str
  | .sum => Str.ofString "sum"
  | .most => Str.ofString "most"
  | .least => Str.ofString "least"
  | .wide => Str.ofString "wide"
  | .any => Str.ofString "any"
def jn : Wd → Int → Int → Int
  | .sum, a, b => a * b
  | .most, a, b => a + b
  | .least, a, b => a + b
  | .wide, a, b => if b < a then b else a
  | .any, a, b => if b < a then b else a
theorem w_sum (w : Wd) : (w.s == Str.ofString "sum") = decide (w = .sum) := by cases w <;> decide +kernel
theorem w_in_ml (w : Wd) : (D.str w.s).isIn [.str (Str.ofString "most"), .str (Str.ofString "least")] = decide (w = .most ∨ w = .least) := by cases w <;> decide +kernel
theorem flat_ml : [D.str (Str.ofString "most"), D.str (Str.ofString "least")].all D.flat = true := rfl
abbrev dW (w : Wd) : Sl := .ext (.str w.s)
abbrev dI (i : Int) : Sl := .ext (.int i)
def sp_join : DSpec := fun args Q _ => ∃ w i j, args = [dW w, dI i, dI j] ∧ CMulW i j ∧ ∀ fin, Q (dI (jn w i j)) fin
def t_join : DTS :=
    (sSeq (sIf (dTest (dOp fEq (dVar 0) (dC (.str (Str.ofString "sum"))))) (sRet (dOp fMul (dVar 1) (dVar 2))) sNext)
    (sSeq (sIf (dTest (dOp (fIn false) (dVar 0) (dTup (dCons (dC (.str (Str.ofString "most"))) (dCons (dC (.str (Str.ofString "least"))) dNil))))) (sRet (dOp fAdd (dVar 1) (dVar 2))) sNext)
    (sRet (dCB fMin (dCons (dVar 1) (dCons (dVar 2) dNil))))))
theorem m_join : Meets t_join 3 0 sp_join := by
  rintro args Qd Xd ⟨w, i, j, rfl, hc, hQ⟩
  show t_join _ _ [_, _, _]
  unfold t_join
  trivial
  simp only [w_sum, w_in_ml, flat_ml, D.flat, decide_eq_true_eq, true_and]
  cases w <;> simp only [reduceCtorEq, if_true, if_false, or_true, true_or, or_false, and_true] <;> first | exact ⟨hc, hQ _⟩ | exact ⟨by decide, hQ _⟩
def unitW (w : Wd) : Int := match w with | .sum => 1 | .any => 1 | .most => 0 | .least => 0 | .wide => 10 ^ 30
def JarOk (n : Nat) (ds : List D) : Prop := ∃ (cells : List Int) (at' left : Int), ds = [.lst (iD cells), .int at', .int left] ∧ 0 ≤ at' ∧ at' ≤ n
theorem JarOk.up {n m : Nat} {ds : List D} (h : JarOk n ds) (hm : n ≤ m) : JarOk m ds := by
  obtain ⟨c, a, l, e, h1, h2⟩ := h
  exact ⟨c, a, l, e, h1, by omega⟩
theorem cut_iD (ns : List Int) (lo hi : Option Int) : cutD (iD ns) lo hi = iD ((ns.drop (HT.sIx ns.length 0 lo)).take (HT.sIx ns.length ns.length hi - HT.sIx ns.length 0 lo)) := by
  simp [cutD, List.map_take, List.map_drop]
def sp_law_jar : DSpec := fun args Q _ => ∃ ns : List Int, args = [.ext (.fz (iD ns))] ∧ ns.length ≤ 63 ∧ ∀ a ds fin, JarOk 0 ds → Q (.lst a ds) fin
def t_law_jar : DTS :=
    (sRet (dLst (dCons (dCB fList (dCons (dSl (dVar 0) dNoPart (dPart (dC (.int 63)))) dNil)) (dCons (dC (.int 0)) (dCons (dC (.int 0)) dNil)))))
theorem m_law_jar : Meets t_law_jar 1 0 sp_law_jar := by
  rintro args Qd Xd ⟨ns, rfl, hl, hQ⟩
  show t_law_jar _ _ [_]
  unfold t_law_jar
  trivial
  rw [cut_iD]
  exact ⟨by decide, fun a => hQ _ _ _ ⟨_, 0, 0, rfl, by omega, by omega⟩⟩
def sp_law_prime : DSpec := fun args Q _ => ∃ i : Int, args = [dI i] ∧ 0 ≤ i ∧ ∀ (r : Int) fin, 2147483423 ≤ r → r ≤ 2147483647 → Q (dI r) fin
def t_law_prime : DTS :=
    (sSeq (sSetE 1 (dLst (dCons (dC (.int 2147483647)) (dCons (dC (.int 2147483629)) (dCons (dC (.int 2147483587)) (dCons (dC (.int 2147483579)) (dCons (dC (.int 2147483563)) (dCons (dC (.int 2147483549)) (dCons (dC (.int 2147483543)) (dCons (dC (.int 2147483497)) dNil))))))))))
    (sRet (dOp fIx (dOp fAdd (dVar 1) (dLst (dCons (dC (.int 2147483489)) (dCons (dC (.int 2147483477)) (dCons (dC (.int 2147483423)) dNil))))) (dOp fMod (dVar 0) (dC (.int 11))))))
theorem m_law_prime : Meets t_law_prime 1 1 sp_law_prime := by
  rintro args Qd Xd ⟨i, rfl, hi, hQ⟩
  show t_law_prime _ _ [_, _]
  unfold t_law_prime
  trivial
  refine ⟨by decide, by decide, by decide, by decide, ?_⟩
  have h : i % 11 = 0 ∨ i % 11 = 1 ∨ i % 11 = 2 ∨ i % 11 = 3 ∨ i % 11 = 4 ∨ i % 11 = 5 ∨ i % 11 = 6 ∨ i % 11 = 7 ∨ i % 11 = 8 ∨ i % 11 = 9 ∨ i % 11 = 10 := by omega
  rcases h with h | h | h | h | h | h | h | h | h | h | h <;> rw [h] <;> exact ⟨_, rfl, hQ _ _ (by decide) (by decide)⟩
def sp_law_dip : DSpec := fun args Q _ => ∃ (n : Nat) (a : Addr) (ds : List D) (m : Int), args = [.lst a ds, dI m] ∧ JarOk n ds ∧ n < 4294967296 ∧ 0 < m ∧ m < 18446744073709551616 ∧
  ∀ (r : Int) ds' fin, 0 ≤ r → r < m → JarOk (n + 1) ds' → Q (dI r) (.lst a ds' :: fin)
def i1_law_dip : DTS :=
    (sSeq (sSetE 4 (dOp fMod (dOp fPow (dOp fAdd (dOp fAdd (dOp fMul (dOp fMod (dVar 3) (dC (.int 1000000007))) (dOp fAdd (dVar 2) (dC (.int 1)))) (dOp fMul (dC (.int 104729)) (dVar 2))) (dC (.int 17))) (dC (.int 3))) (dCall sp_law_prime (dCons (dVar 2) dNil))))
    (sSeq (sSetE 5 (dOp fMod (dOp fPow (dOp fAdd (dOp fAdd (dOp fMul (dVar 4) (dOp fAdd (dVar 2) (dC (.int 5)))) (dOp fMod (dVar 3) (dC (.int 65537)))) (dC (.int 1))) (dC (.int 5))) (dCall sp_law_prime (dCons (dOp fAdd (dVar 2) (dC (.int 3))) dNil))))
    (sSeq (sSetE 6 (dOp fMod (dOp fAdd (dOp fMul (dVar 5) (dVar 5)) (dVar 4)) (dCall sp_law_prime (dCons (dOp fAdd (dVar 2) (dC (.int 7))) dNil))))
    (sSetItem 0 (dC (.int 2)) (dOp fAdd (dOp fMul (dOp fAdd (dOp fMul (dVar 6) (dC (.int 2147483647))) (dVar 5)) (dC (.int 2147483629))) (dVar 4))))))
def k2_law_dip : DTS :=
    (sSeq (sSetItem 0 (dC (.int 2)) (dVar 3))
    (sIf (dOr (dTest (dOp (fCmp fun i j => decide (i < j)) (dVar 3) (dOp fPow (dC (.int 10)) (dC (.int 18))))) (dTest (dOp (fCmp fun i j => decide (j ≤ i)) (dVar 2) (dCB fLen (dCons (dOp fIx (dVar 0) (dC (.int 0))) dNil))))) i1_law_dip sNext))
def i3_law_dip : DTS :=
    (sSeq (sSetE 2 (dOp fIx (dVar 0) (dC (.int 1))))
    (sSeq (sSetItem 0 (dC (.int 1)) (dOp fAdd (dVar 2) (dC (.int 1))))
    (sSeq (sSetE 3 (dOp fAdd (dOp fMul (dC (.int 31)) (dVar 2)) (dC (.int 7))))
    (sSeq (sIf (dTest (dOp (fCmp fun i j => decide (j < i)) (dCB fLen (dCons (dOp fIx (dVar 0) (dC (.int 0))) dNil)) (dC (.int 0)))) (sSetE 3 (dOp fIx (dOp fIx (dVar 0) (dC (.int 0))) (dOp fMod (dVar 2) (dCB fLen (dCons (dOp fIx (dVar 0) (dC (.int 0))) dNil))))) sNext)
    k2_law_dip))))
def k4_law_dip : DTS :=
    (sSeq (sSetE 7 (dOp fMod (dOp fIx (dVar 0) (dC (.int 2))) (dVar 1)))
    (sSeq (sSetItem 0 (dC (.int 2)) (dOp fDiv (dOp fIx (dVar 0) (dC (.int 2))) (dVar 1)))
    (sRet (dVar 7))))
def t_law_dip : DTS :=
    (sSeq (sIf (dTest (dOp (fCmp fun i j => decide (i < j)) (dOp fIx (dVar 0) (dC (.int 2))) (dVar 1))) i3_law_dip sNext)
    k4_law_dip)
theorem q4_law_dip {Ex : DX} {E : DEnds} {n : Nat} {a : Addr} {m : Int} {cells : List Int} {at' left : Int} {s2 s3 s4 s5 s6 s7 : Sl} (h0 : 0 ≤ at') (h1 : at' ≤ (n : Int) + 1) (hm0 : 0 < m) (hm1 : m < 18446744073709551616)
    (hE : ∀ r ds' env, 0 ≤ r → r < m → JarOk (n + 1) ds' → E.rt (dI r) (.lst a ds' :: env)) : k4_law_dip Ex E [.lst a [.lst (iD cells), .int at', .int left], dI m, s2, s3, s4, s5, s6, s7] := by
  unfold k4_law_dip
  trivial
  refine ⟨hm0, ⟨hm0, ?_⟩, hE _ _ _ (Int.emod_nonneg _ (by omega)) (Int.emod_lt_of_pos _ hm0) ⟨cells, at', _, rfl, h0, by omega⟩⟩
  have : m.natAbs.log2 < 64 := (Nat.log2_lt (by omega)).2 (by omega)
  omega
theorem q3_law_dip {Ex : DX} {E : DEnds} {a : Addr} {m : Int} {cells : List Int} {at' left c : Int} {s4 s5 s6 s7 : Sl} (h0 : 0 ≤ at') (h1 : at' < 4294967296)
    (hE : ∀ left' u4 u5 u6, E.nx [.lst a [.lst (iD cells), .int (at' + 1), .int left'], dI m, dI at', dI c, u4, u5, u6, s7]) : i1_law_dip Ex E [.lst a [.lst (iD cells), .int (at' + 1), .int left], dI m, dI at', dI c, s4, s5, s6, s7] := by
  unfold i1_law_dip
  trivial
  have b0 := Int.emod_nonneg c (b := 1000000007) (by omega)
  have b1 := Int.emod_lt_of_pos c (b := 1000000007) (by omega)
  have b2 := Int.emod_nonneg c (b := 65537) (by omega)
  have b3 := Int.emod_lt_of_pos c (b := 65537) (by omega)
  generalize c % 1000000007 = c1 at *
  have g0 : 0 ≤ c1 * (at' + 1) := Int.mul_nonneg b0 (by omega)
  have g1 : c1 * (at' + 1) ≤ 1000000007 * 4294967296 := Int.mul_le_mul (by omega) (by omega) (by omega) (by omega)
  refine ⟨by decide, cmul64 (by omega) (by omega) (by omega) (by omega), cmul64 (by omega) (by omega) (by omega) (by omega), ⟨by decide, by decide, by omega⟩, at', rfl, h0, fun p fin p0 p1 => ?_⟩
  trivial
  have o0 := Int.emod_nonneg ((c1 * (at' + 1) + 104729 * at' + 17) ^ Int.toNat 3) (b := p) (by omega)
  have o1 := Int.emod_lt_of_pos ((c1 * (at' + 1) + 104729 * at' + 17) ^ Int.toNat 3) (b := p) (by omega)
  generalize (c1 * (at' + 1) + 104729 * at' + 17) ^ Int.toNat 3 % p = one at *
  generalize c % 65537 = c2 at *
  have g2 : 0 ≤ one * (at' + 5) := Int.mul_nonneg o0 (by omega)
  have g3 : one * (at' + 5) ≤ 2147483647 * 4294967300 := Int.mul_le_mul (by omega) (by omega) (by omega) (by omega)
  refine ⟨by omega, cmul64 (by omega) (by omega) (by omega) (by omega), by decide, ⟨by decide, by decide, by omega⟩, at' + 3, rfl, by omega, fun p' fin' p0' p1' => ?_⟩
  trivial
  have t0 := Int.emod_nonneg ((one * (at' + 5) + c2 + 1) ^ Int.toNat 5) (b := p') (by omega)
  have t1 := Int.emod_lt_of_pos ((one * (at' + 5) + c2 + 1) ^ Int.toNat 5) (b := p') (by omega)
  generalize (one * (at' + 5) + c2 + 1) ^ Int.toNat 5 % p' = two at *
  refine ⟨by omega, cmul64 (by omega) (by omega) (by omega) (by omega), at' + 7, rfl, by omega, fun p2 fin2 p20 p21 => ?_⟩
  trivial
  have u0 := Int.emod_nonneg (two * two + one) (b := p2) (by omega)
  have u1 := Int.emod_lt_of_pos (two * two + one) (b := p2) (by omega)
  generalize (two * two + one) % p2 = three at *
  refine ⟨by omega, cmul64 (by omega) (by omega) (by omega) (by omega), cmul64 (by omega) (by omega) (by omega) (by omega), hE _ _ _ _⟩
theorem q1_law_dip {Ex : DX} {E : DEnds} {a : Addr} {m : Int} {cells : List Int} {at' left c : Int} {s4 s5 s6 s7 : Sl} (h0 : 0 ≤ at') (h1 : at' < 4294967296)
    (hE : ∀ left' u4 u5 u6, E.nx [.lst a [.lst (iD cells), .int (at' + 1), .int left'], dI m, dI at', dI c, u4, u5, u6, s7]) : k2_law_dip Ex E [.lst a [.lst (iD cells), .int (at' + 1), .int left], dI m, dI at', dI c, s4, s5, s6, s7] := by
  unfold k2_law_dip
  trivial
  refine ⟨⟨by decide, by decide, by decide⟩, ?_⟩
  split
  · exact q3_law_dip h0 h1 hE
  · split
    · exact q3_law_dip h0 h1 hE
    · exact hE _ _ _ _
theorem m_law_dip : Meets t_law_dip 2 6 sp_law_dip := by
  rintro args Qd Xd ⟨n, a, ds, m, rfl, ⟨cells, at', left, rfl, h0, h1⟩, hn, hm0, hm1, hQ⟩
  show t_law_dip _ _ [_, _, .un, .un, .un, .un, .un, .un]
  unfold t_law_dip
  trivial
  have k2 : ∀ {at'' left'' : Int} {s2 s3 s4 s5 s6 s7 : Sl}, 0 ≤ at'' → at'' ≤ (n : Int) + 1 → k4_law_dip (exOf [Sl.lst a [D.lst (iD cells), D.int at', D.int left], dI m] Xd) (endsOf [Sl.lst a [D.lst (iD cells), D.int at', D.int left], dI m] Qd) [Sl.lst a [D.lst (iD cells), D.int at'', D.int left''], dI m, s2, s3, s4, s5, s6, s7] := by
    intro at'' left'' s2 s3 s4 s5 s6 s7 z0 z1
    refine q4_law_dip z0 z1 hm0 hm1 fun r ds' env r0 r1 hj => ?_
    trivial
    exact hQ _ _ _ r0 r1 hj
  split
  · unfold i3_law_dip
    trivial
    refine ⟨cmul64 (by omega) (by omega) (by omega) (by omega), ?_⟩
    split
    · rename_i hl
      refine ⟨hl, ?_⟩
      have z0 := Int.emod_nonneg at' (b := ((iD cells).length : Int)) (by omega)
      have z1 := Int.emod_lt_of_pos at' hl
      generalize at' % ((iD cells).length : Int) = j at z0 z1
      rw [List.length_map] at z1
      have hj : j.toNat < cells.length := by omega
      refine ⟨.int (cells[j.toNat]), atI_int z0 (by simp [List.getElem?_map, List.getElem?_eq_getElem hj]), ?_⟩
      exact q1_law_dip h0 (by omega) fun _ _ _ _ => k2 (by omega) (by omega)
    · exact q1_law_dip h0 (by omega) fun _ _ _ _ => k2 (by omega) (by omega)
  · exact k2 h0 (by omega)
end LS
namespace LS
open PySem L2 HD PM
local macro_rules | `(tactic| trivial) => `(tactic| try simp -dsimp only [↓sSeq, ↓sIf, ↓sRet, ↓retD_ext, ↓retD_lst, ↓retD_al, ↓sSet, ↓sSetE, ↓sAsg, ↓sDrop, ↓sNext, ↓sFor, ↓sRetN, ↓sCont, ↓sBreak, ↓dTest, ↓dOp, ↓dVar_w, ↓dC, ↓dCons, ↓dNil, ↓dTup, ↓dLst, ↓frzDs, ↓frzD_ext, ↓frzD_lst, ↓frzD_al, ↓wd_ext, ↓wd_lst, ↓wd_al, ↓wds, ↓AtS_ext, ↓AtS_lst, ↓AtL, ↓fAdd, ↓fSub, ↓fMul, ↓fDiv, ↓fMod, ↓fPow, ↓fCmp, ↓fIn, ↓fEq_ii, ↓fEq_ss, ↓fEq_bb, ↓fEq_tt, ↓fEq_ll, ↓fNe_ii, ↓fNe_ss, ↓fNe_bb, ↓fNe_tt, ↓fNe_ll, ↓fIx_l, ↓fIx_t, ↓fIx_k, ↓fIx_f, ↓GetS_some, ↓NatS_some, ↓fSl, ↓fIsN, ↓fNotN, ↓D.knN, ↓dNot, ↓dAnd, ↓dOr, ↓dAndV_w, ↓dOrV_w, ↓dNotV, ↓dIf, ↓dNeg, ↓dChain_w, ↓BlS_bl, ↓dCall_w, ↓dCallJ_w, ↓anyAl, ↓frozs, ↓froz, ↓gSet, ↓gTupD, ↓gsCons, ↓gsNil, ↓dSeq, ↓seqD_tup, ↓seqD_elst, ↓seqD_lst, ↓seqD_al, ↓dRange1, ↓dRange2, ↓dZip, ↓dCB, ↓dLc, ↓dYes, ↓dNoPart, ↓dPart, ↓dSl, ↓fLen, ↓fMin, ↓fMax, ↓fSum, ↓fAll, ↓fAny, ↓fSorted, ↓fTuple, ↓fList, ↓dRg1, ↓dRg2, ↓dLstRg, ↓dTupRg, ↓dIndex, ↓fIdx, ↓dAppend_w, ↓dExtend_w, ↓extD_lst, ↓dPopAt_w, ↓popD_int, ↓dPop_w, ↓mutD_w, ↓sSetItem_w, ↓setD_int, ↓dSortSet, ↓dTable_w, ↓wipeE, finals1, finals2, finals3, finals4, finals5, finals6, fin1_ext, fin1_lst, List.getElem?_cons_zero, List.getElem?_cons_succ, List.getElem?_nil, List.set_cons_zero, List.set_cons_succ, List.cons_append, List.nil_append, List.append_nil, List.replicate_succ, List.replicate_zero, List.map_cons, List.map_nil, List.length_cons, List.length_nil, true_and, and_true, ite_true, ite_false, if_true, if_false, Bool.false_eq_true, decide_eq_true_eq, Sl.plain, D.isSq, eq_self_iff_true, forall_const, reduceIte, true_or, or_true, atI_0, atI_1, atI_2, atI_3, ixN_0, ixN_1, ixN_2, AtS_ext, AtS_lst, FzS_lst, FzS_ext, GetS_some, NatS_some, ↓fIsi1, ↓fIsi2, BoolS_some, HD.kb_non_tuple, HD.kb_non_list, HD.kb_non_bool, HD.kb_non_int, HD.kb_non_str, HD.kb_bl_tuple, HD.kb_bl_list, HD.kb_bl_bool, HD.kb_bl_int, HD.kb_bl_str, HD.kb_int_tuple, HD.kb_int_list, HD.kb_int_bool, HD.kb_int_int, HD.kb_int_str, HD.kb_str_tuple, HD.kb_str_list, HD.kb_str_bool, HD.kb_str_int, HD.kb_str_str, HD.kb_lst_tuple, HD.kb_lst_list, HD.kb_lst_bool, HD.kb_lst_int, HD.kb_lst_str, HD.kb_tup_tuple, HD.kb_tup_list, HD.kb_tup_bool, HD.kb_tup_int, HD.kb_tup_str, ↓sFz_w, ↓FzS_lst, ↓FzS_ext, ↓dSortSetL, ↓fAbs, ↓fInt, ↓fRepr, ↓fLtT, ↓sRaise, ↓sTryKeep, ↓dCallV_w, ↓dMeth, ↓fCount, ↓fSplit])
def sp_law_times : DSpec := fun args Q _ => ∃ l : List Nat, (args = [.ext (.lst (nD l))] ∨ args = [.ext (.tup (nD l))]) ∧ (∀ x ∈ l, 0 < x) ∧ prodN l < 2 ^ 60 ∧ ∀ fin, Q (dI (prodN l : Nat)) fin
def b1_law_times : DTS :=
    (sSetE 1 (dOp fMul (dVar 1) (dVar 2)))
def k2_law_times : DTS :=
    (sRet (dVar 1))
def t_law_times : DTS :=
    (sSeq (sSetE 1 (dC (.int 1)))
    (sSeq (sFor (dSeq (dVar 0)) (gSet 2) b1_law_times)
    k2_law_times))
theorem prodN_pos {l : List Nat} (h : ∀ x ∈ l, 0 < x) : 0 < prodN l := by
  induction l with
  | nil => exact Nat.one_pos
  | cons x l ih => exact Nat.mul_pos (h x List.mem_cons_self) (ih fun y hy => h y (List.mem_cons_of_mem _ hy))
theorem q1_law_times {Ex : DX} {E : DEnds} {s0 : Sl} (l : List Nat) : ∀ (acc : Nat) (s2 : Sl), 0 < acc → (∀ x ∈ l, 0 < x) → acc * prodN l < 2 ^ 60 → (∀ u, E.nx [s0, dI (acc * prodN l : Nat), u]) →
    forD (gSet 2) b1_law_times (fun _ => True) Ex E (nD l) [s0, dI (acc : Nat), s2] := by
  induction l with
  | nil =>
    intro acc s2 _ _ _ hE
    refine ⟨True.intro, ?_⟩
    have := hE s2
    simpa [prodN] using this
  | cons x l ih =>
    intro acc s2 hz hp hb hE
    have hx := hp x List.mem_cons_self
    have hl := prodN_pos fun y hy => hp y (List.mem_cons_of_mem _ hy)
    have e : acc * prodN (x :: l) = acc * x * prodN l := by rw [prodN, Nat.mul_assoc]
    have hax : acc * x < 2 ^ 60 := Nat.lt_of_le_of_lt (Nat.le_mul_of_pos_right _ hl) (e ▸ hb)
    have ha : acc < 2 ^ 60 := Nat.lt_of_le_of_lt (Nat.le_mul_of_pos_right _ hx) hax
    have hx2 : x < 2 ^ 60 := Nat.lt_of_le_of_lt (Nat.le_mul_of_pos_left _ hz) hax
    rw [nD_cons, forD]
    unfold b1_law_times
    trivial
    refine ⟨cmulN (a := 60) (b := 60) (by simpa using ha) (by simpa using hx2) (by decide), ?_⟩
    have := ih (acc * x) (dI (x : Nat)) (Nat.mul_pos hz hx) (fun y hy => hp y (List.mem_cons_of_mem _ hy)) (e ▸ hb) (fun u => e ▸ hE u)
    rw [Int.natCast_mul] at this
    exact this
theorem m_law_times : Meets t_law_times 1 2 sp_law_times := by
  rintro args Qd Xd ⟨l, h, hp, hb, hQ⟩
  rcases h with rfl | rfl
  all_goals
    show t_law_times _ _ [_, .un, .un]
    unfold t_law_times
    trivial
    refine q1_law_times l 1 .un (by decide) hp (by rw [Nat.one_mul]; exact hb) fun u => ?_
    unfold k2_law_times
    trivial
    rw [Nat.one_mul]
    exact hQ _
structure SzOk (S : List Nat) : Prop where
  pos : ∀ s ∈ S, 0 < s
  few : S.length ≤ 24
  prod : prodN S ≤ 4096
  small : ∀ s ∈ S, s ≤ 4
abbrev dSz (S : List Nat) : Sl := .ext (.tup (nD S))
theorem prodN_append (a b : List Nat) : prodN (a ++ b) = prodN a * prodN b := by
  induction a with
  | nil => simp [prodN]
  | cons x a ih => rw [List.cons_append, prodN, ih, prodN, Nat.mul_assoc]
end LS
namespace LS
open PySem L2 HD PM
local macro_rules | `(tactic| trivial) => `(tactic| try simp -dsimp only [↓sSeq, ↓sIf, ↓sRet, ↓retD_ext, ↓retD_lst, ↓retD_al, ↓sSet, ↓sSetE, ↓sAsg, ↓sDrop, ↓sNext, ↓sFor, ↓sRetN, ↓sCont, ↓sBreak, ↓dTest, ↓dOp, ↓dVar_w, ↓dC, ↓dCons, ↓dNil, ↓dTup, ↓dLst, ↓frzDs, ↓frzD_ext, ↓frzD_lst, ↓frzD_al, ↓wd_ext, ↓wd_lst, ↓wd_al, ↓wds, ↓AtS_ext, ↓AtS_lst, ↓AtL, ↓fAdd, ↓fSub, ↓fMul, ↓fDiv, ↓fMod, ↓fPow, ↓fCmp, ↓fIn, ↓fEq_ii, ↓fEq_ss, ↓fEq_bb, ↓fEq_tt, ↓fEq_ll, ↓fNe_ii, ↓fNe_ss, ↓fNe_bb, ↓fNe_tt, ↓fNe_ll, ↓fIx_l, ↓fIx_t, ↓fIx_k, ↓fIx_f, ↓GetS_some, ↓NatS_some, ↓fSl, ↓fIsN, ↓fNotN, ↓D.knN, ↓dNot, ↓dAnd, ↓dOr, ↓dAndV_w, ↓dOrV_w, ↓dNotV, ↓dIf, ↓dNeg, ↓dChain_w, ↓BlS_bl, ↓dCall_w, ↓dCallJ_w, ↓anyAl, ↓frozs, ↓froz, ↓gSet, ↓gTupD, ↓gsCons, ↓gsNil, ↓dSeq, ↓seqD_tup, ↓seqD_elst, ↓seqD_lst, ↓seqD_al, ↓dRange1, ↓dRange2, ↓dZip, ↓dCB, ↓dLc, ↓dYes, ↓dNoPart, ↓dPart, ↓dSl, ↓fLen, ↓fMin, ↓fMax, ↓fSum, ↓fAll, ↓fAny, ↓fSorted, ↓fTuple, ↓fList, ↓dRg1, ↓dRg2, ↓dLstRg, ↓dTupRg, ↓dIndex, ↓fIdx, ↓dAppend_w, ↓dExtend_w, ↓extD_lst, ↓dPopAt_w, ↓popD_int, ↓dPop_w, ↓mutD_w, ↓sSetItem_w, ↓setD_int, ↓dSortSet, ↓dTable_w, ↓wipeE, finals1, finals2, finals3, finals4, finals5, finals6, fin1_ext, fin1_lst, List.getElem?_cons_zero, List.getElem?_cons_succ, List.getElem?_nil, List.set_cons_zero, List.set_cons_succ, List.cons_append, List.nil_append, List.append_nil, List.replicate_succ, List.replicate_zero, List.map_cons, List.map_nil, List.length_cons, List.length_nil, true_and, and_true, ite_true, ite_false, if_true, if_false, Bool.false_eq_true, decide_eq_true_eq, Sl.plain, D.isSq, eq_self_iff_true, forall_const, reduceIte, true_or, or_true, atI_0, atI_1, atI_2, atI_3, ixN_0, ixN_1, ixN_2, AtS_ext, AtS_lst, FzS_lst, FzS_ext, GetS_some, NatS_some, ↓fIsi1, ↓fIsi2, BoolS_some, HD.kb_non_tuple, HD.kb_non_list, HD.kb_non_bool, HD.kb_non_int, HD.kb_non_str, HD.kb_bl_tuple, HD.kb_bl_list, HD.kb_bl_bool, HD.kb_bl_int, HD.kb_bl_str, HD.kb_int_tuple, HD.kb_int_list, HD.kb_int_bool, HD.kb_int_int, HD.kb_int_str, HD.kb_str_tuple, HD.kb_str_list, HD.kb_str_bool, HD.kb_str_int, HD.kb_str_str, HD.kb_lst_tuple, HD.kb_lst_list, HD.kb_lst_bool, HD.kb_lst_int, HD.kb_lst_str, HD.kb_tup_tuple, HD.kb_tup_list, HD.kb_tup_bool, HD.kb_tup_int, HD.kb_tup_str, ↓sFz_w, ↓FzS_lst, ↓FzS_ext, ↓dSortSetL, ↓fAbs, ↓fInt, ↓fRepr, ↓fLtT, ↓sRaise, ↓sTryKeep, ↓dCallV_w, ↓dMeth, ↓fCount, ↓fSplit])
def sp_law_some : DSpec := fun args Q _ => ∃ (n : Nat) (a : Addr) (ds : List D) (many most : Nat), args = [.lst a ds, dI (many : Nat), dI (most : Nat)] ∧ JarOk n ds ∧ n + 64 < 4294967296 ∧ many ≤ 60 ∧ most ≤ 60 ∧
  ∀ (ns : List Nat) ds' fin, Rising ns → (∀ x ∈ ns, x < many) → ns.length ≤ most → JarOk (n + 64) ds' → Q (.ext (.tup (nD ns))) (.lst a ds' :: fin)
def b1_law_some : DTS :=
    (sIf (dTest (dOp (fCmp fun i j => decide (j < i)) (dCB fLen (dCons (dVar 3) dNil)) (dC (.int 0)))) (sDrop (dAppend 4 (dPopAt 3 (dCallJ sp_law_dip 0 (dCons (dCB fLen (dCons (dVar 3) dNil)) dNil))))) sNext)
def k2_law_some : DTS :=
    (sRet (dCB fTuple (dCons (dCB fSorted (dCons (dVar 4) dNil)) dNil)))
def t_law_some : DTS :=
    (sSeq (sSet 3 (dLstRg (dRg1 (dVar 1))))
    (sSeq (sSet 4 (dLst dNil))
    (sSeq (sFor (dRange1 (dCons (dCallJ sp_law_dip 0 (dCons (dOp fAdd (dVar 2) (dC (.int 1))) dNil)) dNil)) (gSet 5) b1_law_some)
    k2_law_some)))
theorem erase_perm {α : Type} (l : List α) : ∀ {i : Nat} (h : i < l.length), (l[i] :: l.eraseIdx i).Perm l := by
  induction l with
  | nil => intro i h; simp at h
  | cons x l ih =>
    intro i h
    cases i with
    | zero => exact .refl _
    | succ i =>
      have := ih (i := i) (by simpa using h)
      simp only [List.getElem_cons_succ, List.eraseIdx_cons_succ]
      exact (List.Perm.swap _ _ _).trans (List.Perm.cons x this)
theorem map_erase {α β : Type} (f : α → β) (l : List α) : ∀ i, (l.eraseIdx i).map f = (l.map f).eraseIdx i := by
  induction l with
  | nil => intro i; rfl
  | cons x l ih =>
    intro i
    cases i with
    | zero => rfl
    | succ i => simp only [List.eraseIdx_cons_succ, List.map_cons, ih]
theorem q1_law_some {Ex : DX} {E : DEnds} {a a2 a3 : Addr} {s1 s2 : Sl} {many : Nat} (items : List D) : ∀ (n : Nat) (ds : List D) (L Fd : List Nat) (s5 : Sl), JarOk n ds → n + items.length < 4294967296 → (L ++ Fd).Nodup → (∀ x ∈ L ++ Fd, x < many) → (L.length ≤ 60) → Fd.length + items.length ≤ 100 →
    (∀ ds' L' Fd' u5, JarOk (n + items.length) ds' → Fd'.Nodup → (∀ x ∈ Fd', x < many) → Fd'.length ≤ Fd.length + items.length → E.nx [.lst a ds', s1, s2, .lst a2 (nD L'), .lst a3 (nD Fd'), u5]) →
    forD (gSet 5) b1_law_some (fun _ => True) Ex E items [.lst a ds, s1, s2, .lst a2 (nD L), .lst a3 (nD Fd), s5] := by
  induction items with
  | nil =>
    intro n ds L Fd s5 hj hn hd hm hL hl hE
    exact ⟨True.intro, hE _ _ _ _ hj (List.nodup_append.1 hd).2.1 (fun x hx => hm x (List.mem_append_right _ hx)) (Nat.le_refl _)⟩
  | cons x items ih =>
    intro n ds L Fd s5 hj hn hd hm hL hl hE
    rw [List.length_cons] at hn hl
    rw [forD]
    unfold b1_law_some
    trivial
    rw [nD_len]
    split
    · rename_i h0
      have hL0 : 0 < L.length := by omega
      refine ⟨n, a, ds, (L.length : Int), rfl, hj, by omega, by omega, by omega, fun r ds' fin r0 r1 hj' => ?_⟩
      trivial
      have hr : r.toNat < L.length := by omega
      refine ⟨r0, by omega, .int (L[r.toNat] : Nat), by simp [List.getElem?_map, List.getElem?_eq_getElem hr], ?_⟩
      trivial
      refine ⟨by rw [nD_len]; exact Nat.lt_of_le_of_lt (by omega : Fd.length ≤ 100) (by decide), ?_⟩
      have pm : (L.eraseIdx r.toNat ++ (Fd ++ [L[r.toNat]])).Perm (L ++ Fd) := by
        have p1 := erase_perm L hr
        have p2 : (L.eraseIdx r.toNat ++ (Fd ++ [L[r.toNat]])).Perm (L[r.toNat] :: (L.eraseIdx r.toNat ++ Fd)) := by
          rw [← List.append_assoc]
          exact List.perm_append_singleton _ _
        exact p2.trans ((List.Perm.append_right Fd p1))
      have := ih (n + 1) ds' (L.eraseIdx r.toNat) (Fd ++ [L[r.toNat]]) (.ext x) hj' (by omega) (pm.nodup_iff.2 hd) (fun y hy => hm y (pm.mem_iff.1 hy)) (Nat.le_trans (List.length_eraseIdx_le _ _) hL)
        (by rw [List.length_append, List.length_singleton]; omega) fun ds2 L2 Fd2 u5 hj2 h2 h3 h4 => hE _ _ _ _ (by rw [List.length_cons]; exact hj2.up (by omega)) h2 h3 (by rw [List.length_append, List.length_singleton] at h4; rw [List.length_cons]; omega)
      rw [nD_app] at this
      have e : nD (L.eraseIdx r.toNat) = (nD L).eraseIdx r.toNat := map_erase _ _ _
      rw [e] at this
      exact this
    · exact ih n ds L Fd _ hj (by omega) hd hm hL (by omega) fun ds2 L2 Fd2 u5 hj2 h2 h3 h4 => hE _ _ _ _ (by rw [List.length_cons]; exact hj2.up (by omega)) h2 h3 (by rw [List.length_cons]; omega)
theorem rgD_nat (n : Nat) : rgD 0 (n : Int) = nD (List.range n) := by
  unfold rgD
  simp
theorem nat_of_ints {l : List Nat} {ns : List Int} (h : ns.Perm (l.map fun n : Nat => (n : Int))) : ∃ l' : List Nat, ns = l'.map (fun n : Nat => (n : Int)) ∧ l'.Perm l := by
  have h1 : ∀ x ∈ ns, 0 ≤ x := by
    intro x hx
    obtain ⟨y, _, rfl⟩ := List.mem_map.1 (h.mem_iff.1 hx)
    omega
  have e : ns = (ns.map Int.toNat).map fun n : Nat => (n : Int) := by
    rw [List.map_map]
    conv => lhs; rw [← List.map_id ns]
    refine List.map_congr_left fun x hx => ?_
    have := h1 x hx
    simp; omega
  refine ⟨ns.map Int.toNat, e, ?_⟩
  have := h.map Int.toNat
  rw [List.map_map] at this
  have e2 : l.map (Int.toNat ∘ fun n : Nat => (n : Int)) = l := by
    conv => rhs; rw [← List.map_id l]
    exact List.map_congr_left fun x _ => by simp
  rwa [e2] at this
theorem iD_nat (l : List Nat) : iD (l.map fun n : Nat => (n : Int)) = nD l := by simp [iD, nD]
theorem rising_of {l : List Nat} (h : (l.map fun n : Nat => (n : Int)).Pairwise (· ≤ ·)) (hn : l.Nodup) : Rising l := by
  rw [List.pairwise_map] at h
  exact (List.pairwise_and_iff.2 ⟨h, hn⟩).imp fun ⟨h1, h2⟩ => by
    have : _ ≠ _ := h2
    omega
theorem m_law_some : Meets t_law_some 3 3 sp_law_some := by
  rintro args Qd Xd ⟨n, a, ds, many, most, rfl, hj, hn, hm0, hm1, hQ⟩
  show t_law_some _ _ [_, _, _, .un, .un, .un]
  unfold t_law_some
  trivial
  refine ⟨RgOk.of_le (by omega) (by omega) (by omega) (by omega), fun a2 => ⟨by decide, fun a3 => ⟨n, a, ds, (most : Int) + 1, rfl, hj, by omega, by omega, by omega, fun r ds' fin r0 r1 hj' => ?_⟩⟩⟩
  trivial
  refine ⟨⟨by omega, by omega⟩, ?_⟩
  rw [rgD_nat]
  have hlen : (rgD 0 r).length = r.toNat := by simp [rgD]
  refine q1_law_some (many := many) _ (n + 1) ds' (List.range many) [] _ hj' (by omega) (by simpa using List.nodup_range) (by simp) (by simpa using hm0) (by simp; omega) fun ds2 L2 Fd2 u5 hj2 hd2 hm2 hl2 => ?_
  unfold k2_law_some
  trivial
  refine ⟨Fd2.map fun n : Nat => (n : Int), (iD_nat _).symm, fun ns' hp hw => ?_⟩
  obtain ⟨l, rfl, hl⟩ := nat_of_ints hp
  rw [show List.map D.int (List.map (fun n : Nat => (n : Int)) l) = nD l from iD_nat l]
  exact hQ l _ _ (rising_of hw (hl.nodup_iff.2 hd2)) (fun x hx => hm2 x (hl.mem_iff.1 hx)) (by rw [hl.length_eq]; simp at hl2; omega) (hj2.up (by omega))
abbrev dP (p : Part) : D := .tup [.tup (nD p.ns), .tup (iD p.ws)]
theorem psz_le {S ns : List Nat} (hS : ∀ s ∈ S, 0 < s) (h : Rising ns) (hl : ∀ n ∈ ns, n < S.length) : psz S ns ≤ prodN S := by
  have e : ns = (List.range S.length).filter fun n => decide (n ∈ ns) := by
    refine rising_ext h (List.Pairwise.filter _ List.pairwise_lt_range) fun n => ?_
    simp only [List.mem_filter, List.mem_range, decide_eq_true_eq]
    exact ⟨fun hn => ⟨hl n hn, hn⟩, fun hn => hn.2⟩
  have sub : ns.Sublist (List.range S.length) := by rw [e]; exact List.filter_sublist
  have e2 : (List.range S.length).map (sz S) = S := by
    refine List.ext_getElem? fun i => ?_
    rw [List.getElem?_map]
    by_cases hi : i < S.length
    · simp [List.getElem?_range hi, sz, List.getD_eq_getElem?_getD, List.getElem?_eq_getElem hi]
    · rw [List.getElem?_eq_none (by simpa using hi), List.getElem?_eq_none (by omega)]; rfl
  have sub2 : (ns.map (sz S)).Sublist S := by have := sub.map (sz S); rwa [e2] at this
  have gen : ∀ {a b : List Nat}, a.Sublist b → (∀ s ∈ b, 0 < s) → prodN a ≤ prodN b := by
    intro a b hs
    induction hs with
    | slnil => intro _; exact Nat.le_refl _
    | cons x h ih =>
      intro hb
      have h1 := ih fun s hs => hb s (List.mem_cons_of_mem _ hs)
      exact Nat.le_trans h1 (Nat.le_mul_of_pos_left _ (hb x List.mem_cons_self))
    | cons_cons x h ih =>
      intro hb
      exact Nat.mul_le_mul_left _ (ih fun s hs => hb s (List.mem_cons_of_mem _ hs))
  exact gen sub2 hS
theorem sz_mem {S : List Nat} {n : Nat} (h : n < S.length) : sz S n ∈ S := by
  unfold sz
  rw [List.getD_eq_getElem?_getD, List.getElem?_eq_getElem h]
  exact List.getElem_mem h
theorem sz_at {S : List Nat} {n : Nat} (h : n < S.length) : (nD S)[n]? = some (.int (sz S n : Nat)) := by
  unfold sz
  simp [List.getElem?_map, List.getD_eq_getElem?_getD, List.getElem?_eq_getElem h]
theorem rising_len {ns : List Nat} {m : Nat} (h : Rising ns) (hl : ∀ n ∈ ns, n < m) : ns.length ≤ m := by
  have e : ns = (List.range m).filter fun n => decide (n ∈ ns) := by
    refine rising_ext h (List.Pairwise.filter _ List.pairwise_lt_range) fun n => ?_
    simp only [List.mem_filter, List.mem_range, decide_eq_true_eq]
    exact ⟨fun hn => ⟨hl n hn, hn⟩, fun hn => hn.2⟩
  rw [e]
  have := List.length_filter_le (fun n => decide (n ∈ ns)) (List.range m)
  simpa using this
end LS
namespace LS
open PySem L2 HD PM
abbrev fD (fs : List (List Nat)) : List D := fs.map fun f => D.tup (nD f)
theorem fD_app (a b : List (List Nat)) : fD (a ++ b) = fD a ++ fD b := List.map_append
theorem fD_len (a : List (List Nat)) : (fD a).length = a.length := List.length_map _
def SqN (l : List Nat) (Z : D) : Prop := Z = .tup (nD l) ∨ Z = .lst (nD l)
theorem getD_at {g : List Nat} {n : Nat} (h : n < g.length) : (nD g)[n]? = some (.int (g.getD n 0 : Nat)) := by
  simp [List.getElem?_map, List.getD_eq_getElem?_getD, List.getElem?_eq_getElem h]
end LS
namespace LS
open PySem L2 HD PM
theorem isIn_nat (n : Nat) (l : List Nat) : (D.int (n : Nat)).isIn (nD l) = decide (n ∈ l) := by
  unfold D.isIn
  induction l with
  | nil => rfl
  | cons x l ih =>
    have e : inV (D.int (n : Nat)).toV ((nD (x :: l)).map D.toV) = (eqV (V.int (x : Nat)) (V.int (n : Nat)) || inV (D.int (n : Nat)).toV ((nD l).map D.toV)) := rfl
    rw [e, ih]
    have e2 : eqV (V.int (x : Nat)) (V.int (n : Nat)) = decide (n = x) := by
      simp only [eqV]
      by_cases h : n = x
      · subst h; simp
      · simp [h]; omega
    rw [e2]
    simp
theorem flat_nD (l : List Nat) : (nD l).all D.flat = true := by simp [D.flat]
end LS
namespace LS
open PySem L2 HD PM
def D.pl : Nat → D → Bool
  | _, .non => true
  | _, .bl _ => true
  | _, .int _ => true
  | _, .str _ => true
  | k + 1, .lst ds => decide (ds.length ≤ 100000) && ds.all (D.pl k)
  | k + 1, .tup ds => decide (ds.length ≤ 100000) && ds.all (D.pl k)
  | _, _ => false
theorem noVals_of {ds : List D} (h : ∀ d ∈ ds, d.noVal = true) : D.noVals ds = true := by
  induction ds with
  | nil => rfl
  | cons d ds ih => rw [D.noVals, h d List.mem_cons_self, ih fun e he => h e (List.mem_cons_of_mem _ he)]; rfl
theorem pl_noVal : ∀ (k : Nat) (d : D), D.pl k d = true → d.noVal = true := by
  intro k
  induction k with
  | zero => intro d h; cases d <;> first | rfl | simp [D.pl] at h
  | succ k ih =>
    intro d h
    cases d with
    | lst ds => rw [D.pl, Bool.and_eq_true, List.all_eq_true] at h; exact noVals_of fun e he => ih e (h.2 e he)
    | tup ds => rw [D.pl, Bool.and_eq_true, List.all_eq_true] at h; exact noVals_of fun e he => ih e (h.2 e he)
    | non => rfl
    | bl _ => rfl
    | int _ => rfl
    | str _ => rfl
    | val _ => simp [D.pl] at h
    | fz _ => simp [D.pl] at h
    | tk _ => simp [D.pl] at h
    | exc _ => simp [D.pl] at h
    | glo _ => simp [D.pl] at h
    | dk _ _ => simp [D.pl] at h
    | dt _ _ => simp [D.pl] at h
end LS
namespace LS
open PySem L2 HD PM
def D.pi : Nat → D → Bool
  | _, .non => true
  | _, .bl _ => true
  | _, .int _ => true
  | _, .str x => PyData.canLay0 (.str x)
  | k + 1, .lst ds => ds.all (D.pi k)
  | k + 1, .tup ds => ds.all (D.pi k)
  | _, _ => false
theorem pys_of {k : Nat} {ds : List D} (h : ∀ d ∈ ds, d.noVal = true ∧ d.py.canLay0 = true ∧ d.py.depth ≤ k) : D.noVals ds = true ∧ PyData.canLayAll0 (D.pys ds) = true ∧ PyData.depthAll (D.pys ds) ≤ k := by
  induction ds with
  | nil => exact ⟨rfl, rfl, by simp [D.pys, PyData.depthAll]⟩
  | cons d ds ih =>
    obtain ⟨h1, h2, h3⟩ := h d List.mem_cons_self
    obtain ⟨i1, i2, i3⟩ := ih fun e he => h e (List.mem_cons_of_mem _ he)
    refine ⟨by simp [D.noVals, h1, i1], by simp [D.pys, PyData.canLayAll0, h2, i2], ?_⟩
    simp only [D.pys, PyData.depthAll]
    omega
theorem pi_cmp0 : ∀ (k : Nat) (d : D), D.pi k d = true → d.noVal = true ∧ d.py.canLay0 = true ∧ d.py.depth ≤ k := by
  intro k
  induction k with
  | zero => intro d h; cases d <;> first | exact ⟨rfl, rfl, by simp [D.py, PyData.depth]⟩ | exact ⟨rfl, h, by simp [D.py, PyData.depth]⟩ | simp [D.pi] at h
  | succ k ih =>
    intro d h
    cases d with
    | lst ds =>
      rw [D.pi, List.all_eq_true] at h
      obtain ⟨h1, h2, h3⟩ := pys_of fun e he => ih e (h e he)
      exact ⟨h1, by simpa [D.py, PyData.canLay0] using h2, by simp only [D.py, PyData.depth]; omega⟩
    | tup ds =>
      rw [D.pi, List.all_eq_true] at h
      obtain ⟨h1, h2, h3⟩ := pys_of fun e he => ih e (h e he)
      exact ⟨h1, by simpa [D.py, PyData.canLay0] using h2, by simp only [D.py, PyData.depth]; omega⟩
    | non => exact ⟨rfl, rfl, by simp [D.py, PyData.depth]⟩
    | bl _ => exact ⟨rfl, rfl, by simp [D.py, PyData.depth]⟩
    | int _ => exact ⟨rfl, rfl, by simp [D.py, PyData.depth]⟩
    | str _ => exact ⟨rfl, h, by simp [D.py, PyData.depth]⟩
    | val _ => simp [D.pi] at h
    | fz _ => simp [D.pi] at h
    | tk _ => simp [D.pi] at h
    | exc _ => simp [D.pi] at h
    | glo _ => simp [D.pi] at h
    | dk _ _ => simp [D.pi] at h
    | dt _ _ => simp [D.pi] at h
theorem pi_cmp {k : Nat} {d : D} (hk : k ≤ 64) (h : D.pi k d = true) : d.cmp := by
  obtain ⟨h1, h2, h3⟩ := pi_cmp0 k d h
  refine ⟨h1, ?_⟩
  unfold SeqAt.shaped
  rw [h2]
  simp; omega
theorem pi_nats (k : Nat) (l : List Nat) : (nD l).all (D.pi k) = true := by
  rw [List.all_eq_true]
  intro d hd
  obtain ⟨i, _, rfl⟩ := List.mem_map.1 hd
  cases k <;> rfl
theorem pl_nats (k : Nat) (l : List Nat) : (nD l).all (D.pl k) = true := by
  rw [List.all_eq_true]
  intro d hd
  obtain ⟨i, _, rfl⟩ := List.mem_map.1 hd
  cases k <;> rfl
def Bd (k : Nat) (p : Part) : Prop := ∀ x ∈ p.ws, x.natAbs < 2 ^ k
end LS
namespace PM
open LS
def fold1 (op : Int → Int → Int) : List Int → Int
  | [] => 0
  | x :: xs => xs.foldl op x
def gop : Wd → Int → Int → Int
  | .sum, a, b => a + b
  | .least, a, b => if b < a then b else a
  | _, a, b => if a < b then b else a
abbrev gt (w : Wd) (l : List Int) : Int := fold1 (gop w) l
def put (g : Nat → Nat) (n v : Nat) : Nat → Nat := fun m => if m = n then v else g m
def wo (ns : List Nat) (n : Nat) : List Nat := ns.filter fun m => decide (m ≠ n)
def gathP (S : List Nat) (w : Wd) (p : Part) (n : Nat) : Part := mkP S (wo p.ns n) fun g => gt w ((List.range (sz S n)).map fun v => val S p (put g n v))
def widP (S : List Nat) (p : Part) (U : List Nat) : Part := mkP S U (val S p)
end PM
namespace LS
open PySem L2 HD PM
local macro_rules | `(tactic| trivial) => `(tactic| try simp -dsimp only [↓sSeq, ↓sIf, ↓sRet, ↓retD_ext, ↓retD_lst, ↓retD_al, ↓sSet, ↓sSetE, ↓sAsg, ↓sDrop, ↓sNext, ↓sFor, ↓sRetN, ↓sCont, ↓sBreak, ↓dTest, ↓dOp, ↓dVar_w, ↓dC, ↓dCons, ↓dNil, ↓dTup, ↓dLst, ↓frzDs, ↓frzD_ext, ↓frzD_lst, ↓frzD_al, ↓wd_ext, ↓wd_lst, ↓wd_al, ↓wds, ↓AtS_ext, ↓AtS_lst, ↓AtL, ↓fAdd, ↓fSub, ↓fMul, ↓fDiv, ↓fMod, ↓fPow, ↓fCmp, ↓fIn, ↓fEq_ii, ↓fEq_ss, ↓fEq_bb, ↓fEq_tt, ↓fEq_ll, ↓fNe_ii, ↓fNe_ss, ↓fNe_bb, ↓fNe_tt, ↓fNe_ll, ↓fIx_l, ↓fIx_t, ↓fIx_k, ↓fIx_f, ↓GetS_some, ↓NatS_some, ↓fSl, ↓fIsN, ↓fNotN, ↓D.knN, ↓dNot, ↓dAnd, ↓dOr, ↓dAndV_w, ↓dOrV_w, ↓dNotV, ↓dIf, ↓dNeg, ↓dChain_w, ↓BlS_bl, ↓dCall_w, ↓dCallJ_w, ↓anyAl, ↓frozs, ↓froz, ↓gSet, ↓gTupD, ↓gsCons, ↓gsNil, ↓dSeq, ↓seqD_tup, ↓seqD_elst, ↓seqD_lst, ↓seqD_al, ↓dRange1, ↓dRange2, ↓dZip, ↓dCB, ↓dLc, ↓dYes, ↓dNoPart, ↓dPart, ↓dSl, ↓fLen, ↓fMin, ↓fMax, ↓fSum, ↓fAll, ↓fAny, ↓fSorted, ↓fTuple, ↓fList, ↓dRg1, ↓dRg2, ↓dLstRg, ↓dTupRg, ↓dIndex, ↓fIdx, ↓dAppend_w, ↓dExtend_w, ↓extD_lst, ↓dPopAt_w, ↓popD_int, ↓dPop_w, ↓mutD_w, ↓sSetItem_w, ↓setD_int, ↓dSortSet, ↓dTable_w, ↓wipeE, finals1, finals2, finals3, finals4, finals5, finals6, fin1_ext, fin1_lst, List.getElem?_cons_zero, List.getElem?_cons_succ, List.getElem?_nil, List.set_cons_zero, List.set_cons_succ, List.cons_append, List.nil_append, List.append_nil, List.replicate_succ, List.replicate_zero, List.map_cons, List.map_nil, List.length_cons, List.length_nil, true_and, and_true, ite_true, ite_false, if_true, if_false, Bool.false_eq_true, decide_eq_true_eq, Sl.plain, D.isSq, eq_self_iff_true, forall_const, reduceIte, true_or, or_true, atI_0, atI_1, atI_2, atI_3, ixN_0, ixN_1, ixN_2, AtS_ext, AtS_lst, FzS_lst, FzS_ext, GetS_some, NatS_some, ↓fIsi1, ↓fIsi2, BoolS_some, HD.kb_non_tuple, HD.kb_non_list, HD.kb_non_bool, HD.kb_non_int, HD.kb_non_str, HD.kb_bl_tuple, HD.kb_bl_list, HD.kb_bl_bool, HD.kb_bl_int, HD.kb_bl_str, HD.kb_int_tuple, HD.kb_int_list, HD.kb_int_bool, HD.kb_int_int, HD.kb_int_str, HD.kb_str_tuple, HD.kb_str_list, HD.kb_str_bool, HD.kb_str_int, HD.kb_str_str, HD.kb_lst_tuple, HD.kb_lst_list, HD.kb_lst_bool, HD.kb_lst_int, HD.kb_lst_str, HD.kb_tup_tuple, HD.kb_tup_list, HD.kb_tup_bool, HD.kb_tup_int, HD.kb_tup_str, ↓sFz_w, ↓FzS_lst, ↓FzS_ext, ↓dSortSetL, ↓fAbs, ↓fInt, ↓fRepr, ↓fLtT, ↓sRaise, ↓sTryKeep, ↓dCallV_w, ↓dMeth, ↓fCount, ↓fSplit])
def D.isInt : D → Bool
  | .int _ => true
  | _ => false
def sp_is_whole : DSpec := fun args Q _ => ∃ (d : D) (k : Nat), args = [.ext d] ∧ D.pl k d = true ∧ ∀ fin, Q (.ext (.bl (D.isInt d))) fin
def t_is_whole : DTS :=
    (sRet (dAndV (dCB fIsi (dCons (dVar 0) (dCons (dC (.val (.ty "int"))) dNil))) (dNotV (dCB fIsi (dCons (dVar 0) (dCons (dC (.val (.ty "bool"))) dNil))))))
theorem m_is_whole : Meets t_is_whole 1 0 sp_is_whole := by
  rintro args Qd Xd ⟨d, k, rfl, hp, hQ⟩
  have nv := pl_noVal k d hp
  show t_is_whole _ _ [_]
  unfold t_is_whole
  cases d with
  | val _ => cases k <;> simp [D.pl] at hp
  | fz _ => cases k <;> simp [D.pl] at hp
  | tk _ => cases k <;> simp [D.pl] at hp
  | exc _ => cases k <;> simp [D.pl] at hp
  | glo _ => cases k <;> simp [D.pl] at hp
  | dk _ _ => cases k <;> simp [D.pl] at hp
  | dt _ _ => cases k <;> simp [D.pl] at hp
  | _ =>
    trivial
    simp only [nv, D.isFz, true_and, Bool.not_true, Bool.not_false]
    exact hQ _
def NamesD (many : Int) (d : D) : Prop := ∃ ns : List Nat, d = .tup (nD ns) ∧ Rising ns ∧ ∀ n ∈ ns, (n : Int) < many
def inR (many : Int) : D → Bool
  | .int i => decide (0 ≤ i) && decide (i < many)
  | _ => false
theorem all_inR {many : Int} {ds : List D} (h : ds.all (inR many) = true) : ∃ ns : List Nat, ds = nD ns ∧ ∀ n ∈ ns, (n : Int) < many := by
  induction ds with
  | nil => exact ⟨[], rfl, by simp⟩
  | cons d ds ih =>
    rw [List.all_cons, Bool.and_eq_true] at h
    obtain ⟨ns, rfl, h2⟩ := ih h.2
    cases d with
    | int i =>
      have h1 : decide (0 ≤ i) && decide (i < many) := h.1
      rw [Bool.and_eq_true, decide_eq_true_eq, decide_eq_true_eq] at h1
      refine ⟨i.toNat :: ns, ?_, fun n hn => ?_⟩
      · rw [nD_cons, Int.toNat_of_nonneg h1.1]
      · rcases List.mem_cons.1 hn with rfl | hn
        · omega
        · exact h2 n hn
    | _ => exact absurd h.1 (by simp [inR])
theorem inR_all {many : Int} {ns : List Nat} (h : ∀ n ∈ ns, (n : Int) < many) : (nD ns).all (inR many) = true := by
  rw [List.all_eq_true]
  intro d hd
  obtain ⟨n, hn, rfl⟩ := List.mem_map.1 hd
  have := h n hn
  simp [inR]; omega
theorem rising_adj {ns : List Nat} : Rising ns ↔ ∀ k, k + 1 < ns.length → ns.getD k 0 < ns.getD (k + 1) 0 := by
  induction ns with
  | nil => exact ⟨fun _ k hk => by simp at hk, fun _ => .nil⟩
  | cons x ns ih =>
    unfold Rising at *
    rw [List.pairwise_cons, ih]
    constructor
    · rintro ⟨h1, h2⟩ k hk
      cases k with
      | zero =>
        cases ns with
        | nil => simp at hk
        | cons y ns => simpa using h1 y List.mem_cons_self
      | succ k => simpa using h2 k (by simpa using hk)
    · intro h
      refine ⟨?_, fun k hk => by simpa using h (k + 1) (by simpa using hk)⟩
      have h2 : ∀ k, k < ns.length → x < ns.getD k 0 := by
        intro k
        induction k with
        | zero =>
          intro hk
          have := h 0 (by simp; omega)
          simpa using this
        | succ k ihk =>
          intro hk
          have a := ihk (by omega)
          have b := h (k + 1) (by simp; omega)
          have b' : ns.getD k 0 < ns.getD (k + 1) 0 := by simpa using b
          omega
      intro y hy
      obtain ⟨i, hi, rfl⟩ := List.getElem_of_mem hy
      have := h2 i hi
      simpa [List.getD_eq_getElem?_getD, List.getElem?_eq_getElem hi] using this
theorem nD_inj {a b : List Nat} (h : nD a = nD b) : a = b := by
  induction a generalizing b with
  | nil => cases b with
    | nil => rfl
    | cons y b => simp at h
  | cons x a ih => cases b with
    | nil => simp at h
    | cons y b =>
      rw [nD_cons, nD_cons] at h
      have h1 := (List.cons.inj h).1
      have h2 := ih (List.cons.inj h).2
      have h3 := D.int.inj h1
      rw [h2, show x = y by omega]
def sp_are_names : DSpec := fun args Q _ => ∃ (many : Int) (d : D) (k : Nat), args = [dI many, .ext d] ∧ D.pl k d = true ∧ ∀ (b : Bool) fin, (b = true ↔ NamesD many d) → Q (.ext (.bl b)) fin
def e1_are_names : DT :=
    (dAndV (dCall sp_is_whole (dCons (dVar 2) dNil)) (dChain (fCmp fun i j => decide (i ≤ j)) (fCmp fun i j => decide (i < j)) (dC (.int 0)) (dVar 2) (dVar 0)))
def e2_are_names : DT :=
    (dOp (fCmp fun i j => decide (i < j)) (dOp fIx (dVar 1) (dOp fSub (dVar 3) (dC (.int 1)))) (dOp fIx (dVar 1) (dVar 3)))
def t_are_names : DTS :=
    (sSeq (sIf (dOr (dNot (dTest (dCB fIsi (dCons (dVar 1) (dCons (dC (.val (.ty "tuple"))) dNil))))) (dNot (dTest (dCB fAll (dCons (dLc (dSeq (dVar 1)) (gSet 2) dYes e1_are_names [2]) dNil))))) (sRet (dC (.bl false))) sNext)
    (sRet (dCB fAll (dCons (dLc (dRange2 (dCons (dC (.int 1)) (dCons (dCB fLen (dCons (dVar 1) dNil)) dNil))) (gSet 3) dYes e2_are_names [3]) dNil))))
theorem q1_are_names {Q : Sl → Env' → Prop} {many : Int} {s1 s3 : Sl} {k : Nat} (ds : List D) : ∀ acc : List Bool, (∀ d ∈ ds, D.pl k d = true) → acc.length + ds.length ≤ 200000 → (∀ b, Q (.lst b ((acc ++ ds.map (inR many)).map D.bl)) [dI many, s1, .un, s3]) →
    lcD (gSet 2) dYes e1_are_names [2] (fun _ => True) Q ds (acc.map D.bl) [dI many, s1, .un, s3] := by
  induction ds with
  | nil => intro acc _ _ hQ; exact ⟨True.intro, fun b => by simpa using hQ b⟩
  | cons d ds ih =>
    intro acc hp hl hQ
    rw [List.length_cons] at hl
    rw [lcD]
    unfold e1_are_names
    trivial
    refine ⟨by rw [List.length_map]; exact Nat.lt_of_le_of_lt (by omega : acc.length ≤ 200000) (by decide), d, k, rfl, hp d List.mem_cons_self, fun fin => ?_⟩
    trivial
    have next : ∀ b : Bool, b = inR many d → lcD (gSet 2) dYes e1_are_names [2] (fun _ => True) Q ds (acc.map D.bl ++ [.bl b]) [dI many, s1, .un, s3] := by
      intro b hb
      have := ih (acc ++ [b]) (fun e he => hp e (List.mem_cons_of_mem _ he)) (by rw [List.length_append, List.length_singleton]; omega) (fun a => by rw [hb]; simpa using hQ a)
      rw [List.map_append] at this
      exact this
    cases d with
    | int i =>
      rw [if_pos (show D.isInt (.int i) = true from rfl)]
      trivial
      split
      · refine next _ ?_
        rename_i h0
        simp [inR, h0]
      · refine next _ ?_
        rename_i h0
        simp [inR, h0]
    | _ =>
      rw [if_neg (by simp [D.isInt])]
      exact next _ rfl
theorem q2_are_names {Q : Sl → Env' → Prop} {s0 s2 : Sl} {ns : List Nat} (m : Nat) : ∀ (j : Nat) (acc : List Bool), j + m = ns.length - 1 → acc.length = j → ns.length ≤ 200000 → (∀ b, Q (.lst b ((acc ++ (List.range m).map fun i => decide (ns.getD (j + i) 0 < ns.getD (j + i + 1) 0)).map D.bl)) [s0, .ext (.tup (nD ns)), s2, .un]) →
    lcD (gSet 3) dYes e2_are_names [3] (fun _ => True) Q ((List.range m).map fun i => D.int (1 + ((j + i : Nat) : Int))) (acc.map D.bl) [s0, .ext (.tup (nD ns)), s2, .un] := by
  induction m with
  | zero => intro j acc _ _ _ hQ; exact ⟨True.intro, fun b => by simpa using hQ b⟩
  | succ m ih =>
    intro j acc hj ha hl hQ
    rw [List.range_succ_eq_map, List.map_cons, List.map_map, lcD]
    unfold e2_are_names
    trivial
    refine ⟨by rw [List.length_map]; exact Nat.lt_of_le_of_lt (by omega : acc.length ≤ 200000) (by decide), ?_⟩
    rw [show (1 + ((j + 0 : Nat) : Int) - 1) = ((j : Nat) : Int) by omega, show (1 + ((j + 0 : Nat) : Int)) = ((j + 1 : Nat) : Int) by omega]
    refine ⟨_, atN (getD_at (g := ns) (n := j) (by omega)), ?_⟩
    trivial
    refine ⟨_, atN (getD_at (g := ns) (n := j + 1) (by omega)), ?_⟩
    trivial
    have := ih (j + 1) (acc ++ [decide (ns.getD j 0 < ns.getD (j + 1) 0)]) (by omega) (by simp; omega) hl (fun b => by
      have := hQ b
      rw [List.range_succ_eq_map, List.map_cons, List.map_map] at this
      rw [List.append_assoc]
      have e : ((List.range m).map fun i => decide (ns.getD (j + 1 + i) 0 < ns.getD (j + 1 + i + 1) 0)) = (List.range m).map ((fun i => decide (ns.getD (j + i) 0 < ns.getD (j + i + 1) 0)) ∘ Nat.succ) :=
        List.map_congr_left fun i _ => by show _ = decide (ns.getD (j + (i + 1)) 0 < ns.getD (j + (i + 1) + 1) 0); rw [show j + 1 + i = j + (i + 1) by omega]
      rw [e]
      exact this)
    rw [List.map_append] at this
    have e : ((List.range m).map ((fun i : Nat => D.int (1 + ((j + i : Nat) : Int))) ∘ Nat.succ)) = (List.range m).map fun i : Nat => D.int (1 + ((j + 1 + i : Nat) : Int)) :=
      List.map_congr_left fun i _ => by show D.int (1 + ((j + (i + 1) : Nat) : Int)) = _; rw [show j + 1 + i = j + (i + 1) by omega]
    rw [e]
    have e2 : decide (((ns.getD j 0 : Nat) : Int) < ((ns.getD (j + 1) 0 : Nat) : Int)) = decide (ns.getD j 0 < ns.getD (j + 1) 0) := by
      simp
    rw [e2]
    exact this
theorem m_are_names : Meets t_are_names 2 2 sp_are_names := by
  rintro args Qd Xd ⟨many, d, k, rfl, hp, hQ⟩
  have nv := pl_noVal k d hp
  show t_are_names _ _ [_, _, .un, .un]
  unfold t_are_names
  cases d with
  | val _ => cases k <;> simp [D.pl] at hp
  | fz _ => cases k <;> simp [D.pl] at hp
  | tk _ => cases k <;> simp [D.pl] at hp
  | exc _ => cases k <;> simp [D.pl] at hp
  | glo _ => cases k <;> simp [D.pl] at hp
  | dk _ _ => cases k <;> simp [D.pl] at hp
  | dt _ _ => cases k <;> simp [D.pl] at hp
  | tup ds =>
    cases k with
    | zero => simp [D.pl] at hp
    | succ k =>
      rw [D.pl, Bool.and_eq_true, List.all_eq_true, decide_eq_true_eq] at hp
      trivial
      simp only [nv, D.isFz, true_and, Bool.not_true, Bool.false_eq_true, if_false]
      refine q1_are_names (k := k) ds [] hp.2 (by simp; omega) fun b => ?_
      trivial
      refine ⟨ds.map (inR many), rfl, ?_⟩
      have ea : (ds.map (inR many)).all id = ds.all (inR many) := by rw [List.all_map]; rfl
      rw [ea]
      by_cases h : ds.all (inR many) = true
      · rw [h, if_neg (by simp)]
        obtain ⟨ns, rfl, hns⟩ := all_inR h
        rw [nD_len] at *
        trivial
        refine ⟨⟨by omega, by omega⟩, ⟨by omega, by omega⟩, ?_⟩
        have er : rgD 1 (ns.length : Int) = (List.range (ns.length - 1)).map fun i : Nat => D.int (1 + ((0 + i : Nat) : Int)) := by
          unfold rgD
          rw [show ((ns.length : Int) - 1).toNat = ns.length - 1 by omega]
          exact List.map_congr_left fun i _ => by rw [Nat.zero_add]
        rw [er]
        refine q2_are_names (ns.length - 1) 0 [] (by omega) rfl (by omega) fun b => ?_
        trivial
        refine ⟨_, rfl, ?_⟩
        refine hQ _ _ ?_
        rw [List.all_map, List.all_eq_true]
        constructor
        · intro hr
          refine ⟨ns, rfl, rising_adj.2 fun j hj => ?_, hns⟩
          have := hr j (List.mem_range.2 (by omega))
          simpa using this
        · rintro ⟨ns', e, hr, _⟩ j hj
          have e' : ns = ns' := by
            have := D.tup.inj e
            exact nD_inj this
          subst e'
          have := rising_adj.1 hr j (by have := List.mem_range.1 hj; omega)
          simpa using this
      · have hf : ds.all (inR many) = false := by simpa using h
        rw [hf, if_pos (by simp)]
        refine hQ _ _ ⟨fun z => by simp at z, ?_⟩
        rintro ⟨ns, e, _, hn⟩
        have e := D.tup.inj e
        subst e
        exact absurd (inR_all hn) h
  | _ =>
    trivial
    simp only [nv, D.isFz, true_and, Bool.not_false, if_true]
    exact hQ _ _ ⟨fun z => by simp at z, fun ⟨_, e, _⟩ => by simp at e⟩
theorem pl_tupN (ns : List Nat) (h : ns.length ≤ 100000) : D.pl 1 (.tup (nD ns)) = true := by
  simp only [D.pl, pl_nats, nD_len, h]
  rfl
end LS
namespace LS
open PySem L2 HD PM
theorem R_if {R : Option HD.D → HD.Env' → Prop} {b b' : Bool} {x : HD.D} {env : HD.Env'} (e : b = b') (h : R (if b' = true then some x else none) env) : if b = true then R (some x) env else R none env := by
  subst e
  cases b <;> exact h
end LS
namespace LS
open PySem L2 HD PM
abbrev dPs (ps : List Part) : D := .tup (ps.map dP)
abbrev dSh (S : List Nat) (ps : List Part) : D := .tup [.tup (nD S), dPs ps]
structure ShOk (S : List Nat) (ps : List Part) : Prop where
  sz : SzOk S
  one : 0 < S.length
  ok : ∀ p ∈ ps, p.Ok S
  bd : ∃ b, 0 < b ∧ b * ps.length ≤ 40 * max ps.length 20 ∧ ∀ p ∈ ps, Bd b p
  few : ps.length ≤ 60
structure ShO4 (S : List Nat) (ps : List Part) : Prop extends ShOk S ps where
  b4 : ∀ p ∈ ps, Bd 40 p
instance {S : List Nat} {ps : List Part} : Coe (ShO4 S ps) (ShOk S ps) := ⟨fun h => h.toShOk⟩
end LS
namespace LS
open PySem L2 HD PM
abbrev cI (l : List Nat) : List Int := l.map fun n : Nat => (n : Int)
end LS
namespace LS
namespace K02
open PySem L2 HD PM
local macro_rules | `(tactic| trivial) => `(tactic| try simp -dsimp only [↓sSeq, ↓sIf, ↓sRet, ↓retD_ext, ↓retD_lst, ↓retD_al, ↓sSet, ↓sSetE, ↓sAsg, ↓sDrop, ↓sNext, ↓sFor, ↓sRetN, ↓sCont, ↓sBreak, ↓dTest, ↓dOp, ↓dVar_w, ↓dC, ↓dCons, ↓dNil, ↓dTup, ↓dLst, ↓frzDs, ↓frzD_ext, ↓frzD_lst, ↓frzD_al, ↓wd_ext, ↓wd_lst, ↓wd_al, ↓wds, ↓AtS_ext, ↓AtS_lst, ↓AtL, ↓fAdd, ↓fSub, ↓fMul, ↓fDiv, ↓fMod, ↓fPow, ↓fCmp, ↓fIn, ↓fEq_ii, ↓fEq_ss, ↓fEq_bb, ↓fEq_tt, ↓fEq_ll, ↓fNe_ii, ↓fNe_ss, ↓fNe_bb, ↓fNe_tt, ↓fNe_ll, ↓fIx_l, ↓fIx_t, ↓fIx_k, ↓fIx_f, ↓GetS_some, ↓NatS_some, ↓fSl, ↓fIsN, ↓fNotN, ↓D.knN, ↓dNot, ↓dAnd, ↓dOr, ↓dAndV_w, ↓dOrV_w, ↓dNotV, ↓dIf, ↓dNeg, ↓dChain_w, ↓BlS_bl, ↓dCall_w, ↓dCallJ_w, ↓anyAl, ↓frozs, ↓froz, ↓gSet, ↓gTupD, ↓gsCons, ↓gsNil, ↓dSeq, ↓seqD_tup, ↓seqD_elst, ↓seqD_lst, ↓seqD_al, ↓dRange1, ↓dRange2, ↓dZip, ↓dCB, ↓dLc, ↓dYes, ↓dNoPart, ↓dPart, ↓dSl, ↓fLen, ↓fMin, ↓fMax, ↓fSum, ↓fAll, ↓fAny, ↓fSorted, ↓fTuple, ↓fList, ↓dRg1, ↓dRg2, ↓dLstRg, ↓dTupRg, ↓dIndex, ↓fIdx, ↓dAppend_w, ↓dExtend_w, ↓extD_lst, ↓dPopAt_w, ↓popD_int, ↓dPop_w, ↓mutD_w, ↓sSetItem_w, ↓setD_int, ↓dSortSet, ↓dTable_w, ↓wipeE, finals1, finals2, finals3, finals4, finals5, finals6, fin1_ext, fin1_lst, List.getElem?_cons_zero, List.getElem?_cons_succ, List.getElem?_nil, List.set_cons_zero, List.set_cons_succ, List.cons_append, List.nil_append, List.append_nil, List.replicate_succ, List.replicate_zero, List.map_cons, List.map_nil, List.length_cons, List.length_nil, true_and, and_true, ite_true, ite_false, if_true, if_false, Bool.false_eq_true, decide_eq_true_eq, Sl.plain, D.isSq, eq_self_iff_true, forall_const, reduceIte, true_or, or_true, atI_0, atI_1, atI_2, atI_3, ixN_0, ixN_1, ixN_2, AtS_ext, AtS_lst, FzS_lst, FzS_ext, GetS_some, NatS_some, ↓fIsi1, ↓fIsi2, BoolS_some, HD.kb_non_tuple, HD.kb_non_list, HD.kb_non_bool, HD.kb_non_int, HD.kb_non_str, HD.kb_bl_tuple, HD.kb_bl_list, HD.kb_bl_bool, HD.kb_bl_int, HD.kb_bl_str, HD.kb_int_tuple, HD.kb_int_list, HD.kb_int_bool, HD.kb_int_int, HD.kb_int_str, HD.kb_str_tuple, HD.kb_str_list, HD.kb_str_bool, HD.kb_str_int, HD.kb_str_str, HD.kb_lst_tuple, HD.kb_lst_list, HD.kb_lst_bool, HD.kb_lst_int, HD.kb_lst_str, HD.kb_tup_tuple, HD.kb_tup_list, HD.kb_tup_bool, HD.kb_tup_int, HD.kb_tup_str, ↓sFz_w, ↓FzS_lst, ↓FzS_ext, ↓dSortSetL, ↓fAbs, ↓fInt, ↓fRepr, ↓fLtT, ↓sRaise, ↓sTryKeep, ↓dCallV_w, ↓dMeth, ↓fCount, ↓fSplit, dStep, fStep])
def sp_law_whole_number : DSpec := sp_is_whole
def t_law_whole_number : DTS :=
    (sRet (dAndV (dCB fIsi (dCons (dVar 0) (dCons (dC (.val (.ty "int"))) dNil))) (dNotV (dCB fIsi (dCons (dVar 0) (dCons (dC (.val (.ty "bool"))) dNil))))))
theorem m_law_whole_number : Meets t_law_whole_number 1 0 sp_law_whole_number := by
  rintro args Qd Xd ⟨d, k, rfl, hp, hQ⟩
  have nv := pl_noVal k d hp
  show t_law_whole_number _ _ [_]
  unfold t_law_whole_number
  cases d with
  | val _ => cases k <;> simp [D.pl] at hp
  | fz _ => cases k <;> simp [D.pl] at hp
  | tk _ => cases k <;> simp [D.pl] at hp
  | exc _ => cases k <;> simp [D.pl] at hp
  | glo _ => cases k <;> simp [D.pl] at hp
  | dk _ _ => cases k <;> simp [D.pl] at hp
  | dt _ _ => cases k <;> simp [D.pl] at hp
  | _ =>
    trivial
    simp only [nv, D.isFz, true_and, Bool.not_true, Bool.not_false]
    exact hQ _
theorem lc_filterD {g : DTG} {tt : DTT} {te : DT} {vs : List Nat} {keep : Env' → Prop} {Q : Sl → Env' → Prop} {env : Env'} (f : D → D) (p : D → Bool) (hk : keep env) (xs : List D) (hl : xs.length ≤ sizeLine)
    (h : ∀ x ∈ xs, ∀ R : Option D → Env' → Prop, R (if p x = true then some (f x) else none) env → g x env fun env1 => tt noX env1 fun b env2 => if b = true then te noX env2 fun y env3 => frzD env3 y fun d' env4 => R (some d') (wipeE env4 vs) else R none (wipeE env2 vs))
    (hQ : ∀ a, Q (.lst a ((xs.filter p).map f)) env) : lcD g tt te vs keep Q xs [] env := by
  have := lc_filter (g := g) (tt := tt) (te := te) (vs := vs) (keep := keep) (Q := Q) (fun d : D => d) f p hk xs hl h hQ
  rwa [List.map_id'] at this
end K02
end LS
namespace LS
namespace K01
open PySem L2 HD PM
open K02 (sp_law_whole_number lc_filterD)
local macro_rules | `(tactic| trivial) => `(tactic| try simp -dsimp only [↓sSeq, ↓sIf, ↓sRet, ↓retD_ext, ↓retD_lst, ↓retD_al, ↓sSet, ↓sSetE, ↓sAsg, ↓sDrop, ↓sNext, ↓sFor, ↓sRetN, ↓sCont, ↓sBreak, ↓dTest, ↓dOp, ↓dVar_w, ↓dC, ↓dCons, ↓dNil, ↓dTup, ↓dLst, ↓frzDs, ↓frzD_ext, ↓frzD_lst, ↓frzD_al, ↓wd_ext, ↓wd_lst, ↓wd_al, ↓wds, ↓AtS_ext, ↓AtS_lst, ↓AtL, ↓fAdd, ↓fSub, ↓fMul, ↓fDiv, ↓fMod, ↓fPow, ↓fCmp, ↓fIn, ↓fEq_ii, ↓fEq_ss, ↓fEq_bb, ↓fEq_tt, ↓fEq_ll, ↓fNe_ii, ↓fNe_ss, ↓fNe_bb, ↓fNe_tt, ↓fNe_ll, ↓fIx_l, ↓fIx_t, ↓fIx_k, ↓fIx_f, ↓GetS_some, ↓NatS_some, ↓fSl, ↓fIsN, ↓fNotN, ↓D.knN, ↓dNot, ↓dAnd, ↓dOr, ↓dAndV_w, ↓dOrV_w, ↓dNotV, ↓dIf, ↓dNeg, ↓dChain_w, ↓BlS_bl, ↓dCall_w, ↓dCallJ_w, ↓anyAl, ↓frozs, ↓froz, ↓gSet, ↓gTupD, ↓gsCons, ↓gsNil, ↓dSeq, ↓seqD_tup, ↓seqD_elst, ↓seqD_lst, ↓seqD_al, ↓dRange1, ↓dRange2, ↓dZip, ↓dCB, ↓dLc, ↓dYes, ↓dNoPart, ↓dPart, ↓dSl, ↓fLen, ↓fMin, ↓fMax, ↓fSum, ↓fAll, ↓fAny, ↓fSorted, ↓fTuple, ↓fList, ↓dRg1, ↓dRg2, ↓dLstRg, ↓dTupRg, ↓dIndex, ↓fIdx, ↓dAppend_w, ↓dExtend_w, ↓extD_lst, ↓dPopAt_w, ↓popD_int, ↓dPop_w, ↓mutD_w, ↓sSetItem_w, ↓setD_int, ↓dSortSet, ↓dTable_w, ↓wipeE, finals1, finals2, finals3, finals4, finals5, finals6, fin1_ext, fin1_lst, List.getElem?_cons_zero, List.getElem?_cons_succ, List.getElem?_nil, List.set_cons_zero, List.set_cons_succ, List.cons_append, List.nil_append, List.append_nil, List.replicate_succ, List.replicate_zero, List.map_cons, List.map_nil, List.length_cons, List.length_nil, true_and, and_true, ite_true, ite_false, if_true, if_false, Bool.false_eq_true, decide_eq_true_eq, Sl.plain, D.isSq, eq_self_iff_true, forall_const, reduceIte, true_or, or_true, atI_0, atI_1, atI_2, atI_3, ixN_0, ixN_1, ixN_2, AtS_ext, AtS_lst, FzS_lst, FzS_ext, GetS_some, NatS_some, ↓fIsi1, ↓fIsi2, BoolS_some, HD.kb_non_tuple, HD.kb_non_list, HD.kb_non_bool, HD.kb_non_int, HD.kb_non_str, HD.kb_bl_tuple, HD.kb_bl_list, HD.kb_bl_bool, HD.kb_bl_int, HD.kb_bl_str, HD.kb_int_tuple, HD.kb_int_list, HD.kb_int_bool, HD.kb_int_int, HD.kb_int_str, HD.kb_str_tuple, HD.kb_str_list, HD.kb_str_bool, HD.kb_str_int, HD.kb_str_str, HD.kb_lst_tuple, HD.kb_lst_list, HD.kb_lst_bool, HD.kb_lst_int, HD.kb_lst_str, HD.kb_tup_tuple, HD.kb_tup_list, HD.kb_tup_bool, HD.kb_tup_int, HD.kb_tup_str, ↓sFz_w, ↓FzS_lst, ↓FzS_ext, ↓dSortSetL, ↓fAbs, ↓fInt, ↓fRepr, ↓fLtT, ↓sRaise, ↓sTryKeep, ↓dCallV_w, ↓dMeth, ↓fCount, ↓fSplit, dStep, fStep, fMulT, fIsB, fNotB])
theorem lc_mapD {g : DTG} {te : DT} {vs : List Nat} {keep : Env' → Prop} {Q : Sl → Env' → Prop} {env : Env'} (f : D → D) (hk : keep env) (xs : List D) (hl : xs.length ≤ sizeLine)
    (h : ∀ x ∈ xs, ∀ R : D → Env' → Prop, R (f x) env → g x env fun env1 => te noX env1 fun y env3 => frzD env3 y fun d' env4 => R d' (wipeE env4 vs))
    (hQ : ∀ a, Q (.lst a (xs.map f)) env) : lcD g dYes te vs keep Q xs [] env := by
  have := lc_map (g := g) (te := te) (vs := vs) (keep := keep) (Q := Q) (fun d : D => d) f hk xs hl h hQ
  rwa [List.map_id'] at this
structure Sz12 (S : List Nat) : Prop where
  one : 0 < S.length
  most : S.length ≤ 12
  r : ∀ s ∈ S, 1 ≤ s ∧ s ≤ 4
  pr : prodN S ≤ 4000
def NumD (i : Int) : Prop := -1000000000000 ≤ i ∧ i ≤ 1000000000000
theorem pl_tup {k : Nat} {ds : List D} (h : D.pl (k + 1) (.tup ds) = true) : ds.length ≤ 100000 ∧ ∀ d ∈ ds, D.pl k d = true := by
  rw [D.pl, Bool.and_eq_true, List.all_eq_true, decide_eq_true_eq] at h
  exact h
def btw (lo hi : Int) : D → Bool
  | .int i => decide (lo ≤ i) && decide (i ≤ hi)
  | _ => false
theorem all_btw {lo hi : Int} {ds : List D} : ds.all (btw lo hi) = true ↔ ∃ l : List Int, ds = iD l ∧ ∀ i ∈ l, lo ≤ i ∧ i ≤ hi := by
  constructor
  · intro h
    induction ds with
    | nil => exact ⟨[], rfl, by simp⟩
    | cons d ds ih =>
      rw [List.all_cons, Bool.and_eq_true] at h
      obtain ⟨l, rfl, hl⟩ := ih h.2
      have hd := h.1
      cases d with
      | int i =>
        simp only [btw, Bool.and_eq_true, decide_eq_true_eq] at hd
        exact ⟨i :: l, rfl, fun j hj => by
          rcases List.mem_cons.1 hj with rfl | hj
          · exact hd
          · exact hl j hj⟩
      | _ => simp [btw] at hd
  · rintro ⟨l, rfl, hl⟩
    rw [List.all_eq_true]
    intro d hd
    obtain ⟨i, hi', rfl⟩ := List.mem_map.1 hd
    have := hl i hi'
    simp [btw, this.1, this.2]
theorem iD_nat {l : List Int} (h : ∀ i ∈ l, 0 ≤ i) : ∃ ns : List Nat, iD l = nD ns ∧ ns.length = l.length ∧ ∀ n ∈ ns, (n : Int) ∈ l := by
  refine ⟨l.map Int.toNat, ?_, by simp, fun n hn => ?_⟩
  · rw [iD, nD, List.map_map]
    exact List.map_congr_left fun i hi' => by
      show D.int i = D.int ((i.toNat : Nat) : Int)
      rw [Int.toNat_of_nonneg (h i hi')]
  · obtain ⟨i, hi', rfl⟩ := List.mem_map.1 hn
    rw [Int.toNat_of_nonneg (h i hi')]
    exact hi'
theorem nD_iD (ns : List Nat) : nD ns = iD (ns.map fun n : Nat => (n : Int)) := by
  rw [iD, nD, List.map_map]
  rfl
def sp_product : DSpec := sp_law_times
theorem names_sz {S ns : List Nat} (h : Sz12 S) (hr : Rising ns) (hl : ∀ n ∈ ns, n < S.length) : psz S ns ≤ 4000 := Nat.le_trans (psz_le (fun s hs => (h.r s hs).1) hr hl) h.pr
def WorthsD (m : Nat) (d : D) : Prop := ∃ ws : List Int, d = .tup (iD ws) ∧ ws.length = m ∧ ∀ x ∈ ws, NumD x
def sp_are_worths : DSpec := fun args Q _ => ∃ (S ns : List Nat) (d : D) (k : Nat), args = [dSz S, .ext (.tup (nD ns)), .ext d] ∧ Sz12 S ∧ Rising ns ∧ (∀ n ∈ ns, n < S.length) ∧ D.pl k d = true ∧ ∀ (b : Bool) fin, (b = true ↔ WorthsD (psz S ns) d) → Q (.ext (.bl b)) fin
def e1_are_worths : DT :=
    (dOp fIx (dVar 0) (dVar 3))
def e2_are_worths : DT :=
    (dAndV (dCall sp_is_whole (dCons (dVar 4) dNil)) (dChain (fCmp fun i j => decide (i ≤ j)) (fCmp fun i j => decide (i ≤ j)) (dOp fSub (dC (.int 0)) (dC (.int 1000000000000))) (dVar 4) (dC (.int 1000000000000))))
def k3_are_worths : DTS :=
    (sRet (dCB fAll (dCons (dLc (dSeq (dVar 2)) (gSet 4) dYes e2_are_worths [4]) dNil)))
def t_are_worths : DTS :=
    (sSeq (sIf (dOr (dNot (dTest (dCB fIsi (dCons (dVar 2) (dCons (dC (.val (.ty "tuple"))) dNil))))) (dTest (dOp fNe (dCB fLen (dCons (dVar 2) dNil)) (dCall sp_product (dCons (dLc (dSeq (dVar 1)) (gSet 3) dYes e1_are_worths [3]) dNil))))) (sRet (dC (.bl false))) sNext)
    k3_are_worths)
theorem m_are_worths : Meets t_are_worths 3 2 sp_are_worths := by
  rintro args Qd Xd ⟨S, ns, d, k, rfl, hS, hr, hlt, hp, hQ⟩
  have nv := pl_noVal k d hp
  show t_are_worths _ _ [_, _, _, .un, .un]
  unfold t_are_worths
  have hns : ns.length ≤ 12 := Nat.le_trans (rising_len hr hlt) hS.most
  cases d with
  | val _ => cases k <;> simp [D.pl] at hp
  | fz _ => cases k <;> simp [D.pl] at hp
  | tk _ => cases k <;> simp [D.pl] at hp
  | exc _ => cases k <;> simp [D.pl] at hp
  | glo _ => cases k <;> simp [D.pl] at hp
  | dk _ _ => cases k <;> simp [D.pl] at hp
  | dt _ _ => cases k <;> simp [D.pl] at hp
  | tup ds =>
    cases k with
    | zero => simp [D.pl] at hp
    | succ k =>
      have hp := pl_tup hp
      trivial
      simp only [nv, D.isFz, true_and, Bool.not_true, Bool.false_eq_true, if_false]
      rw [show nD ns = ns.map (fun n : Nat => D.int (n : Nat)) from rfl]
      refine lc_map (fun n : Nat => D.int (n : Nat)) (fun n => .int (sz S n : Nat)) True.intro ns (Nat.le_trans (by omega : _ ≤ 100) (by decide)) (fun n hn R hR => ?_) fun b => ?_
      · unfold e1_are_worths
        trivial
        refine ⟨_, atN (sz_at (hlt n hn)), ?_⟩
        trivial
        exact hR
      trivial
      have h4 := names_sz hS hr hlt
      refine ⟨ns.map (sz S), .inl (by rw [nD, List.map_map]; rfl), fun x hx => ?_, Nat.lt_of_le_of_lt h4 (by decide), fun fin => ?_⟩
      · obtain ⟨n, hn, rfl⟩ := List.mem_map.1 hx
        exact (hS.r _ (sz_mem (hlt n hn))).1
      trivial
      rw [show prodN (ns.map (sz S)) = psz S ns from rfl]
      by_cases hl : ds.length = psz S ns
      · rw [if_neg (by simp; omega)]
        unfold k3_are_worths
        trivial
        refine lc_mapD (fun d => .bl (btw (-1000000000000) 1000000000000 d)) True.intro ds (Nat.le_trans (by omega : _ ≤ 4000) (by decide)) (fun d hd R hR => ?_) fun b => ?_
        · unfold e2_are_worths
          trivial
          refine ⟨d, k, rfl, hp.2 d hd, fun fin => ?_⟩
          trivial
          cases d with
          | int i =>
            rw [if_pos (show D.isInt (.int i) = true from rfl)]
            trivial
            by_cases g1 : (0 - 1000000000000 : Int) ≤ i
            · rw [if_pos g1]
              trivial
              have g2 : (-1000000000000 : Int) ≤ i := by omega
              simpa [btw, g2] using hR
            · rw [if_neg g1]
              have g2 : ¬ (-1000000000000 : Int) ≤ i := by omega
              simpa [btw, g2] using hR
          | _ =>
            rw [if_neg (by simp [D.isInt])]
            exact hR
        trivial
        refine ⟨ds.map (btw (-1000000000000) 1000000000000), by rw [List.map_map]; rfl, ?_⟩
        refine hQ _ _ ?_
        rw [show (ds.map (btw (-1000000000000) 1000000000000)).all id = ds.all (btw (-1000000000000) 1000000000000) by rw [List.all_map]; rfl, all_btw]
        constructor
        · rintro ⟨l, rfl, h⟩
          exact ⟨l, rfl, by rw [← hl, iD_len], h⟩
        · rintro ⟨l, e, _, h⟩
          exact ⟨l, D.tup.inj e, h⟩
      · rw [if_pos (by simp; omega)]
        refine hQ _ _ ⟨fun z => by simp at z, ?_⟩
        rintro ⟨l, e, h1, _⟩
        have e := D.tup.inj e
        subst e
        rw [iD_len] at hl
        exact absurd h1 hl
  | _ =>
    trivial
    simp only [nv, D.isFz, true_and, Bool.not_false, if_true]
    exact hQ _ _ ⟨fun z => by simp at z, fun ⟨_, e, _⟩ => by simp at e⟩
def sp_law_are_names : DSpec := fun args Q _ => ∃ (many : Int) (d : D) (k : Nat), args = [.ext d, dI many] ∧ D.pl k d = true ∧ ∀ (b : Bool) fin, (b = true ↔ NamesD many d) → Q (.ext (.bl b)) fin
def e1_law_are_names : DT :=
    (dC (.int 1))
def e2_law_are_names : DT :=
    (dC (.int 1))
def e3_law_are_names : DT :=
    (dC (.int 1))
def k4_law_are_names : DTS :=
    (sSeq (sIf (dTest (dOp (fCmp fun i j => decide (j < i)) (dCB fLen (dCons (dLc (dSeq (dVar 0)) (gSet 2) (dOr (dTest (dOp (fCmp fun i j => decide (i < j)) (dVar 2) (dC (.int 0)))) (dTest (dOp (fCmp fun i j => decide (j ≤ i)) (dVar 2) (dVar 1)))) e2_law_are_names [2]) dNil)) (dC (.int 0)))) (sRet (dC (.bl false))) sNext)
    (sRet (dOp fEq (dCB fLen (dCons (dLc (dRange2 (dCons (dC (.int 1)) (dCons (dCB fLen (dCons (dVar 0) dNil)) dNil))) (gSet 3) (dTest (dOp (fCmp fun i j => decide (j ≤ i)) (dOp fIx (dVar 0) (dOp fSub (dVar 3) (dC (.int 1)))) (dOp fIx (dVar 0) (dVar 3)))) e3_law_are_names [3]) dNil)) (dC (.int 0)))))
def t_law_are_names : DTS :=
    (sSeq (sIf (dOr (dNot (dTest (dCB fIsi (dCons (dVar 0) (dCons (dC (.val (.ty "tuple"))) dNil))))) (dTest (dOp (fCmp fun i j => decide (j < i)) (dCB fLen (dCons (dLc (dSeq (dVar 0)) (gSet 2) (dNot (dTest (dCall sp_law_whole_number (dCons (dVar 2) dNil)))) e1_law_are_names [2]) dNil)) (dC (.int 0))))) (sRet (dC (.bl false))) sNext)
    k4_law_are_names)
theorem isInt_all {ds : List D} (h : ∀ d ∈ ds, D.isInt d = true) : ∃ l : List Int, ds = iD l := by
  induction ds with
  | nil => exact ⟨[], rfl⟩
  | cons d ds ih =>
    obtain ⟨l, rfl⟩ := ih fun e he => h e (List.mem_cons_of_mem _ he)
    have := h d List.mem_cons_self
    cases d with
    | int i => exact ⟨i :: l, rfl⟩
    | _ => simp [D.isInt] at this
theorem fil0 {α : Type} {p : α → Bool} {l : List α} : (l.filter p).length = 0 ↔ ∀ x ∈ l, p x = false := by
  rw [List.length_eq_zero_iff, List.filter_eq_nil_iff]
  exact ⟨fun h x hx => by simpa using h x hx, fun h x hx => by simp [h x hx]⟩
theorem iD_inj {a b : List Int} (h : iD a = iD b) : a = b := (List.map_inj_right (fun x y hxy => D.int.inj hxy)).1 h
theorem iD_get {l : List Int} {i : Nat} (h : i < l.length) : (iD l)[i]? = some (.int (l.getD i 0)) := by
  rw [iD, List.getElem?_map, List.getD_eq_getElem?_getD, List.getElem?_eq_getElem h]
  rfl
theorem R_ifP {α β : Type} {R : Option α → β → Prop} {x : α} {e : β} {b : Bool} {p : Prop} [Decidable p] (h : b = decide p) (hR : R (if b = true then some x else none) e) : if p then R (some x) e else R none e := by
  subst h
  by_cases hp : p
  · rw [if_pos hp]
    simpa [hp] using hR
  · rw [if_neg hp]
    simpa [hp] using hR
theorem m_law_are_names : Meets t_law_are_names 2 2 sp_law_are_names := by
  rintro args Qd Xd ⟨many, d, k, rfl, hp, hQ⟩
  have nv := pl_noVal k d hp
  show t_law_are_names _ _ [_, _, .un, .un]
  unfold t_law_are_names
  cases d with
  | val _ => cases k <;> simp [D.pl] at hp
  | fz _ => cases k <;> simp [D.pl] at hp
  | tk _ => cases k <;> simp [D.pl] at hp
  | exc _ => cases k <;> simp [D.pl] at hp
  | glo _ => cases k <;> simp [D.pl] at hp
  | dk _ _ => cases k <;> simp [D.pl] at hp
  | dt _ _ => cases k <;> simp [D.pl] at hp
  | tup ds =>
    cases k with
    | zero => simp [D.pl] at hp
    | succ k =>
      have hp := pl_tup hp
      trivial
      simp only [nv, D.isFz, true_and, Bool.not_true, Bool.false_eq_true, if_false]
      refine lc_filterD (fun _ => .int 1) (fun d => !D.isInt d) True.intro ds (Nat.le_trans hp.1 (by decide)) (fun d hd R hR => ?_) fun b => ?_
      · unfold e1_law_are_names
        trivial
        refine ⟨d, k, rfl, hp.2 d hd, fun fin => ?_⟩
        trivial
        exact R_if (by cases D.isInt d <;> simp) hR
      trivial
      rw [List.length_map]
      by_cases hi : ∀ d ∈ ds, D.isInt d = true
      · have e0 : (ds.filter fun d => !D.isInt d).length = 0 := fil0.2 fun d hd => by simp [hi d hd]
        rw [e0, if_neg (by decide)]
        obtain ⟨l, rfl⟩ := isInt_all hi
        rw [iD_len] at hp
        unfold k4_law_are_names
        trivial
        refine lc_filter D.int (fun _ => .int 1) (fun i => decide (i < 0) || decide (many ≤ i)) True.intro l (Nat.le_trans hp.1 (by decide)) (fun i hi' R hR => ?_) fun b => ?_
        · unfold e2_law_are_names
          trivial
          by_cases h1 : i < 0
          · rw [if_pos h1]
            simpa [h1] using hR
          · rw [if_neg h1]
            trivial
            refine R_ifP ?_ hR
            simp [h1]
        trivial
        rw [List.length_map]
        by_cases hr : ∀ i ∈ l, 0 ≤ i ∧ i < many
        · have e1 : (l.filter fun i => decide (i < 0) || decide (many ≤ i)).length = 0 := fil0.2 fun i hi' => by
            have := hr i hi'
            simp; omega
          rw [e1, if_neg (by decide)]
          trivial
          rw [iD_len]
          refine ⟨⟨by omega, by omega⟩, ⟨by omega, by omega⟩, ?_⟩
          have er : rgD 1 (l.length : Int) = (List.range (l.length - 1)).map fun i : Nat => D.int ((i + 1 : Nat) : Int) := by
            unfold rgD
            rw [show ((l.length : Int) - 1).toNat = l.length - 1 by omega]
            exact List.map_congr_left fun i _ => by rw [Int.natCast_add, Int.add_comm]; rfl
          rw [er]
          refine lc_filter (fun i : Nat => D.int ((i + 1 : Nat) : Int)) (fun _ => .int 1) (fun i => decide (l.getD (i + 1) 0 ≤ l.getD i 0)) True.intro (List.range (l.length - 1)) (Nat.le_trans (by rw [List.length_range]; omega : _ ≤ 100000) (by decide)) (fun i hi' R hR => ?_) fun b => ?_
          · have hil := List.mem_range.1 hi'
            unfold e3_law_are_names
            trivial
            rw [show (((i + 1 : Nat) : Int) - 1) = ((i : Nat) : Int) by omega]
            refine ⟨_, atN (iD_get (l := l) (i := i) (by omega)), ?_⟩
            trivial
            refine ⟨_, atN (iD_get (l := l) (i := i + 1) (by omega)), ?_⟩
            trivial
            exact R_ifP rfl hR
          trivial
          rw [List.length_map]
          refine hQ _ _ ?_
          obtain ⟨ns, e, eS, hns⟩ := iD_nat (l := l) fun i hi' => (hr i hi').1
          have el : l = ns.map fun n : Nat => (n : Int) := iD_inj (e.trans (nD_iD ns))
          rw [beq_iff_eq, show ((((List.range (l.length - 1)).filter fun i => decide (l.getD (i + 1) 0 ≤ l.getD i 0)).length : Nat) : Int) = 0 ↔ ((List.range (l.length - 1)).filter fun i => decide (l.getD (i + 1) 0 ≤ l.getD i 0)).length = 0 by omega, fil0, e]
          have eg : ∀ i, l.getD i 0 = ((ns.getD i 0 : Nat) : Int) := fun i => by
            rw [el, List.getD_eq_getElem?_getD, List.getElem?_map, List.getD_eq_getElem?_getD]
            cases ns[i]? <;> rfl
          have hm : ∀ n ∈ ns, (n : Int) < many := fun n hn => (hr _ (hns n hn)).2
          constructor
          · intro h
            refine ⟨ns, rfl, rising_adj.2 fun j hj => ?_, hm⟩
            have := h j (List.mem_range.2 (by omega))
            rw [eg, eg] at this
            simpa using this
          · rintro ⟨ns', e', hr', _⟩ j hj
            have := nD_inj (D.tup.inj e')
            subst this
            have := rising_adj.1 hr' j (by have := List.mem_range.1 hj; omega)
            rw [eg, eg]
            simpa using this
        · have e1 : ¬ (l.filter fun i => decide (i < 0) || decide (many ≤ i)).length = 0 := fun h => hr fun i hi' => by
            have := fil0.1 h i hi'
            simp at this
            omega
          rw [if_pos (by omega)]
          refine hQ _ _ ⟨fun z => by simp at z, ?_⟩
          rintro ⟨ns, e, _, hn⟩
          have := iD_inj ((D.tup.inj e).trans (nD_iD ns))
          subst this
          refine absurd (fun i hi' => ?_) hr
          obtain ⟨n, hn', rfl⟩ := List.mem_map.1 hi'
          exact ⟨by omega, hn n hn'⟩
      · have e0 : ¬ (ds.filter fun d => !D.isInt d).length = 0 := fun h => hi fun d hd => by simpa using fil0.1 h d hd
        rw [if_pos (by omega)]
        refine hQ _ _ ⟨fun z => by simp at z, ?_⟩
        rintro ⟨ns, e, _, hn⟩
        have := D.tup.inj e
        subst this
        refine absurd (fun d hd => ?_) hi
        obtain ⟨n, _, rfl⟩ := List.mem_map.1 hd
        rfl
  | _ =>
    trivial
    simp only [nv, D.isFz, true_and, Bool.not_false, if_true]
    exact hQ _ _ ⟨fun z => by simp at z, fun ⟨_, e, _⟩ => by simp at e⟩
end K01
end LS
namespace LS
open PySem L2 HD PM
local macro_rules | `(tactic| trivial) => `(tactic| try simp -dsimp only [↓sIf, ↓sRet, ↓retD_ext, ↓retD_lst, ↓retD_al, ↓sSet, ↓sSetE, ↓sAsg, ↓sDrop, ↓sNext, ↓sFor, ↓sRetN, ↓sCont, ↓sBreak, ↓dTest, ↓dOp, ↓dVar_w, ↓dC, ↓dCons, ↓dNil, ↓dTup, ↓dLst, ↓frzDs, ↓frzD_ext, ↓frzD_lst, ↓frzD_al, ↓wd_ext, ↓wd_lst, ↓wd_al, ↓wds, ↓AtS_ext, ↓AtS_lst, ↓AtL, ↓fAdd, ↓fSub, ↓fMul, ↓fDiv, ↓fMod, ↓fPow, ↓fCmp, ↓fIn, ↓fEq_ii, ↓fEq_ss, ↓fEq_bb, ↓fEq_tt, ↓fEq_ll, ↓fNe_ii, ↓fNe_ss, ↓fNe_bb, ↓fNe_tt, ↓fNe_ll, ↓fIx_l, ↓fIx_t, ↓fIx_k, ↓fIx_f, ↓GetS_some, ↓NatS_some, ↓fSl, ↓fIsN, ↓fNotN, ↓D.knN, ↓dNot, ↓dAnd, ↓dOr, ↓dAndV_w, ↓dOrV_w, ↓dNotV, ↓dIf, ↓dNeg, ↓dChain_w, ↓BlS_bl, ↓dCall_w, ↓dCallJ_w, ↓anyAl, ↓frozs, ↓froz, ↓gSet, ↓gTupD, ↓gsCons, ↓gsNil, ↓dSeq, ↓seqD_tup, ↓seqD_elst, ↓seqD_lst, ↓seqD_al, ↓dRange1, ↓dRange2, ↓dZip, ↓dCB, ↓dLc, ↓dYes, ↓dNoPart, ↓dPart, ↓dSl, ↓fLen, ↓fMin, ↓fMax, ↓fSum, ↓fAll, ↓fAny, ↓fSorted, ↓fTuple, ↓fList, ↓dRg1, ↓dRg2, ↓dLstRg, ↓dTupRg, ↓dIndex, ↓fIdx, ↓dAppend_w, ↓dExtend_w, ↓extD_lst, ↓dPopAt_w, ↓popD_int, ↓dPop_w, ↓mutD_w, ↓sSetItem_w, ↓setD_int, ↓dSortSet, ↓dTable_w, ↓wipeE, finals1, finals2, finals3, finals4, finals5, finals6, fin1_ext, fin1_lst, List.getElem?_cons_zero, List.getElem?_cons_succ, List.getElem?_nil, List.set_cons_zero, List.set_cons_succ, List.cons_append, List.nil_append, List.append_nil, List.replicate_succ, List.replicate_zero, List.map_cons, List.map_nil, List.length_cons, List.length_nil, true_and, and_true, ite_true, ite_false, if_true, if_false, Bool.false_eq_true, decide_eq_true_eq, Sl.plain, D.isSq, eq_self_iff_true, forall_const, reduceIte, true_or, or_true, atI_0, atI_1, atI_2, atI_3, ixN_0, ixN_1, ixN_2, AtS_ext, AtS_lst, FzS_lst, FzS_ext, GetS_some, NatS_some, ↓fIsi1, ↓fIsi2, BoolS_some, HD.kb_non_tuple, HD.kb_non_list, HD.kb_non_bool, HD.kb_non_int, HD.kb_non_str, HD.kb_bl_tuple, HD.kb_bl_list, HD.kb_bl_bool, HD.kb_bl_int, HD.kb_bl_str, HD.kb_int_tuple, HD.kb_int_list, HD.kb_int_bool, HD.kb_int_int, HD.kb_int_str, HD.kb_str_tuple, HD.kb_str_list, HD.kb_str_bool, HD.kb_str_int, HD.kb_str_str, HD.kb_lst_tuple, HD.kb_lst_list, HD.kb_lst_bool, HD.kb_lst_int, HD.kb_lst_str, HD.kb_tup_tuple, HD.kb_tup_list, HD.kb_tup_bool, HD.kb_tup_int, HD.kb_tup_str, ↓sFz_w, ↓FzS_lst, ↓FzS_ext, ↓dSortSetL, ↓fAbs, ↓fInt, ↓fRepr, ↓fLtT, ↓sRaise, ↓sTryKeep, ↓dCallV_w, ↓dMeth, ↓fCount, ↓fSplit, ↓seq_setE, ↓seq_set, ↓seq_drop, ↓seq_asg, ↓seq_if, ↓seq_for, ↓dStep, ↓fStep, ↓fMulT, ↓fIsB, ↓fNotB, ↓sPar, ↓dEnum, ↓dListZip, ↓dNest, ↓sSeal, ↓dNApp, ↓retD_reg, ↓dLenSet, ↓fSum2, ↓dDIn, ↓dDGet, ↓sPutD, ↓dDNew, ↓dDOne, ↓sSealD, ↓dKeys, ↓keyS_dk, ↓dExtT])
local macro_rules | `(tactic| and_intros) => `(tactic| try simp -dsimp only [↓sIf, ↓sRet, ↓retD_ext, ↓retD_lst, ↓retD_al, ↓sSet, ↓sSetE, ↓sAsg, ↓sDrop, ↓sNext, ↓sFor, ↓sRetN, ↓sCont, ↓sBreak, ↓dTest, ↓dOp, ↓dC, ↓dCons, ↓dNil, ↓dTup, ↓dLst, ↓frzDs, ↓frzD_ext, ↓frzD_lst, ↓frzD_al, ↓wd_ext, ↓wd_lst, ↓wd_al, ↓wds, ↓AtS_ext, ↓AtS_lst, ↓AtL, ↓fAdd, ↓fSub, ↓fMul, ↓fDiv, ↓fMod, ↓fPow, ↓fCmp, ↓fIn, ↓fEq_ii, ↓fEq_ss, ↓fEq_bb, ↓fEq_tt, ↓fEq_ll, ↓fNe_ii, ↓fNe_ss, ↓fNe_bb, ↓fNe_tt, ↓fNe_ll, ↓fIx_l, ↓fIx_t, ↓fIx_k, ↓fIx_f, ↓GetS_some, ↓NatS_some, ↓fSl, ↓fIsN, ↓fNotN, ↓D.knN, ↓dNot, ↓dAnd, ↓dOr, ↓dAndV_w, ↓dOrV_w, ↓dNotV, ↓dIf, ↓dNeg, ↓dChain_w, ↓BlS_bl, ↓dCall_w, ↓dCallJ_w, ↓anyAl, ↓frozs, ↓froz, ↓gSet, ↓gTupD, ↓gsCons, ↓gsNil, ↓dSeq, ↓seqD_tup, ↓seqD_elst, ↓seqD_lst, ↓seqD_al, ↓dRange1, ↓dRange2, ↓dZip, ↓dCB, ↓dLc, ↓dYes, ↓dNoPart, ↓dPart, ↓dSl, ↓fLen, ↓fMin, ↓fMax, ↓fSum, ↓fAll, ↓fAny, ↓fSorted, ↓fTuple, ↓fList, ↓dRg1, ↓dRg2, ↓dLstRg, ↓dTupRg, ↓dIndex, ↓fIdx, ↓dAppend_w, ↓dExtend_w, ↓extD_lst, ↓dPopAt_w, ↓popD_int, ↓dPop_w, ↓mutD_w, ↓sSetItem_w, ↓setD_int, ↓dSortSet, ↓dTable_w, ↓wipeE, finals1, finals2, finals3, finals4, finals5, finals6, fin1_ext, fin1_lst, List.getElem?_cons_zero, List.getElem?_cons_succ, List.getElem?_nil, List.set_cons_zero, List.set_cons_succ, List.cons_append, List.nil_append, List.append_nil, List.replicate_succ, List.replicate_zero, List.map_cons, List.map_nil, List.length_cons, List.length_nil, true_and, and_true, ite_true, ite_false, if_true, if_false, Bool.false_eq_true, decide_eq_true_eq, Sl.plain, D.isSq, eq_self_iff_true, forall_const, reduceIte, true_or, or_true, atI_0, atI_1, atI_2, atI_3, ixN_0, ixN_1, ixN_2, AtS_ext, AtS_lst, FzS_lst, FzS_ext, GetS_some, NatS_some, ↓fIsi1, ↓fIsi2, BoolS_some, HD.kb_non_tuple, HD.kb_non_list, HD.kb_non_bool, HD.kb_non_int, HD.kb_non_str, HD.kb_bl_tuple, HD.kb_bl_list, HD.kb_bl_bool, HD.kb_bl_int, HD.kb_bl_str, HD.kb_int_tuple, HD.kb_int_list, HD.kb_int_bool, HD.kb_int_int, HD.kb_int_str, HD.kb_str_tuple, HD.kb_str_list, HD.kb_str_bool, HD.kb_str_int, HD.kb_str_str, HD.kb_lst_tuple, HD.kb_lst_list, HD.kb_lst_bool, HD.kb_lst_int, HD.kb_lst_str, HD.kb_tup_tuple, HD.kb_tup_list, HD.kb_tup_bool, HD.kb_tup_int, HD.kb_tup_str, ↓sFz_w, ↓FzS_lst, ↓FzS_ext, ↓dSortSetL, ↓fAbs, ↓fInt, ↓fRepr, ↓fLtT, ↓sRaise, ↓sTryKeep, ↓dCallV_w, ↓dMeth, ↓fCount, ↓fSplit, ↓seq_setE, ↓seq_set, ↓seq_drop, ↓seq_asg, ↓seq_if, ↓seq_for, ↓dStep, ↓fStep, ↓fMulT, ↓fIsB, ↓fNotB, ↓sPar, ↓dEnum, ↓dListZip, ↓dNest, ↓sSeal, ↓dNApp, ↓retD_reg, ↓dLenSet, ↓fSum2, ↓dDIn, ↓dDGet, ↓sPutD, ↓dDNew, ↓dDOne, ↓sSealD, ↓dKeys, ↓keyS_dk, ↓dExtT, ↓dv0, ↓dw0, ↓dv1, ↓dw1, ↓dv2, ↓dw2, ↓dv3, ↓dw3, ↓dv4, ↓dw4, ↓dv5, ↓dw5, ↓dv6, ↓dw6, ↓dv7, ↓dw7, ↓dv8, ↓dw8, ↓dv9, ↓dw9, ↓dv10, ↓dw10, ↓dv11, ↓dw11, ↓dv12, ↓dw12, ↓dv13, ↓dw13, ↓dv14, ↓dw14, ↓dv15, ↓dw15, ↓dv16, ↓dw16, ↓dv17, ↓dw17, ↓dv18, ↓dw18, ↓dv19, ↓dw19])
def D.svS : Nat → D → Bool
  | _, .non => true
  | _, .bl _ => true
  | _, .int i => decide (i.natAbs < 10 ^ 60)
  | _, .str x => x.cps.toList.all fun c => decide (c < 16 ^ 8)
  | k + 1, .lst ds => ds.all (D.svS k)
  | k + 1, .tup ds => ds.all (D.svS k)
  | _, _ => false
def D.svQ (k : Nat) (d : D) : Prop := d.noVal = true ∧ d.py.showable = true ∧ d.py.hasDict = false ∧ d.py.depth ≤ k ∧ d.py.leavesShort 64 = true
theorem svqs_of {k : Nat} {ds : List D} (h : ∀ d ∈ ds, D.svQ k d) : D.noVals ds = true ∧ PyData.showableAll (D.pys ds) = true ∧ PyData.hasDictAll (D.pys ds) = false ∧ PyData.depthAll (D.pys ds) ≤ k ∧ PyData.leavesShortAll 64 (D.pys ds) = true := by
  induction ds with
  | nil => exact ⟨rfl, rfl, rfl, by simp [D.pys, PyData.depthAll], rfl⟩
  | cons d ds ih =>
    obtain ⟨h1, h2, h3, h4, h5⟩ := h d List.mem_cons_self
    obtain ⟨i1, i2, i3, i4, i5⟩ := ih fun e he => h e (List.mem_cons_of_mem _ he)
    refine ⟨by simp [D.noVals, h1, i1], by simp [D.pys, PyData.showableAll, h2, i2], by simp [D.pys, PyData.hasDictAll, h3, i3], ?_, by simp [D.pys, PyData.leavesShortAll, h5, i5]⟩
    simp only [D.pys, PyData.depthAll]
    omega
theorem svq_int {i : Int} {k : Nat} (h : i.natAbs < 10 ^ 60) : D.svQ k (.int i) := by
  have hl : i.natAbs.log2 < 1920 := by
    by_cases e : i.natAbs = 0
    · rw [e]; decide
    · exact (Nat.log2_lt e).2 (Nat.lt_of_lt_of_le h (Nat.le_trans (by decide : 10 ^ 60 ≤ 2 ^ 200) (Nat.pow_le_pow_right (by decide) (by decide))))
  refine ⟨rfl, by simpa [D.py, PyData.showable] using hl, rfl, by simp [D.py, PyData.depth], ?_⟩
  simp only [D.py, PyData.leavesShort, PyData.shown]
  refine decide_eq_true ?_
  rw [PySem.ofString_length]
  exact Nat.le_trans (PySem.int_text_length_le10 (k := 60) (by decide) h) (by decide)
theorem svS_Q : ∀ (k : Nat) (d : D), D.svS k d = true → D.svQ k d := by
  intro k
  induction k with
  | zero =>
    intro d h
    cases d with
    | int i => exact svq_int (by simpa [D.svS] using h)
    | non => exact ⟨rfl, rfl, rfl, by simp [D.py, PyData.depth], rfl⟩
    | bl _ => exact ⟨rfl, rfl, rfl, by simp [D.py, PyData.depth], rfl⟩
    | str x => exact ⟨rfl, rfl, rfl, by simp [D.py, PyData.depth], h⟩
    | _ => simp [D.svS] at h
  | succ k ih =>
    intro d h
    cases d with
    | lst ds =>
      rw [D.svS, List.all_eq_true] at h
      obtain ⟨h1, h2, h3, h4, h5⟩ := svqs_of fun e he => ih e (h e he)
      exact ⟨h1, by simpa [D.py, PyData.showable] using h2, by simpa [D.py, PyData.hasDict] using h3, by simp only [D.py, PyData.depth]; omega, by simpa [D.py, PyData.leavesShort] using h5⟩
    | tup ds =>
      rw [D.svS, List.all_eq_true] at h
      obtain ⟨h1, h2, h3, h4, h5⟩ := svqs_of fun e he => ih e (h e he)
      exact ⟨h1, by simpa [D.py, PyData.showable] using h2, by simpa [D.py, PyData.hasDict] using h3, by simp only [D.py, PyData.depth]; omega, by simpa [D.py, PyData.leavesShort] using h5⟩
    | int i => exact svq_int (by simpa [D.svS] using h)
    | non => exact ⟨rfl, rfl, rfl, by simp [D.py, PyData.depth], rfl⟩
    | bl _ => exact ⟨rfl, rfl, rfl, by simp [D.py, PyData.depth], rfl⟩
    | str x => exact ⟨rfl, rfl, rfl, by simp [D.py, PyData.depth], h⟩
    | _ => simp [D.svS] at h
structure Dc (k n : Nat) (d : D) : Prop where
  pl : D.pl k d = true
  sv : D.svS k d = true
  bk : d.py.bulk ≤ n
structure Dcs (k n : Nat) (ds : List D) : Prop where
  pl : ∀ d ∈ ds, D.pl k d = true
  sv : ∀ d ∈ ds, D.svS k d = true
  bk : PyData.bulkAll (D.pys ds) ≤ n
theorem Dc.sh {k n : Nat} {d : D} (h : Dc k n d) (hk : k ≤ 60) (hn : n ≤ 200000) : d.sh := by
  obtain ⟨h1, h2, h3, h4, h5⟩ := svS_Q k d h.sv
  refine ⟨h1, h2, h3, by omega, ?_⟩
  have := PyData.shown_le_bulk 64 (by decide) d.py h5
  have := h.bk
  exact Nat.le_trans (by omega : _ ≤ 16000000) (by decide)
theorem Dc.int {k n : Nat} {i : Int} (h : i.natAbs < 10 ^ 60 := by decide +kernel) : Dc k n (.int i) := ⟨by cases k <;> rfl, by cases k <;> simp [D.svS, h], Nat.zero_le _⟩
theorem Dc.nat {k n m : Nat} (h : m < 2 ^ 64) : Dc k n (.int (m : Nat)) := Dc.int (by rw [Int.natAbs_natCast]; exact Nat.lt_of_lt_of_le h (by decide))
theorem Dc.non {k n : Nat} : Dc k n .non := ⟨by cases k <;> rfl, by cases k <;> rfl, Nat.zero_le _⟩
theorem Dc.bl {k n : Nat} {b : Bool} : Dc k n (.bl b) := ⟨by cases k <;> rfl, by cases k <;> rfl, Nat.zero_le _⟩
theorem Dc.str {k n : Nat} {x : Str} (h1 : (x.cps.toList.all fun c => decide (c < 16 ^ 8)) = true := by decide +kernel) (h2 : (D.str x).py.bulk ≤ n := by decide +kernel) : Dc k n (.str x) := ⟨by cases k <;> rfl, by cases k <;> exact h1, h2⟩
theorem Dc.mono {k n m : Nat} {d : D} (h : Dc k n d) (hn : n ≤ m) : Dc k m d := ⟨h.pl, h.sv, Nat.le_trans h.bk hn⟩
theorem pl_up : ∀ (k : Nat) (d : D), D.pl k d = true → D.pl (k + 1) d = true := by
  intro k
  induction k with
  | zero => intro d h; cases d <;> first | rfl | simp [D.pl] at h
  | succ k ih =>
    intro d h
    cases d with
    | lst ds => rw [D.pl, Bool.and_eq_true, List.all_eq_true] at h ⊢; exact ⟨h.1, fun e he => ih e (h.2 e he)⟩
    | tup ds => rw [D.pl, Bool.and_eq_true, List.all_eq_true] at h ⊢; exact ⟨h.1, fun e he => ih e (h.2 e he)⟩
    | _ => first | rfl | simp [D.pl] at h
theorem svS_up : ∀ (k : Nat) (d : D), D.svS k d = true → D.svS (k + 1) d = true := by
  intro k
  induction k with
  | zero => intro d h; cases d <;> first | rfl | exact h | simp [D.svS] at h
  | succ k ih =>
    intro d h
    cases d with
    | lst ds => rw [D.svS, List.all_eq_true] at h ⊢; exact fun e he => ih e (h e he)
    | tup ds => rw [D.svS, List.all_eq_true] at h ⊢; exact fun e he => ih e (h e he)
    | _ => first | rfl | exact h | simp [D.svS] at h
theorem Dc.up {k n : Nat} {d : D} (h : Dc k n d) : Dc (k + 1) n d := ⟨pl_up k d h.pl, svS_up k d h.sv, h.bk⟩
theorem Dcs.len {k n : Nat} {ds : List D} (h : Dcs k n ds) : ds.length ≤ n := by
  refine Nat.le_trans ?_ h.bk
  clear h
  induction ds with
  | nil => exact Nat.zero_le _
  | cons d ds ih => simp only [D.pys, PyData.bulkAll, List.length_cons]; omega
theorem Dcs.nil {k n : Nat} : Dcs k n [] := ⟨by simp, by simp, Nat.zero_le _⟩
theorem Dcs.cons {k n m : Nat} {d : D} {ds : List D} (h : Dc k n d) (t : Dcs k m ds) : Dcs k (n + 1 + m) (d :: ds) :=
  ⟨fun e he => by
    rcases List.mem_cons.1 he with rfl | he
    · exact h.pl
    · exact t.pl e he, fun e he => by
    rcases List.mem_cons.1 he with rfl | he
    · exact h.sv
    · exact t.sv e he, by have := h.bk; have := t.bk; simp only [D.pys, PyData.bulkAll]; omega⟩
theorem Dcs.app {k n m : Nat} {ds es : List D} (h : Dcs k n ds) (t : Dcs k m es) : Dcs k (n + m) (ds ++ es) :=
  ⟨fun e he => by
    rcases List.mem_append.1 he with he | he
    · exact h.pl e he
    · exact t.pl e he, fun e he => by
    rcases List.mem_append.1 he with he | he
    · exact h.sv e he
    · exact t.sv e he, by have := h.bk; have := t.bk; rw [bulks_app]; omega⟩
theorem Dcs.mono {k n m : Nat} {ds : List D} (h : Dcs k n ds) (hn : n ≤ m) : Dcs k m ds := ⟨h.pl, h.sv, Nat.le_trans h.bk hn⟩
theorem bulks_sub {a b : List D} (h : a.Sublist b) : PyData.bulkAll (D.pys a) ≤ PyData.bulkAll (D.pys b) := by
  induction h with
  | slnil => exact Nat.le_refl _
  | cons _ _ ih => simp only [D.pys, PyData.bulkAll]; omega
  | cons_cons _ _ ih => simp only [D.pys, PyData.bulkAll]; omega
theorem Dcs.sub {k n : Nat} {ds es : List D} (h : Dcs k n ds) (s : es.Sublist ds) : Dcs k n es := ⟨fun e he => h.pl e (s.subset he), fun e he => h.sv e (s.subset he), Nat.le_trans (bulks_sub s) h.bk⟩
theorem Dcs.cut {k n : Nat} {ds : List D} (h : Dcs k n ds) (lo hi : Option Int) : Dcs k n (cutD ds lo hi) := h.sub ((List.take_sublist _ _).trans (List.drop_sublist _ _))
theorem bulks_rev (a : List D) : PyData.bulkAll (D.pys a.reverse) = PyData.bulkAll (D.pys a) := by
  induction a with
  | nil => rfl
  | cons d a ih => rw [List.reverse_cons, bulks_app, ih]; simp only [D.pys, PyData.bulkAll]; omega
theorem Dcs.rev {k n : Nat} {ds : List D} (h : Dcs k n ds) : Dcs k n ds.reverse := ⟨fun e he => h.pl e (List.mem_reverse.1 he), fun e he => h.sv e (List.mem_reverse.1 he), by rw [bulks_rev]; exact h.bk⟩
theorem Dc.tup {k n : Nat} {ds : List D} (h : Dcs k n ds) (hn : n ≤ 100000 := by omega) : Dc (k + 1) n (.tup ds) :=
  ⟨by rw [D.pl, Bool.and_eq_true, List.all_eq_true, decide_eq_true_eq]; exact ⟨Nat.le_trans h.len hn, h.pl⟩, by rw [D.svS, List.all_eq_true]; exact h.sv, h.bk⟩
theorem Dc.lst {k n : Nat} {ds : List D} (h : Dcs k n ds) (hn : n ≤ 100000 := by omega) : Dc (k + 1) n (.lst ds) :=
  ⟨by rw [D.pl, Bool.and_eq_true, List.all_eq_true, decide_eq_true_eq]; exact ⟨Nat.le_trans h.len hn, h.pl⟩, by rw [D.svS, List.all_eq_true]; exact h.sv, h.bk⟩
theorem Dcs.nats {k : Nat} {l : List Nat} (h : ∀ n ∈ l, n < 2 ^ 64) : Dcs k l.length (nD l) := ⟨fun e he => by
    obtain ⟨n, hn, rfl⟩ := List.mem_map.1 he
    exact (Dc.nat (k := k) (n := 0) (h n hn)).pl, fun e he => by
    obtain ⟨n, hn, rfl⟩ := List.mem_map.1 he
    exact (Dc.nat (k := k) (n := 0) (h n hn)).sv, by rw [bulks_nD]; exact Nat.le_refl _⟩
theorem Dcs.ints {k : Nat} {l : List Int} (h : ∀ n ∈ l, n.natAbs < 10 ^ 60) : Dcs k l.length (iD l) := ⟨fun e he => by
    obtain ⟨n, hn, rfl⟩ := List.mem_map.1 he
    exact (Dc.int (k := k) (n := 0) (h n hn)).pl, fun e he => by
    obtain ⟨n, hn, rfl⟩ := List.mem_map.1 he
    exact (Dc.int (k := k) (n := 0) (h n hn)).sv, by rw [bulks_iD]; exact Nat.le_refl _⟩
theorem atI_mem {α : Type} {xs : List α} {r : Int} (h0 : 0 ≤ r) (h1 : r < xs.length) : ∃ x, atI xs r = some x ∧ x ∈ xs := by
  have hl : r.toNat < xs.length := by omega
  exact ⟨xs[r.toNat], atI_int h0 (List.getElem?_eq_getElem hl), List.getElem_mem hl⟩
theorem allMem {P : D → Prop} {x : D} {xs : List D} (h : P x) (t : ∀ y ∈ xs, P y) : ∀ y ∈ x :: xs, P y := fun y hy => by
  rcases List.mem_cons.1 hy with rfl | hy
  · exact h
  · exact t y hy
theorem allNil {P : D → Prop} : ∀ y ∈ ([] : List D), P y := by simp
theorem Dc.t0 {k n : Nat} : Dc (k + 1) n (.tup []) := ⟨rfl, rfl, Nat.zero_le _⟩
theorem Dc.l0 {k n : Nat} : Dc (k + 1) n (.lst []) := ⟨rfl, rfl, Nat.zero_le _⟩
theorem Dc.t1 {k n m : Nat} {d : D} (h : Dc k n d) (hm : n + 1 ≤ m := by omega) (hm2 : m ≤ 100000 := by omega) : Dc (k + 1) m (.tup [d]) := Dc.tup ((Dcs.cons h (Dcs.nil (n := 0))).mono (by omega)) hm2
theorem Dc.l1 {k n m : Nat} {d : D} (h : Dc k n d) (hm : n + 1 ≤ m := by omega) (hm2 : m ≤ 100000 := by omega) : Dc (k + 1) m (.lst [d]) := Dc.lst ((Dcs.cons h (Dcs.nil (n := 0))).mono (by omega)) hm2
theorem Dc.t2 {k n n' m : Nat} {d e : D} (h : Dc k n d) (h' : Dc k n' e) (hm : n + n' + 2 ≤ m := by omega) (hm2 : m ≤ 100000 := by omega) : Dc (k + 1) m (.tup [d, e]) := Dc.tup ((Dcs.cons h (Dcs.cons h' (Dcs.nil (n := 0)))).mono (by omega)) hm2
theorem Dc.l2 {k n n' m : Nat} {d e : D} (h : Dc k n d) (h' : Dc k n' e) (hm : n + n' + 2 ≤ m := by omega) (hm2 : m ≤ 100000 := by omega) : Dc (k + 1) m (.lst [d, e]) := Dc.lst ((Dcs.cons h (Dcs.cons h' (Dcs.nil (n := 0)))).mono (by omega)) hm2
theorem Dc.t3 {k n n' n3 m : Nat} {d e f : D} (h : Dc k n d) (h' : Dc k n' e) (h3 : Dc k n3 f) (hm : n + n' + n3 + 3 ≤ m := by omega) (hm2 : m ≤ 100000 := by omega) : Dc (k + 1) m (.tup [d, e, f]) := Dc.tup ((Dcs.cons h (Dcs.cons h' (Dcs.cons h3 (Dcs.nil (n := 0))))).mono (by omega)) hm2
theorem Dcs.one {k n m : Nat} {d : D} (h : Dc k n d) (hm : n + 1 ≤ m := by omega) : Dcs k m [d] := (Dcs.cons h (Dcs.nil (n := 0))).mono (by omega)
theorem e39 : ((10 : Int) ^ Int.toNat 39).natAbs < 10 ^ 60 := by decide +kernel
theorem e39n : (0 - (10 : Int) ^ Int.toNat 39).natAbs < 10 ^ 60 := by decide +kernel
def sp_law_odd_names : DSpec := fun args Q _ => ∃ (n : Nat) (a : Addr) (ds : List D) (some' : List Nat) (many : Nat), args = [.lst a ds, .ext (.tup (nD some')), dI (many : Nat)] ∧ JarOk n ds ∧ n + 3 < 4294967296 ∧ some'.length ≤ 24 ∧ (∀ m ∈ some', m < 2 ^ 32) ∧ many < 2 ^ 32 ∧
  ∀ d ds' fin, Dc 2 60 d → JarOk (n + 3) ds' → Q (.ext d) (.lst a ds' :: fin)
def k1_law_odd_names : DTS :=
    (sRet (dOp fIx (dLst (dCons (dCB fList (dCons (dVar 1) dNil)) (dCons (dStep (dVar 1) (dPart (dNeg (dC (.int 1))))) (dCons (dOp fAdd (dVar 1) (dSl (dVar 1) (dPart (dNeg (dC (.int 1)))) dNoPart)) (dCons (dOp fAdd (dSl (dVar 1) (dPart (dVar 4)) dNoPart) (dSl (dVar 1) dNoPart (dPart (dVar 4)))) (dCons (dC .non) (dCons (dTup (dCons (dVar 1) dNil)) (dCons (dLst dNil) dNil)))))))) (dOp fSub (dVar 3) (dC (.int 5)))))
def k2_law_odd_names : DTS :=
    (sSeq (sIf (dTest (dOp (fCmp fun i j => decide (i < j)) (dVar 3) (dC (.int 5)))) (sRet (dOp fAdd (dOp fAdd (dSl (dVar 1) dNoPart (dPart (dVar 4))) (dTup (dCons (dVar 5) dNil))) (dSl (dVar 1) (dPart (dOp fAdd (dVar 4) (dOp fMod (dVar 3) (dC (.int 2))))) dNoPart))) sNext)
    k1_law_odd_names)
def k3_law_odd_names : DTS :=
    (sSeq (sSetE 5 (dOp fIx (dLst (dCons (dVar 2) (dCons (dNeg (dC (.int 1))) (dCons (dC (.bl true)) (dCons (dC (.bl false)) (dCons (dC .non) (dCons (dC (.str (Str.ofString "0"))) (dCons (dTup (dCons (dC (.int 0)) dNil)) (dCons (dLst (dCons (dC (.int 0)) dNil)) (dCons (dOp fPow (dC (.int 10)) (dC (.int 39))) (dCons (dOp fSub (dC (.int 0)) (dOp fPow (dC (.int 10)) (dC (.int 39)))) (dCons (dOp fAdd (dVar 2) (dC (.int 1))) (dCons (dC (.int 0)) dNil))))))))))))) (dCallJ sp_law_dip 0 (dCons (dC (.int 12)) dNil))))
    k2_law_odd_names)
def t_law_odd_names : DTS :=
    (sSeq (sSetE 3 (dCallJ sp_law_dip 0 (dCons (dC (.int 12)) dNil)))
    (sSeq (sSetE 4 (dCallJ sp_law_dip 0 (dCons (dOp fAdd (dCB fLen (dCons (dVar 1) dNil)) (dC (.int 1))) dNil)))
    k3_law_odd_names))
theorem m_law_odd_names : Meets t_law_odd_names 3 3 sp_law_odd_names := by
  rintro args Qd Xd ⟨n, a, ds, some', many, rfl, hj, hn, hl, hs, hm, hQ⟩
  show t_law_odd_names _ _ [_, _, _, .un, .un, .un]
  unfold t_law_odd_names
  trivial
  refine ⟨n, a, ds, 12, rfl, hj, by omega, by decide, by decide, fun way ds1 fin w0 w1 hj1 => ?_⟩
  trivial
  rw [nD_len]
  refine ⟨n + 1, a, ds1, _, rfl, hj1, by omega, by omega, by omega, fun at' ds2 fin a0 a1 hj2 => ?_⟩
  trivial
  unfold k3_law_odd_names
  show (sSeq (sSetE 5 (dOp fIx (dLst (dCons (dC (.int (many : Nat))) (dCons (dNeg (dC (.int 1))) (dCons (dC (.bl true)) (dCons (dC (.bl false)) (dCons (dC .non) (dCons (dC (.str (Str.ofString "0"))) (dCons (dTup (dCons (dC (.int 0)) dNil)) (dCons (dLst (dCons (dC (.int 0)) dNil)) (dCons (dOp fPow (dC (.int 10)) (dC (.int 39))) (dCons (dOp fSub (dC (.int 0)) (dOp fPow (dC (.int 10)) (dC (.int 39)))) (dCons (dOp fAdd (dVar 2) (dC (.int 1))) (dCons (dC (.int 0)) dNil))))))))))))) (dCallJ sp_law_dip 0 (dCons (dC (.int 12)) dNil)))) k2_law_odd_names) _ _ _
  trivial
  refine ⟨by decide, by decide, ⟨by decide, by decide, by decide⟩, ⟨by decide, by decide, by decide⟩, by decide, fun b6 => ?_⟩
  refine ⟨n + 2, a, ds2, 12, rfl, hj2, by omega, by decide, by decide, fun r ds3 fin r0 r1 hj3 => ?_⟩
  have hodd : ∀ o ∈ [D.int (many : Nat), D.int (-1), D.bl true, D.bl false, D.non, D.str (Str.ofString "0"), D.tup [D.int 0], D.lst [D.int 0], D.int (10 ^ Int.toNat 39), D.int (0 - 10 ^ Int.toNat 39), D.int ((many : Nat) + 1), D.int 0], Dc 1 2 o :=
    allMem (Dc.nat (by omega)) <| allMem (Dc.int (by decide +kernel)) <| allMem Dc.bl <| allMem Dc.bl <| allMem Dc.non <| allMem Dc.str <| allMem (Dc.t1 (Dc.int (n := 0) (i := 0) (by decide +kernel))) <| allMem (Dc.l1 (Dc.int (n := 0) (i := 0) (by decide +kernel))) <| allMem (Dc.int e39) <| allMem (Dc.int e39n) <| allMem (Dc.nat (m := many + 1) (by omega)) <| allMem (Dc.int (by decide +kernel)) allNil
  have hl12 : [D.int (many : Nat), D.int (-1), D.bl true, D.bl false, D.non, D.str (Str.ofString "0"), D.tup [D.int 0], D.lst [D.int 0], D.int (10 ^ Int.toNat 39), D.int (0 - 10 ^ Int.toNat 39), D.int ((many : Nat) + 1), D.int 0].length = 12 := rfl
  generalize [D.int (many : Nat), D.int (-1), D.bl true, D.bl false, D.non, D.str (Str.ofString "0"), D.tup [D.int 0], D.lst [D.int 0], D.int (10 ^ Int.toNat 39), D.int (0 - 10 ^ Int.toNat 39), D.int ((many : Nat) + 1), D.int 0] = odds at hodd hl12 ⊢
  trivial
  obtain ⟨o, ho, hom⟩ := atI_mem (xs := odds) r0 (by omega)
  refine ⟨o, ho, ?_⟩
  trivial
  have hdo := hodd o hom
  unfold k2_law_odd_names
  trivial
  have hD : Dcs 1 24 (nD some') := (Dcs.nats fun m hm' => by have := hs m hm'; omega).mono hl
  have hD0 : Dcs 0 24 (nD some') := (Dcs.nats fun m hm' => by have := hs m hm'; omega).mono hl
  have cl : ∀ lo hi, (cutD (nD some') lo hi).length ≤ 24 := fun lo hi => (hD.cut lo hi).len
  by_cases h5 : way < 5
  · rw [if_pos h5]
    have c1 := cl none (some at')
    have c2 := cl (some (at' + way % 2)) none
    refine ⟨by decide, Nat.le_trans (by omega : _ ≤ 100) (by decide), by decide, Nat.le_trans (by rw [List.length_append, List.length_singleton]; omega : _ ≤ 100) (by decide), hQ _ _ _ ?_ hj3⟩
    exact (Dc.tup (((hD.cut none (some at')).app (Dcs.one (m := 3) hdo)).app (hD.cut (some (at' + way % 2)) none))).mono (by decide)
  · rw [if_neg h5]
    unfold k1_law_odd_names
    and_intros
    have c1 := cl (some (-1)) none
    have c2 := cl (some at') none
    have c3 := cl none (some at')
    refine ⟨Nat.le_trans (by rw [nD_len]; omega : _ ≤ 100) (by decide), Nat.le_trans (by omega : _ ≤ 100) (by decide), by decide, by decide, by decide, ?_⟩
    have hall : ∀ d ∈ [D.lst (nD some'), D.tup (nD some').reverse, D.tup (nD some' ++ cutD (nD some') (some (-1)) none), D.tup (cutD (nD some') (some at') none ++ cutD (nD some') none (some at')), D.non, D.tup [D.tup (nD some')], D.lst []], Dc 2 60 d :=
      allMem ((Dc.lst hD).mono (by decide)) <| allMem ((Dc.tup hD.rev).mono (by decide)) <| allMem ((Dc.tup (hD.app (hD.cut _ _))).mono (by decide)) <| allMem ((Dc.tup ((hD.cut _ _).app (hD.cut _ _))).mono (by decide)) <| allMem Dc.non <| allMem (Dc.t1 (Dc.tup hD0)) <| allMem Dc.l0 allNil
    obtain ⟨d, hd, hdm⟩ := atI_mem (xs := [D.lst (nD some'), D.tup (nD some').reverse, D.tup (nD some' ++ cutD (nD some') (some (-1)) none), D.tup (cutD (nD some') (some at') none ++ cutD (nD some') none (some at')), D.non, D.tup [D.tup (nD some')], D.lst []]) (r := way - 5) (by omega) (by simp; omega)
    refine ⟨d, hd, ?_⟩
    trivial
    exact hQ _ _ _ (hall d hdm) hj3
end LS
namespace PM
def tieB (gs : List (List Nat)) (a b : Nat) : Bool := (a != b) && gs.any fun ns => decide (a ∈ ns) && decide (b ∈ ns)
theorem tieB_iff {gs : List (List Nat)} {a b : Nat} : tieB gs a b = true ↔ a ≠ b ∧ ∃ ns ∈ gs, a ∈ ns ∧ b ∈ ns := by
  unfold tieB
  simp
theorem tieB_comm (gs : List (List Nat)) (a b : Nat) : tieB gs a b = tieB gs b a := by
  rw [Bool.eq_iff_iff, tieB_iff, tieB_iff]
  constructor
  · rintro ⟨h, ns, h1, h2, h3⟩; exact ⟨fun z => h z.symm, ns, h1, h3, h2⟩
  · rintro ⟨h, ns, h1, h2, h3⟩; exact ⟨fun z => h z.symm, ns, h1, h3, h2⟩
def nb (n : Nat) (gs : List (List Nat)) (a : Nat) : List Nat := (List.range n).filter (tieB gs a)
theorem mem_nb {n : Nat} {gs : List (List Nat)} {a b : Nat} : b ∈ nb n gs a ↔ b < n ∧ tieB gs a b = true := by
  unfold nb
  rw [List.mem_filter, List.mem_range]
inductive Rch (n : Nat) (gs : List (List Nat)) (T : List Nat) (x : Nat) : Nat → Prop where
  | base : Rch n gs T x x
  | step {y z : Nat} : Rch n gs T x y → (y = x ∨ y ∈ T) → z ∈ nb n gs y → Rch n gs T x z
open Classical in
noncomputable def bagN (n : Nat) (gs : List (List Nat)) (T : List Nat) (x : Nat) : List Nat := (List.range n).filter fun z => decide (z ∉ T) && decide (Rch n gs T x z)
theorem mem_bag {n : Nat} {gs : List (List Nat)} {T : List Nat} {x z : Nat} : z ∈ bagN n gs T x ↔ z < n ∧ z ∉ T ∧ Rch n gs T x z := by
  unfold bagN
  rw [List.mem_filter, List.mem_range]
  simp
theorem Rch.lt {n : Nat} {gs : List (List Nat)} {T : List Nat} {x z : Nat} (hx : x < n) (h : Rch n gs T x z) : z < n := by
  cases h with
  | base => exact hx
  | step _ _ h => exact (mem_nb.1 h).1
theorem rising_filter {l : List Nat} (p : Nat → Bool) (h : Rising l) : Rising (l.filter p) := List.Pairwise.filter p h
theorem rising_range (n : Nat) : Rising (List.range n) := List.pairwise_lt_range
theorem bag_rising (n : Nat) (gs : List (List Nat)) (T : List Nat) (x : Nat) : Rising (bagN n gs T x) := by
  unfold bagN
  exact rising_filter _ (rising_range n)
theorem self_bag {n : Nat} {gs : List (List Nat)} {T : List Nat} {x : Nat} (hx : x < n) (ht : x ∉ T) : x ∈ bagN n gs T x := mem_bag.2 ⟨hx, ht, .base⟩
theorem Rch.closed {n : Nat} {gs : List (List Nat)} {T : List Nat} {x : Nat} {P : Nat → Prop} (h0 : P x) (hc : ∀ y, P y → (y = x ∨ y ∈ T) → ∀ z ∈ nb n gs y, P z) {z : Nat} (h : Rch n gs T x z) : P z := by
  induction h with
  | base => exact h0
  | step _ h1 h2 ih => exact hc _ ih h1 _ h2
theorem Rch.symm {n : Nat} {gs : List (List Nat)} {T : List Nat} {x y : Nat} (hx : x < n) (hy : y ∉ T) (h : Rch n gs T x y) : Rch n gs T y x := by
  -- from any z that x comes to by a name that may be gone past, z comes to what x came from
  have key : ∀ z, Rch n gs T x z → ∀ w, Rch n gs T w z → (z = w ∨ z ∈ T) → Rch n gs T w x := by
    intro z hz
    induction hz with
    | base => intro w hw _; exact hw
    | @step u v hu hut huv ih =>
      intro w hw hwt
      have hvu : u ∈ nb n gs v := mem_nb.2 ⟨hu.lt hx, by rw [tieB_comm]; exact (mem_nb.1 huv).2⟩
      have h1 : Rch n gs T w u := .step hw hwt hvu
      rcases hut with e | e
      · rw [← e]; exact h1
      · exact ih w h1 (.inr e)
  exact key y h y .base (.inl rfl)
theorem Rch.mono {n : Nat} {gs : List (List Nat)} {T T' : List Nat} (hT : ∀ t ∈ T, t ∈ T') {x z : Nat} (h : Rch n gs T x z) : Rch n gs T' x z := by
  induction h with
  | base => exact .base
  | step _ h1 h2 ih => exact .step ih (h1.imp id (hT _)) h2
theorem Rch.trans' {n : Nat} {gs : List (List Nat)} {T : List Nat} {x o z : Nat} (h : Rch n gs T x o) (ho : o ∈ T) (h2 : Rch n gs T o z) : Rch n gs T x z := by
  induction h2 with
  | base => exact h
  | step _ h1 h2 ih => exact .step ih (.inr (h1.elim (fun e => by rw [e]; exact ho) id)) h2
end PM
namespace LS
open PySem L2 HD PM
abbrev gsOf (ps : List Part) : List (List Nat) := ps.map fun p => p.ns
abbrev tiDs (n : Nat) (gs : List (List Nat)) : List D := (List.range n).map fun a => D.lst (nD (nb n gs a))
structure NsOk (S : List Nat) (ps : List Part) : Prop where
  few : S.length ≤ 24
  many : ps.length ≤ 1000
  ok : ∀ p ∈ ps, Rising p.ns ∧ ∀ n ∈ p.ns, n < S.length
def sp_ties_of : DSpec := fun args Q _ => ∃ (S : List Nat) (ps : List Part), args = [.ext (dSh S ps)] ∧ NsOk S ps ∧ ∀ a fin, Q (.lst a (tiDs S.length (gsOf ps))) fin
def nearL (x : Nat) (ps : List Part) : List Nat := ((ps.filter fun p => decide (x ∈ p.ns)).map fun p => p.ns).flatten
theorem mem_nearL {x y : Nat} {ps : List Part} : y ∈ nearL x ps ↔ ∃ p ∈ ps, x ∈ p.ns ∧ y ∈ p.ns := by
  unfold nearL
  simp only [List.mem_flatten, List.mem_map, List.mem_filter]
  constructor
  · rintro ⟨l, ⟨p, ⟨h1, h2⟩, rfl⟩, h3⟩
    exact ⟨p, h1, by simpa using h2, h3⟩
  · rintro ⟨p, h1, h2, h3⟩
    exact ⟨p.ns, ⟨p, ⟨h1, by simpa using h2⟩, rfl⟩, h3⟩
theorem nearL_snoc (x : Nat) (ps : List Part) (p : Part) : nearL x (ps ++ [p]) = nearL x ps ++ if x ∈ p.ns then p.ns else [] := by
  unfold nearL
  rw [List.filter_append, List.map_append, List.flatten_append]
  by_cases h : x ∈ p.ns <;> simp [h]
theorem nearL_len {x n : Nat} {ps : List Part} (h : ∀ p ∈ ps, p.ns.length ≤ n) : (nearL x ps).length ≤ ps.length * n := by
  induction ps with
  | nil => simp [nearL]
  | cons p ps ih =>
    have i := ih fun q hq => h q (List.mem_cons_of_mem _ hq)
    have hp := h p List.mem_cons_self
    have e : nearL x (p :: ps) = (if x ∈ p.ns then p.ns else []) ++ nearL x ps := by
      unfold nearL
      by_cases hx : x ∈ p.ns <;> simp [hx]
    rw [e, List.length_append, List.length_cons, Nat.succ_mul]
    split
    · omega
    · simp; omega
theorem nb_near {n x : Nat} {ps : List Part} : nb n (gsOf ps) x = (List.range n).filter fun y => (y != x) && decide (y ∈ nearL x ps) := by
  unfold nb
  refine List.filter_congr fun y _ => ?_
  rw [Bool.eq_iff_iff, tieB_iff]
  simp only [Bool.and_eq_true, bne_iff_ne, decide_eq_true_eq, mem_nearL]
  constructor
  · rintro ⟨h, ns, hm, h2⟩
    obtain ⟨p, hp, rfl⟩ := List.mem_map.1 hm
    exact ⟨fun z => h z.symm, p, hp, h2⟩
  · rintro ⟨h, p, hp, h2⟩
    exact ⟨fun z => h z.symm, p.ns, List.mem_map.2 ⟨p, hp, rfl⟩, h2⟩
abbrev tiD (n : Nat) (gs : List (List Nat)) : D := .lst (tiDs n gs)
def sp_bag_by : DSpec := fun args Q _ => ∃ (n : Nat) (gs : List (List Nat)) (T : List Nat) (Z : D) (x : Nat), args = [.ext (tiD n gs), .ext Z, dI (x : Nat)] ∧ SqN T Z ∧ n ≤ 24 ∧ x < n ∧ x ∉ T ∧ ∀ fin, Q (.ext (.tup (nD (bagN n gs T x)))) fin
theorem nodup_le {n : Nat} : ∀ {l : List Nat}, l.Nodup → (∀ x ∈ l, x < n) → l.length ≤ n := by
  induction n with
  | zero =>
    intro l _ h
    cases l with
    | nil => exact Nat.le_refl _
    | cons x l => exact absurd (h x List.mem_cons_self) (Nat.not_lt_zero _)
  | succ n ih =>
    intro l nd h
    have := ih (nd.erase n) fun x hx => by
      obtain ⟨h1, h2⟩ := nd.mem_erase_iff.1 hx
      have := h x h2
      omega
    have e := List.length_erase (a := n) (l := l)
    rw [e] at this
    split at this <;> omega
theorem cmp_natsL (l : List Nat) : (D.lst (nD l)).cmp := pi_cmp (k := 1) (by decide) (by rw [D.pi]; exact pi_nats 0 l)
theorem eqv_nilL (x : Nat) (l : List Nat) : D.eqv (.lst (nD (x :: l))) (.lst []) = false := by rfl
theorem sorted_nats {l : List Nat} {ns : List Int} (nd : l.Nodup) (hp : ns.Perm (cI l)) (hs : ns.Pairwise (· ≤ ·)) : ∃ l' : List Nat, ns = cI l' ∧ Rising l' ∧ ∀ n, n ∈ l' ↔ n ∈ l := by
  have hpos : ∀ i ∈ ns, ∃ n : Nat, i = n := fun i hi => by
    obtain ⟨n, _, e⟩ := List.mem_map.1 (hp.mem_iff.1 hi)
    exact ⟨n, e.symm⟩
  have e : ns = cI (ns.map Int.toNat) := by
    rw [cI, List.map_map]
    refine (List.map_id' ns).symm.trans (List.map_congr_left fun i hi => ?_)
    obtain ⟨n, rfl⟩ := hpos i hi
    rfl
  have hp2 : (ns.map Int.toNat).Perm l := by
    have := hp.map Int.toNat
    rw [cI, List.map_map] at this
    have z : l.map (Int.toNat ∘ fun n : Nat => (n : Int)) = l := (List.map_congr_left fun _ _ => rfl).trans (List.map_id' l)
    rw [z] at this
    exact this
  exact ⟨ns.map Int.toNat, e, rising_of (by rw [e] at hs; exact hs) (hp2.symm.nodup nd), fun n => hp2.mem_iff⟩
end LS
namespace PM
open LS
def uniS (S : List Nat) (a b : List Nat) : List Nat := (List.range S.length).filter fun n => decide (n ∈ a) || decide (n ∈ b)
def joinL (w : Wd) (S : List Nat) (p : Part) (ps : List Part) : Part := ps.foldl (fun acc q => joinP S (jn w) (uniS S acc.ns q.ns) acc q) p
def unitP (w : Wd) : Part := ⟨[], [unitW w]⟩
def joinA (w : Wd) (S : List Nat) (ps : List Part) : Part := joinL w S (unitP w) ps
end PM
namespace PM
def nearN (ts : List (Nat × Nat)) (i : Nat) : List Nat := (ts.filter fun t => decide (i = t.1) || decide (i = t.2)).map fun t => t.1 + t.2 - i
theorem mem_near {ts : List (Nat × Nat)} {i j : Nat} : j ∈ nearN ts i ↔ (i, j) ∈ ts ∨ (j, i) ∈ ts := by
  unfold nearN
  rw [List.mem_map]
  constructor
  · rintro ⟨⟨a, b⟩, h, e⟩
    obtain ⟨h1, h2⟩ := List.mem_filter.1 h
    simp only [Bool.or_eq_true, decide_eq_true_eq] at h2
    simp only at e
    rcases h2 with rfl | rfl
    · rw [show i + b - i = b by omega] at e
      subst e; exact .inl h1
    · rw [show a + i - i = a by omega] at e
      subst e; exact .inr h1
  · rintro (h | h)
    · exact ⟨(i, j), List.mem_filter.2 ⟨h, by simp⟩, by simp only; omega⟩
    · exact ⟨(j, i), List.mem_filter.2 ⟨h, by simp⟩, by simp only; omega⟩
theorem near_nodup {ts : List (Nat × Nat)} {i : Nat} (nd : ts.Nodup) (hlt : ∀ t ∈ ts, t.1 < t.2) : (nearN ts i).Nodup := by
  unfold nearN List.Nodup
  rw [List.pairwise_map]
  refine List.Pairwise.imp_of_mem (R := fun a b => a ≠ b) ?_ (List.Pairwise.filter _ nd)
  rintro ⟨a, b⟩ ⟨c, d⟩ h1 h2 hne e
  obtain ⟨m1, p1⟩ := List.mem_filter.1 h1
  obtain ⟨m2, p2⟩ := List.mem_filter.1 h2
  simp only [Bool.or_eq_true, decide_eq_true_eq] at p1 p2
  have l1 : a < b := hlt _ m1
  have l2 : c < d := hlt _ m2
  simp only at e
  have : a = c ∧ b = d := by omega
  exact hne (by rw [this.1, this.2])
inductive Lnk (ts : List (Nat × Nat)) (sm : List Nat) (h : Nat) : Nat → Prop where
  | base : Lnk ts sm h h
  | step {y z : Nat} : Lnk ts sm h y → z ∈ nearN ts y → z ∈ sm → Lnk ts sm h z
def HangN (ts : List (Nat × Nat)) (sm : List Nat) : Prop := ∀ h ∈ sm.head?, ∀ y ∈ sm, Lnk ts sm h y
theorem nd_sub_len : ∀ {a b : List Nat}, a.Nodup → (∀ x ∈ a, x ∈ b) → a.length ≤ b.length := by
  intro a
  induction a with
  | nil => intro b _ _; exact Nat.zero_le _
  | cons x a ih =>
    intro b nd h
    obtain ⟨h1, h2⟩ := List.nodup_cons.1 nd
    have hx := h x List.mem_cons_self
    have := ih (b := b.erase x) h2 fun y hy => (List.mem_erase_of_ne (fun e => h1 (by rw [← e]; exact hy))).2 (h y (List.mem_cons_of_mem _ hy))
    rw [List.length_erase_of_mem hx] at this
    have h0 : 0 < b.length := List.length_pos_of_mem hx
    rw [List.length_cons]
    omega
theorem seen_iff {ts : List (Nat × Nat)} {sm seen : List Nat} {h : Nat} (hh : sm.head? = some h) (nd : sm.Nodup) (nds : seen.Nodup) (sub : ∀ x ∈ seen, x ∈ sm) (hin : h ∈ seen) (lk : ∀ x ∈ seen, Lnk ts sm h x) (cl : ∀ x ∈ seen, ∀ z ∈ nearN ts x, z ∈ sm → z ∈ seen) : seen.length = sm.length ↔ HangN ts sm := by
  constructor
  · intro e h' hm y hy
    rw [hh] at hm
    cases hm
    refine lk y (Classical.byContradiction fun hn => ?_)
    have := nd_sub_len (a := y :: seen) (b := sm) (List.nodup_cons.2 ⟨hn, nds⟩) fun x hx => by
      rcases List.mem_cons.1 hx with rfl | h
      · exact hy
      · exact sub x h
    rw [List.length_cons] at this
    omega
  · intro H
    have all : ∀ y ∈ sm, y ∈ seen := fun y hy => by
      have := H h (by rw [hh]; rfl) y hy
      induction this with
      | base => exact hin
      | step h1 h2 h3 ih =>
        rename_i u v
        cases h1 with
        | base => exact cl _ hin _ h2 h3
        | step a b c => exact cl _ (ih c) _ h2 h3
    exact Nat.le_antisymm (nd_sub_len nds sub) (nd_sub_len nd all)
theorem hang_root {ts : List (Nat × Nat)} {sm : List Nat} {r : Nat} (hr : r ∈ sm) (up : Nat → Nat) (hle : ∀ i ∈ sm, i ≤ r) (hup : ∀ i ∈ sm, i < r → i < up i ∧ up i ∈ sm ∧ (i, up i) ∈ ts) : HangN ts sm := by
  intro h hh y hy
  have hm : h ∈ sm := List.mem_of_mem_head? hh
  have toR : ∀ k i, i ∈ sm → r - i ≤ k → Lnk ts sm h i → Lnk ts sm h r := by
    intro k
    induction k with
    | zero => intro i hi hk hL; have := hle i hi; rw [show r = i by omega]; exact hL
    | succ k ih =>
      intro i hi hk hL
      by_cases e : i < r
      · obtain ⟨h1, h2, h3⟩ := hup i hi e
        have := hle _ h2
        exact ih (up i) h2 (by omega) (.step hL (mem_near.2 (.inl h3)) h2)
      · have := hle i hi; rw [show r = i by omega]; exact hL
  have hR : Lnk ts sm h r := toR _ h hm (Nat.le_refl _) .base
  have down : ∀ k i, i ∈ sm → r - i ≤ k → Lnk ts sm h i := by
    intro k
    induction k with
    | zero => intro i hi hk; have := hle i hi; rw [show i = r by omega]; exact hR
    | succ k ih =>
      intro i hi hk
      by_cases e : i < r
      · obtain ⟨h1, h2, h3⟩ := hup i hi e
        have := hle _ h2
        exact .step (ih (up i) h2 (by omega)) (mem_near.2 (.inr h3)) hi
      · have := hle i hi; rw [show i = r by omega]; exact hR
  exact down _ y hy (Nat.le_refl _)
def laterN (o B : List Nat) (k : Nat) : List Nat := ((List.range (o.length - (k + 1))).map fun i => k + 1 + i).filter fun j => decide (o.getD j 0 ∈ B)
def upN (o B : List Nat) (k : Nat) : Nat := (laterN o B k).headD (k + 1)
theorem mem_later {o B : List Nat} {k j : Nat} : j ∈ laterN o B k ↔ k < j ∧ j < o.length ∧ o.getD j 0 ∈ B := by
  unfold laterN
  rw [List.mem_filter, List.mem_map]
  simp only [List.mem_range, decide_eq_true_eq]
  constructor
  · rintro ⟨⟨a, h, rfl⟩, h2⟩; exact ⟨by omega, by omega, h2⟩
  · rintro ⟨h1, h2, h3⟩; exact ⟨⟨j - (k + 1), by omega, by omega⟩, h3⟩
theorem later_sorted (o B : List Nat) (k : Nat) : (laterN o B k).Pairwise (· < ·) := by
  unfold laterN
  refine List.Pairwise.filter _ ?_
  rw [List.pairwise_map]
  exact (List.pairwise_lt_range).imp fun h => by omega
theorem up_of {o B : List Nat} {k j : Nat} (h : j ∈ laterN o B k) : upN o B k ∈ laterN o B k ∧ upN o B k ≤ j := by
  unfold upN
  have hs := later_sorted o B k
  cases e : laterN o B k with
  | nil => rw [e] at h; cases h
  | cons a l =>
    rw [e] at h hs
    refine ⟨List.mem_cons_self, ?_⟩
    rcases List.mem_cons.1 h with rfl | h
    · exact Nat.le_refl _
    · exact Nat.le_of_lt (List.rel_of_pairwise_cons hs h)
theorem up_lt {o B : List Nat} {k : Nat} (h : k + 1 < o.length) : k < upN o B k ∧ upN o B k < o.length := by
  cases e : laterN o B k with
  | nil => unfold upN; rw [e]; exact ⟨Nat.lt_succ_self _, h⟩
  | cons a l =>
    have := mem_later.1 (up_of (show a ∈ laterN o B k by rw [e]; exact List.mem_cons_self)).1
    exact ⟨this.1, this.2.1⟩
noncomputable def treeN (n : Nat) (gs : List (List Nat)) (o : List Nat) : List (Nat × Nat) := (List.range (o.length - 1)).map fun k => (k, upN o (bagN n gs (o.take k) (o.getD k 0)) k)
theorem mem_tree {n : Nat} {gs : List (List Nat)} {o : List Nat} {t : Nat × Nat} : t ∈ treeN n gs o ↔ t.1 + 1 < o.length ∧ t.2 = upN o (bagN n gs (o.take t.1) (o.getD t.1 0)) t.1 := by
  unfold treeN
  rw [List.mem_map]
  simp only [List.mem_range]
  constructor
  · rintro ⟨k, h, rfl⟩; exact ⟨by simp only; omega, rfl⟩
  · rintro ⟨h1, h2⟩; exact ⟨t.1, by omega, by rw [← h2]⟩
theorem getD_mem {l : List Nat} {k : Nat} (h : k < l.length) : l.getD k 0 ∈ l := by
  rw [List.getD_eq_getElem?_getD, List.getElem?_eq_getElem h]
  exact List.getElem_mem h
theorem getD_take {l : List Nat} {k : Nat} (nd : l.Nodup) {j : Nat} (h : j < l.length) : l.getD j 0 ∈ l.take k ↔ j < k := by
  rw [List.getD_eq_getElem?_getD, List.getElem?_eq_getElem h]
  show l[j] ∈ _ ↔ _
  constructor
  · intro hm
    obtain ⟨i, hi, e⟩ := List.getElem_of_mem hm
    rw [List.length_take] at hi
    rw [List.getElem_take] at e
    have := (List.getElem_inj nd).1 e
    omega
  · intro hk
    exact List.mem_take_iff_getElem.2 ⟨j, by omega, rfl⟩
theorem tree_run {n : Nat} {gs : List (List Nat)} {o : List Nat} (nd : o.Nodup) (hl : ∀ m ∈ o, m < n) {i p : Nat} (hp : p < o.length) (hip : i < p) (hb : o.getD p 0 ∈ bagN n gs (o.take i) (o.getD i 0)) :
    i < upN o (bagN n gs (o.take i) (o.getD i 0)) i ∧ upN o (bagN n gs (o.take i) (o.getD i 0)) i ≤ p ∧ o.getD p 0 ∈ bagN n gs (o.take (upN o (bagN n gs (o.take i) (o.getD i 0)) i)) (o.getD (upN o (bagN n gs (o.take i) (o.getD i 0)) i) 0) := by
  obtain ⟨h1, h2⟩ := up_of (mem_later.2 ⟨hip, hp, hb⟩)
  obtain ⟨h3, h4, h5⟩ := mem_later.1 h1
  generalize upN o (bagN n gs (o.take i) (o.getD i 0)) i = j at *
  refine ⟨h3, h2, ?_⟩
  rw [mem_bag] at hb h5 ⊢
  have hi : i < o.length := by omega
  refine ⟨hb.1, fun z => by have := (getD_take nd hp).1 z; omega, ?_⟩
  have s1 : Rch n gs (o.take j) (o.getD j 0) (o.getD i 0) := (h5.2.2.symm (hl _ (getD_mem hi)) h5.2.1).mono fun t ht => (List.take_subset_take_left o (by omega)) ht
  exact s1.trans' ((getD_take nd hi).2 h3) (hb.2.2.mono fun t ht => (List.take_subset_take_left o (by omega)) ht)
theorem tree_part {n : Nat} {gs : List (List Nat)} {o : List Nat} (nd : o.Nodup) (hl : ∀ m ∈ o, m < n) (hall : ∀ m, m < n → m ∈ o) {ns : List Nat} (hns : ns ∈ gs) (hnl : ∀ m ∈ ns, m < n) (h0 : 0 < o.length) : ∃ k, k < o.length ∧ ∀ m ∈ ns, m ∈ bagN n gs (o.take k) (o.getD k 0) := by
  -- the first of the order that stands in the group
  by_cases he : ∃ k, k < o.length ∧ o.getD k 0 ∈ ns
  · have hex : ∃ k, (k < o.length ∧ o.getD k 0 ∈ ns) ∧ ∀ j, j < k → ¬ (j < o.length ∧ o.getD j 0 ∈ ns) := by
      obtain ⟨k, hk⟩ := he
      induction k using Nat.strongRecOn with
      | ind k ih =>
        by_cases h : ∃ j, j < k ∧ j < o.length ∧ o.getD j 0 ∈ ns
        · obtain ⟨j, hj, h1⟩ := h; exact ih j hj h1
        · exact ⟨k, hk, fun j hj z => h ⟨j, hj, z⟩⟩
    obtain ⟨k, ⟨hk, hkn⟩, hmin⟩ := hex
    refine ⟨k, hk, fun m hm => ?_⟩
    obtain ⟨j, hj, e⟩ := List.getElem_of_mem (hall m (hnl m hm))
    have ej : o.getD j 0 = m := by rw [List.getD_eq_getElem?_getD, List.getElem?_eq_getElem hj]; exact e
    have hjk : ¬ j < k := fun z => hmin j z ⟨hj, by rw [ej]; exact hm⟩
    refine mem_bag.2 ⟨hnl m hm, fun z => by rw [← ej] at z; exact hjk ((getD_take nd hj).1 z), ?_⟩
    by_cases e2 : m = o.getD k 0
    · rw [← e2]; exact .base
    · exact .step .base (.inl rfl) (mem_nb.2 ⟨hnl m hm, tieB_iff.2 ⟨fun z => e2 z.symm, ns, hns, hkn, hm⟩⟩)
  · refine ⟨0, h0, fun m hm => ?_⟩
    obtain ⟨j, hj, e⟩ := List.getElem_of_mem (hall m (hnl m hm))
    exact absurd ⟨j, hj, by rw [List.getD_eq_getElem?_getD, List.getElem?_eq_getElem hj]; show o[j] ∈ ns; rw [e]; exact hm⟩ he
theorem tree_name {n : Nat} {gs : List (List Nat)} {o : List Nat} (nd : o.Nodup) (hl : ∀ m ∈ o, m < n) {x : Nat} (hx : x ∈ o) :
    (∃ i ∈ List.range o.length, x ∈ bagN n gs (o.take i) (o.getD i 0)) ∧ HangN (treeN n gs o) ((List.range o.length).filter fun i => decide (x ∈ bagN n gs (o.take i) (o.getD i 0))) := by
  obtain ⟨p, hp, e⟩ := List.getElem_of_mem hx
  have ep : o.getD p 0 = x := by rw [List.getD_eq_getElem?_getD, List.getElem?_eq_getElem hp]; exact e
  have self : x ∈ bagN n gs (o.take p) (o.getD p 0) := by
    have := self_bag (n := n) (gs := gs) (T := o.take p) (x := o.getD p 0) (hl _ (getD_mem hp)) fun z => by have := (getD_take nd hp).1 z; omega
    rwa [ep] at this ⊢
  have mm : ∀ i, i ∈ (List.range o.length).filter (fun i => decide (x ∈ bagN n gs (o.take i) (o.getD i 0))) ↔ i < o.length ∧ x ∈ bagN n gs (o.take i) (o.getD i 0) := fun i => by
    rw [List.mem_filter, List.mem_range, decide_eq_true_eq]
  refine ⟨⟨p, List.mem_range.2 hp, self⟩, ?_⟩
  have hle : ∀ i, x ∈ bagN n gs (o.take i) (o.getD i 0) → i ≤ p := fun i h => by
    have h2 := (mem_bag.1 h).2.1
    rw [← ep] at h2
    have := mt (getD_take (k := i) nd hp).2 h2
    omega
  refine hang_root (r := p) ((mm p).2 ⟨hp, self⟩) (fun k => upN o (bagN n gs (o.take k) (o.getD k 0)) k) (fun i hi => hle i ((mm i).1 hi).2) fun i hi h => ?_
  obtain ⟨h1, h2⟩ := (mm i).1 hi
  rw [← ep] at h2
  obtain ⟨a, b, c⟩ := tree_run nd hl hp h h2
  rw [ep] at c
  exact ⟨a, (mm _).2 ⟨by omega, c⟩, mem_tree.2 ⟨by simp only; omega, rfl⟩⟩
end PM
namespace LS
open PySem L2 HD PM
local macro_rules | `(tactic| trivial) => `(tactic| try simp -dsimp only [↓sIf, ↓sRet, ↓retD_ext, ↓retD_lst, ↓retD_al, ↓sSet, ↓sSetE, ↓sAsg, ↓sDrop, ↓sNext, ↓sFor, ↓sRetN, ↓sCont, ↓sBreak, ↓dTest, ↓dOp, ↓dVar_w, ↓dC, ↓dCons, ↓dNil, ↓dTup, ↓dLst, ↓frzDs, ↓frzD_ext, ↓frzD_lst, ↓frzD_al, ↓wd_ext, ↓wd_lst, ↓wd_al, ↓wds, ↓AtS_ext, ↓AtS_lst, ↓AtL, ↓fAdd, ↓fSub, ↓fMul, ↓fDiv, ↓fMod, ↓fPow, ↓fCmp, ↓fIn, ↓fEq_ii, ↓fEq_ss, ↓fEq_bb, ↓fEq_tt, ↓fEq_ll, ↓fNe_ii, ↓fNe_ss, ↓fNe_bb, ↓fNe_tt, ↓fNe_ll, ↓fIx_l, ↓fIx_t, ↓fIx_k, ↓fIx_f, ↓GetS_some, ↓NatS_some, ↓fSl, ↓fIsN, ↓fNotN, ↓D.knN, ↓dNot, ↓dAnd, ↓dOr, ↓dAndV_w, ↓dOrV_w, ↓dNotV, ↓dIf, ↓dNeg, ↓dChain_w, ↓BlS_bl, ↓dCall_w, ↓dCallJ_w, ↓anyAl, ↓frozs, ↓froz, ↓gSet, ↓gTupD, ↓gsCons, ↓gsNil, ↓dSeq, ↓seqD_tup, ↓seqD_elst, ↓seqD_lst, ↓seqD_al, ↓dRange1, ↓dRange2, ↓dZip, ↓dCB, ↓dLc, ↓dYes, ↓dNoPart, ↓dPart, ↓dSl, ↓fLen, ↓fMin, ↓fMax, ↓fSum, ↓fAll, ↓fAny, ↓fSorted, ↓fTuple, ↓fList, ↓dRg1, ↓dRg2, ↓dLstRg, ↓dTupRg, ↓dIndex, ↓fIdx, ↓dAppend_w, ↓dExtend_w, ↓extD_lst, ↓dPopAt_w, ↓popD_int, ↓dPop_w, ↓mutD_w, ↓sSetItem_w, ↓setD_int, ↓dSortSet, ↓dTable_w, ↓wipeE, finals1, finals2, finals3, finals4, finals5, finals6, fin1_ext, fin1_lst, List.getElem?_cons_zero, List.getElem?_cons_succ, List.getElem?_nil, List.set_cons_zero, List.set_cons_succ, List.cons_append, List.nil_append, List.append_nil, List.replicate_succ, List.replicate_zero, List.map_cons, List.map_nil, List.length_cons, List.length_nil, true_and, and_true, ite_true, ite_false, if_true, if_false, Bool.false_eq_true, decide_eq_true_eq, Sl.plain, D.isSq, eq_self_iff_true, forall_const, reduceIte, true_or, or_true, atI_0, atI_1, atI_2, atI_3, ixN_0, ixN_1, ixN_2, AtS_ext, AtS_lst, FzS_lst, FzS_ext, GetS_some, NatS_some, ↓fIsi1, ↓fIsi2, BoolS_some, HD.kb_non_tuple, HD.kb_non_list, HD.kb_non_bool, HD.kb_non_int, HD.kb_non_str, HD.kb_bl_tuple, HD.kb_bl_list, HD.kb_bl_bool, HD.kb_bl_int, HD.kb_bl_str, HD.kb_int_tuple, HD.kb_int_list, HD.kb_int_bool, HD.kb_int_int, HD.kb_int_str, HD.kb_str_tuple, HD.kb_str_list, HD.kb_str_bool, HD.kb_str_int, HD.kb_str_str, HD.kb_lst_tuple, HD.kb_lst_list, HD.kb_lst_bool, HD.kb_lst_int, HD.kb_lst_str, HD.kb_tup_tuple, HD.kb_tup_list, HD.kb_tup_bool, HD.kb_tup_int, HD.kb_tup_str, ↓sFz_w, ↓FzS_lst, ↓FzS_ext, ↓dSortSetL, ↓fAbs, ↓fInt, ↓fRepr, ↓fLtT, ↓sRaise, ↓sTryKeep, ↓dCallV_w, ↓dMeth, ↓fCount, ↓fSplit, ↓seq_setE, ↓seq_set, ↓seq_drop, ↓seq_asg, ↓seq_if, ↓seq_for, ↓dStep, ↓fStep, ↓fMulT, ↓fIsB, ↓fNotB, ↓sPar, ↓dEnum, ↓dListZip, ↓dNest, ↓sSeal, ↓dNApp, ↓retD_reg, ↓dLenSet, ↓fSum2, ↓seq_putD, ↓seq_sealD, ↓dDIn, ↓dDGet, ↓sPutD, ↓dDNew, ↓dDOne, ↓sSealD, ↓dKeys, ↓keyS_dk, ↓dExtT, ↓fSortT, ↓fMinP, ↓dRemove])
def tieD (t : Nat × Nat) : D := .tup [.int (t.1 : Nat), .int (t.2 : Nat)]
def sp_near_of : DSpec := fun args Q _ => ∃ (ts : List (Nat × Nat)) (i : Nat), args = [.ext (.tup (ts.map tieD)), dI (i : Nat)] ∧ ts.length ≤ 100 ∧ ∀ (l : List Nat) a fin, l.Perm (nearN ts i) → l.Pairwise (· ≤ ·) → Q (.lst a (nD l)) fin
def e1_near_of : DT :=
    (dOp fSub (dOp fAdd (dVar 2) (dVar 3)) (dVar 1))
def t_near_of : DTS :=
    (sRet (dCB fSorted (dCons (dLc (dSeq (dVar 0)) (gTupD 2 (gsCons (gSet 2) (gsCons (gSet 3) gsNil))) (dTest (dOp (fIn false) (dVar 1) (dTup (dCons (dVar 2) (dCons (dVar 3) dNil))))) e1_near_of [2, 3]) dNil)))
theorem m_near_of : Meets t_near_of 2 2 sp_near_of := by
  rintro args Qd Xd ⟨ts, i, rfl, hl, hQ⟩
  show t_near_of _ _ [_, _, .un, .un]
  unfold t_near_of
  trivial
  refine lc_filter tieD (fun t => .int ((t.1 + t.2 - i : Nat) : Int)) (fun t => decide (i = t.1) || decide (i = t.2)) True.intro ts (Nat.le_trans hl (by decide)) (fun t ht R hR => ?_) fun b => ?_
  · unfold e1_near_of tieD
    trivial
    refine ⟨by decide, rfl, rfl, ?_⟩
    rw [show ([D.int (t.1 : Nat), D.int (t.2 : Nat)] : List D) = nD [t.1, t.2] from rfl, isIn_nat]
    have e0 : decide (i ∈ [t.1, t.2]) = (decide (i = t.1) || decide (i = t.2)) := by
      rw [Bool.eq_iff_iff]; simp
    rw [e0]
    split
    · rename_i h
      rw [if_pos h] at hR
      have e1 : ((t.1 : Nat) : Int) + (t.2 : Nat) - (i : Nat) = ((t.1 + t.2 - i : Nat) : Int) := by
        simp only [Bool.or_eq_true, decide_eq_true_eq] at h
        omega
      rw [e1]
      exact hR
    · rename_i h
      rw [if_neg h] at hR
      exact hR
  trivial
  refine ⟨cI (nearN ts i), ?_, fun ns' a hp hs => ?_⟩
  · unfold nearN cI
    rw [List.map_map, List.map_map]
    rfl
  obtain ⟨l, rfl⟩ : ∃ l, ns' = cI l := ⟨ns'.map Int.toNat, by
    unfold cI
    rw [List.map_map]
    refine (List.map_id _).symm.trans (List.map_congr_left fun x hx => ?_)
    obtain ⟨m, _, rfl⟩ := List.mem_map.1 (hp.mem_iff.1 hx)
    simp⟩
  trivial
  have e : (cI l).map D.int = nD l := by unfold cI nD; rw [List.map_map]; rfl
  rw [e]
  refine hQ l a _ ?_ ?_
  · have := hp.map Int.toNat
    unfold cI at this
    rw [List.map_map, List.map_map] at this
    simpa [Function.comp_def] using this
  · unfold cI at hs
    rw [List.pairwise_map] at hs
    exact hs.imp fun h => by omega
def sp_hanging : DSpec := fun args Q _ => ∃ (ts : List (Nat × Nat)) (sm : List Nat), args = [.ext (.tup (ts.map tieD)), .ext (.lst (nD sm))] ∧ ts.length ≤ 100 ∧ sm.length ≤ 100 ∧ ts.Nodup ∧ (∀ t ∈ ts, t.1 < t.2) ∧ sm.Nodup ∧ ∀ (b : Bool) fin, (b = true ↔ HangN ts sm) → Q (.ext (.bl b)) fin
def e1_hanging : DT :=
    (dVar 4)
def b2_hanging : DTS :=
    (sSeq (sSetE 2 (dOp fAdd (dVar 2) (dLc (dSeq (dCall sp_near_of (dCons (dVar 0) (dCons (dOp fIx (dVar 2) (dVar 3)) dNil)))) (gSet 4) (dAnd (dTest (dOp (fIn false) (dVar 4) (dVar 1))) (dTest (dOp (fIn true) (dVar 4) (dVar 2)))) e1_hanging [4])))
    (sSetE 3 (dOp fAdd (dVar 3) (dC (.int 1)))))
def k3_hanging : DTS :=
    (sRet (dOp fEq (dCB fLen (dCons (dVar 2) dNil)) (dCB fLen (dCons (dVar 1) dNil))))
def t_hanging : DTS :=
    (sSeq (sIf (dTest (dOp fEq (dVar 1) (dLst dNil))) (sRet (dC (.bl true))) sNext)
    (sSeq (sSetE 2 (dLst (dCons (dOp fIx (dVar 1) (dC (.int 0))) dNil)))
    (sSeq (sSetE 3 (dC (.int 0)))
    (sSeq (sWhile (dTest (dOp (fCmp fun i j => decide (i < j)) (dVar 3) (dCB fLen (dCons (dVar 2) dNil)))) b2_hanging)
    k3_hanging))))
theorem m_hanging : Meets t_hanging 2 3 sp_hanging := by
  rintro args Qd Xd ⟨ts, sm, rfl, hl, hsl, nd, hlt, nds, hQ⟩
  show t_hanging _ _ [_, _, .un, .un, .un]
  unfold t_hanging
  trivial
  refine ⟨by decide, cmp_natsL _, cmp_natsL [], ?_⟩
  cases sm with
  | nil =>
    rw [if_pos (show D.eqv (.lst (nD [])) (.lst []) = true from eqv_refl (cmp_natsL []))]
    exact hQ _ _ ⟨fun _ h hh => by simp at hh, fun _ => rfl⟩
  | cons h sm' =>
  rw [if_neg (by rw [eqv_nilL]; decide)]
  rw [show nD (h :: sm') = D.int (h : Nat) :: nD sm' from rfl, atI_0]
  trivial
  refine ⟨by decide, ?_⟩
  rw [show D.int (h : Nat) :: nD sm' = nD (h :: sm') from rfl]
  generalize hsm : h :: sm' = sm at *
  have hhd : sm.head? = some h := by rw [← hsm]; rfl
  have hhm : h ∈ sm := by rw [← hsm]; exact List.mem_cons_self
  rw [seq_while]
  refine ⟨fun m env => ∃ (seen : List Nat) (at' : Nat) (u4 : Sl), env = [.ext (.tup (ts.map tieD)), .ext (.lst (nD sm)), .ext (.lst (nD seen)), dI (at' : Nat), u4] ∧ m = sm.length - at' ∧ seen.Nodup ∧ (∀ x ∈ seen, x ∈ sm) ∧ h ∈ seen ∧ (∀ x ∈ seen, Lnk ts sm h x) ∧ at' ≤ seen.length ∧ ∀ k, k < at' → ∀ z ∈ nearN ts (seen.getD k 0), z ∈ sm → z ∈ seen, ⟨_, [h], 0, _, rfl, rfl, by simp, fun x hx => by rw [List.mem_singleton.1 hx]; exact hhm, by simp, fun x hx => by rw [List.mem_singleton.1 hx]; exact .base, by simp, fun k hk => absurd hk (Nat.not_lt_zero _)⟩, ?_⟩
  rintro m env ⟨seen, at', u4, rfl, rfl, hnd, hsub, hin, hlk, hat, hcl⟩
  have hle := nd_sub_len hnd hsub
  trivial
  rw [nD_len]
  by_cases hlt2 : at' < seen.length
  · rw [if_pos (by simpa using hlt2)]
    unfold b2_hanging
    trivial
    refine ⟨_, atN (getD_at hlt2), ?_⟩
    trivial
    refine ⟨ts, seen.getD at' 0, rfl, hl, fun l a1 fin hp _ => ?_⟩
    trivial
    have ndl : l.Nodup := hp.symm.nodup (near_nodup nd hlt)
    have hll : l.length ≤ 100 := by
      rw [hp.length_eq]
      unfold nearN
      rw [List.length_map]
      exact Nat.le_trans (List.length_filter_le _ _) hl
    refine lc_filter (fun i : Nat => D.int (i : Nat)) (fun i : Nat => D.int (i : Nat)) (fun i => decide (i ∈ sm) && decide (i ∉ seen)) True.intro l (Nat.le_trans hll (by decide)) (fun i hi R hR => ?_) fun b => ?_
    · unfold e1_hanging
      trivial
      rw [isIn_nat, isIn_nat]
      refine ⟨rfl, flat_nD _, ?_⟩
      by_cases h1 : i ∈ sm
      · rw [if_pos (decide_eq_true h1)]
        refine ⟨rfl, flat_nD _, ?_⟩
        by_cases h2 : i ∈ seen
        · rw [if_neg (by simp [h2])]
          rw [if_neg (by simp [h2])] at hR
          exact hR
        · rw [if_pos (by simp [h2])]
          rw [if_pos (by simp [h1, h2])] at hR
          exact hR
      · rw [if_neg (by simp [h1])]
        rw [if_neg (by simp [h1])] at hR
        exact hR
    trivial
    have hfl : (l.filter fun i => decide (i ∈ sm) && decide (i ∉ seen)).length ≤ 100 := Nat.le_trans (List.length_filter_le _ _) hll
    have hmem : ∀ z, z ∈ (l.filter fun i => decide (i ∈ sm) && decide (i ∉ seen)) ↔ z ∈ nearN ts (seen.getD at' 0) ∧ z ∈ sm ∧ z ∉ seen := fun z => by
      rw [List.mem_filter, hp.mem_iff]
      simp
    have hga : seen.getD at' 0 ∈ seen := getD_mem hlt2
    refine ⟨by rw [nD_len, List.length_map]; exact Nat.le_trans (by omega : _ ≤ 200) (by decide), sm.length - (at' + 1), by omega, seen ++ (l.filter fun i => decide (i ∈ sm) && decide (i ∉ seen)), at' + 1, _, by rw [show nD (seen ++ (l.filter fun i => decide (i ∈ sm) && decide (i ∉ seen))) = nD seen ++ (l.filter fun i => decide (i ∈ sm) && decide (i ∉ seen)).map (fun i : Nat => D.int (i : Nat)) from List.map_append]; rfl, rfl, ?_, ?_, List.mem_append_left _ hin, ?_, by rw [List.length_append]; omega, ?_⟩
    · rw [List.nodup_append]
      exact ⟨hnd, ndl.filter _, fun x hx y hy e => ((hmem y).1 hy).2.2 (by rw [← e]; exact hx)⟩
    · intro x hx
      rcases List.mem_append.1 hx with h1 | h1
      · exact hsub x h1
      · exact ((hmem x).1 h1).2.1
    · intro x hx
      rcases List.mem_append.1 hx with h1 | h1
      · exact hlk x h1
      · obtain ⟨h2, h3, _⟩ := (hmem x).1 h1
        exact .step (hlk _ hga) h2 h3
    · intro k hk z hz hzm
      rw [List.getD_eq_getElem?_getD, List.getElem?_append_left (by omega), ← List.getD_eq_getElem?_getD] at hz
      rcases Nat.lt_or_ge k at' with h1 | h1
      · exact List.mem_append_left _ (hcl k h1 z hz hzm)
      · have : k = at' := by omega
        subst this
        by_cases h2 : z ∈ seen
        · exact List.mem_append_left _ h2
        · exact List.mem_append_right _ ((hmem z).2 ⟨hz, hzm, h2⟩)
  · rw [if_neg (by simpa using hlt2)]
    have ea : at' = seen.length := by omega
    unfold k3_hanging
    trivial
    rw [nD_len, nD_len]
    refine hQ _ _ ?_
    have := seen_iff hhd nds hnd hsub hin hlk fun x hx z hz hzm => by
      obtain ⟨k, hk, e⟩ := List.getElem_of_mem hx
      refine hcl k (by omega) z ?_ hzm
      rw [List.getD_eq_getElem?_getD, List.getElem?_eq_getElem hk]
      show z ∈ nearN ts seen[k]
      rw [e]
      exact hz
    rw [← this]
    simp
    omega
def sp_is_tie : DSpec := fun args Q _ => ∃ (n : Nat) (t : Nat × Nat), args = [dI (n : Nat), .ext (tieD t)] ∧ ∀ fin, Q (.ext (.bl (decide (t.1 < t.2 ∧ t.2 < n)))) fin
def k1_is_tie : DTS :=
    (sRet (dChain3 (fCmp fun i j => decide (i ≤ j)) (fCmp fun i j => decide (i < j)) (fCmp fun i j => decide (i < j)) (dC (.int 0)) (dOp fIx (dVar 1) (dC (.int 0))) (dOp fIx (dVar 1) (dC (.int 1))) (dVar 0)))
def t_is_tie : DTS :=
    (sSeq (sIf (dOr (dNot (dTest (dCB fIsi (dCons (dVar 1) (dCons (dC (.val (.ty "tuple"))) dNil))))) (dOr (dTest (dOp fNe (dCB fLen (dCons (dVar 1) dNil)) (dC (.int 2)))) (dOr (dNot (dTest (dCall sp_is_whole (dCons (dOp fIx (dVar 1) (dC (.int 0))) dNil)))) (dNot (dTest (dCall sp_is_whole (dCons (dOp fIx (dVar 1) (dC (.int 1))) dNil))))))) (sRet (dC (.bl false))) sNext)
    k1_is_tie)
theorem pl_tupF (Bs : List (List Nat)) (h : Bs.length ≤ 1000) (h2 : ∀ B ∈ Bs, B.length ≤ 1000) : D.pl 2 (.tup (fD Bs)) = true := by
  rw [D.pl, Bool.and_eq_true, List.all_eq_true, decide_eq_true_eq]
  refine ⟨by unfold fD; rw [List.length_map]; omega, fun d hd => ?_⟩
  obtain ⟨B, hB, rfl⟩ := List.mem_map.1 hd
  exact pl_tupN _ (by have := h2 B hB; omega)
theorem pl_tupT (ts : List (Nat × Nat)) (h : ts.length ≤ 1000) : D.pl 2 (.tup (ts.map tieD)) = true := by
  rw [D.pl, Bool.and_eq_true, List.all_eq_true, decide_eq_true_eq]
  refine ⟨by rw [List.length_map]; omega, fun d hd => ?_⟩
  obtain ⟨t, ht, rfl⟩ := List.mem_map.1 hd
  exact pl_tupN [t.1, t.2] (by simp)
def sp_are_bags : DSpec := fun args Q _ => ∃ (n : Nat) (Bs : List (List Nat)), args = [dI (n : Nat), .ext (.tup (fD Bs))] ∧ 0 < Bs.length ∧ Bs.length ≤ 12 ∧ (∀ B ∈ Bs, Rising B ∧ B.length ≤ 100 ∧ ∀ m ∈ B, m < n) ∧ ∀ fin, Q (.ext (.bl true)) fin
def e1_are_bags : DT :=
    (dCall sp_are_names (dCons (dVar 0) (dCons (dVar 2) dNil)))
def k2_are_bags : DTS :=
    (sRet (dCB fAll (dCons (dLc (dSeq (dVar 1)) (gSet 2) dYes e1_are_bags [2]) dNil)))
def t_are_bags : DTS :=
    (sSeq (sIf (dOr (dNot (dTest (dCB fIsi (dCons (dVar 1) (dCons (dC (.val (.ty "tuple"))) dNil))))) (dNot (dTest (dChain (fCmp fun i j => decide (i ≤ j)) (fCmp fun i j => decide (i ≤ j)) (dC (.int 1)) (dCB fLen (dCons (dVar 1) dNil)) (dC (.int 12)))))) (sRet (dC (.bl false))) sNext)
    k2_are_bags)
structure TreeOk (m : Nat) (ts : List (Nat × Nat)) : Prop where
  len : ts.length + 1 = m
  few : m ≤ 100
  lt : ∀ t ∈ ts, t.1 < t.2 ∧ t.2 < m
  up : ts.Pairwise fun a b => a.1 < b.1 ∨ (a.1 = b.1 ∧ a.2 < b.2)
  hang : HangN ts (List.range m)
theorem TreeOk.nd {m : Nat} {ts : List (Nat × Nat)} (h : TreeOk m ts) : ts.Nodup := h.up.imp fun h e => by rw [e] at h; omega
def sp_is_tree : DSpec := fun args Q _ => ∃ (n : Int) (Bs : List (List Nat)) (ts : List (Nat × Nat)), args = [dI n, .ext (.tup (fD Bs)), .ext (.tup (ts.map tieD))] ∧ TreeOk Bs.length ts ∧ ∀ fin, Q (.ext (.bl true)) fin
def e1_is_tree : DT :=
    (dCall sp_is_tie (dCons (dCB fLen (dCons (dVar 1) dNil)) (dCons (dVar 3) dNil)))
def e2_is_tree : DT :=
    (dOp fGeT (dOp fIx (dVar 2) (dOp fSub (dVar 4) (dC (.int 1)))) (dOp fIx (dVar 2) (dVar 4)))
def k3_is_tree : DTS :=
    (sRet (dCall sp_hanging (dCons (dVar 2) (dCons (dLstRg (dRg1 (dCB fLen (dCons (dVar 1) dNil)))) dNil))))
def k4_is_tree : DTS :=
    (sSeq (sIf (dOr (dTest (dOp fNe (dCB fLen (dCons (dVar 2) dNil)) (dOp fSub (dCB fLen (dCons (dVar 1) dNil)) (dC (.int 1))))) (dTest (dCB fAny (dCons (dLc (dRange2 (dCons (dC (.int 1)) (dCons (dCB fLen (dCons (dVar 2) dNil)) dNil))) (gSet 4) dYes e2_is_tree [4]) dNil)))) (sRet (dC (.bl false))) sNext)
    k3_is_tree)
def t_is_tree : DTS :=
    (sSeq (sIf (dOr (dNot (dTest (dCB fIsi (dCons (dVar 2) (dCons (dC (.val (.ty "tuple"))) dNil))))) (dNot (dTest (dCB fAll (dCons (dLc (dSeq (dVar 2)) (gSet 3) dYes e1_is_tree [3]) dNil))))) (sRet (dC (.bl false))) sNext)
    k4_is_tree)
structure BTree (n : Nat) (gs : List (List Nat)) (Bs : List (List Nat)) (ts : List (Nat × Nat)) : Prop where
  few : Bs.length ≤ 12
  bag : ∀ B ∈ Bs, Rising B ∧ B.length ≤ 100 ∧ ∀ m ∈ B, m < n
  tree : TreeOk Bs.length ts
  part : ∀ ns ∈ gs, ∃ B ∈ Bs, ∀ m ∈ ns, m ∈ B
  name : ∀ x, x < n → (∃ i ∈ List.range Bs.length, x ∈ Bs.getD i []) ∧ HangN ts ((List.range Bs.length).filter fun i => decide (x ∈ Bs.getD i []))
def dTree (Bs : List (List Nat)) (ts : List (Nat × Nat)) : D := .tup [.tup (fD Bs), .tup (ts.map tieD)]
theorem pl_tree (Bs : List (List Nat)) (ts : List (Nat × Nat)) (h : Bs.length ≤ 1000) (h2 : ∀ B ∈ Bs, B.length ≤ 1000) (h3 : ts.length ≤ 1000) : D.pl 3 (dTree Bs ts) = true := by
  unfold dTree
  rw [D.pl]
  simp only [List.all_cons, List.all_nil, pl_tupF Bs h h2, pl_tupT ts h3]
  rfl
def sp_is_bag_tree : DSpec := fun args Q _ => ∃ (S : List Nat) (ps : List Part) (Bs : List (List Nat)) (ts : List (Nat × Nat)), args = [.ext (dSh S ps), .ext (dTree Bs ts)] ∧ NsOk S ps ∧ BTree S.length (gsOf ps) Bs ts ∧ ∀ fin, Q (.ext (.bl true)) fin
def e1_is_bag_tree : DT :=
    (dOp (fIn false) (dVar 7) (dVar 6))
def e2_is_bag_tree : DT :=
    (dCB fAll (dCons (dLc (dSeq (dOp fIx (dVar 5) (dC (.int 0)))) (gSet 7) dYes e1_is_bag_tree [7]) dNil))
def b3_is_bag_tree : DTS :=
    (sIf (dNot (dTest (dCB fAny (dCons (dLc (dSeq (dVar 3)) (gSet 6) dYes e2_is_bag_tree [6]) dNil)))) (sRet (dC (.bl false))) sNext)
def e4_is_bag_tree : DT :=
    (dVar 9)
def b5_is_bag_tree : DTS :=
    (sSeq (sSetE 8 (dLc (dRange1 (dCons (dCB fLen (dCons (dVar 3) dNil)) dNil)) (gSet 9) (dTest (dOp (fIn false) (dVar 7) (dOp fIx (dVar 3) (dVar 9)))) e4_is_bag_tree [9]))
    (sIf (dOr (dTest (dOp fEq (dVar 8) (dLst dNil))) (dNot (dTest (dCall sp_hanging (dCons (dVar 4) (dCons (dVar 8) dNil)))))) (sRet (dC (.bl false))) sNext))
def k6_is_bag_tree : DTS :=
    (sRet (dC (.bl true)))
def k7_is_bag_tree : DTS :=
    (sSeq (sFor (dRange1 (dCons (dVar 2) dNil)) (gSet 7) b5_is_bag_tree)
    k6_is_bag_tree)
def k8_is_bag_tree : DTS :=
    (sSeq (sAsg (dVar 1) (gTupD 2 (gsCons (gSet 3) (gsCons (gSet 4) gsNil))))
    (sSeq (sIf (dNot (dTest (dCall sp_is_tree (dCons (dVar 2) (dCons (dVar 3) (dCons (dVar 4) dNil)))))) (sRet (dC (.bl false))) sNext)
    (sSeq (sFor (dSeq (dOp fIx (dVar 0) (dC (.int 1)))) (gSet 5) b3_is_bag_tree)
    k7_is_bag_tree)))
def t_is_bag_tree : DTS :=
    (sSeq (sSetE 2 (dCB fLen (dCons (dOp fIx (dVar 0) (dC (.int 0))) dNil)))
    (sSeq (sIf (dOr (dNot (dTest (dCB fIsi (dCons (dVar 1) (dCons (dC (.val (.ty "tuple"))) dNil))))) (dOr (dTest (dOp fNe (dCB fLen (dCons (dVar 1) dNil)) (dC (.int 2)))) (dNot (dTest (dCall sp_are_bags (dCons (dVar 2) (dCons (dOp fIx (dVar 1) (dC (.int 0))) dNil))))))) (sRet (dC (.bl false))) sNext)
    k8_is_bag_tree))
end LS
namespace LS
namespace BT
open PySem L2 HD PM
local macro_rules | `(tactic| trivial) => `(tactic| try simp -dsimp only [↓sIf, ↓sRet, ↓retD_ext, ↓retD_lst, ↓retD_al, ↓sSet, ↓sSetE, ↓sAsg, ↓sDrop, ↓sNext, ↓sFor, ↓sRetN, ↓sCont, ↓sBreak, ↓dTest, ↓dOp, ↓dVar_w, ↓dC, ↓dCons, ↓dNil, ↓dTup, ↓dLst, ↓frzDs, ↓frzD_ext, ↓frzD_lst, ↓frzD_al, ↓wd_ext, ↓wd_lst, ↓wd_al, ↓wds, ↓AtS_ext, ↓AtS_lst, ↓AtL, ↓fAdd, ↓fSub, ↓fMul, ↓fDiv, ↓fMod, ↓fPow, ↓fCmp, ↓fIn, ↓fEq_ii, ↓fEq_ss, ↓fEq_bb, ↓fEq_tt, ↓fEq_ll, ↓fNe_ii, ↓fNe_ss, ↓fNe_bb, ↓fNe_tt, ↓fNe_ll, ↓fIx_l, ↓fIx_t, ↓fIx_k, ↓fIx_f, ↓GetS_some, ↓NatS_some, ↓fSl, ↓fIsN, ↓fNotN, ↓D.knN, ↓dNot, ↓dAnd, ↓dOr, ↓dAndV_w, ↓dOrV_w, ↓dNotV, ↓dIf, ↓dNeg, ↓dChain_w, ↓BlS_bl, ↓dCall_w, ↓dCallJ_w, ↓anyAl, ↓frozs, ↓froz, ↓gSet, ↓gTupD, ↓gsCons, ↓gsNil, ↓dSeq, ↓seqD_tup, ↓seqD_elst, ↓seqD_lst, ↓seqD_al, ↓dRange1, ↓dRange2, ↓dZip, ↓dCB, ↓dLc, ↓dYes, ↓dNoPart, ↓dPart, ↓dSl, ↓fLen, ↓fMin, ↓fMax, ↓fSum, ↓fAll, ↓fAny, ↓fSorted, ↓fTuple, ↓fList, ↓dRg1, ↓dRg2, ↓dLstRg, ↓dTupRg, ↓dIndex, ↓fIdx, ↓dAppend_w, ↓dExtend_w, ↓extD_lst, ↓dPopAt_w, ↓popD_int, ↓dPop_w, ↓mutD_w, ↓sSetItem_w, ↓setD_int, ↓dSortSet, ↓dTable_w, ↓wipeE, finals1, finals2, finals3, finals4, finals5, finals6, fin1_ext, fin1_lst, List.getElem?_cons_zero, List.getElem?_cons_succ, List.getElem?_nil, List.set_cons_zero, List.set_cons_succ, List.cons_append, List.nil_append, List.append_nil, List.replicate_succ, List.replicate_zero, List.map_cons, List.map_nil, List.length_cons, List.length_nil, true_and, and_true, ite_true, ite_false, if_true, if_false, Bool.false_eq_true, decide_eq_true_eq, Sl.plain, D.isSq, eq_self_iff_true, forall_const, reduceIte, true_or, or_true, atI_0, atI_1, atI_2, atI_3, ixN_0, ixN_1, ixN_2, AtS_ext, AtS_lst, FzS_lst, FzS_ext, GetS_some, NatS_some, ↓fIsi1, ↓fIsi2, BoolS_some, HD.kb_non_tuple, HD.kb_non_list, HD.kb_non_bool, HD.kb_non_int, HD.kb_non_str, HD.kb_bl_tuple, HD.kb_bl_list, HD.kb_bl_bool, HD.kb_bl_int, HD.kb_bl_str, HD.kb_int_tuple, HD.kb_int_list, HD.kb_int_bool, HD.kb_int_int, HD.kb_int_str, HD.kb_str_tuple, HD.kb_str_list, HD.kb_str_bool, HD.kb_str_int, HD.kb_str_str, HD.kb_lst_tuple, HD.kb_lst_list, HD.kb_lst_bool, HD.kb_lst_int, HD.kb_lst_str, HD.kb_tup_tuple, HD.kb_tup_list, HD.kb_tup_bool, HD.kb_tup_int, HD.kb_tup_str, ↓sFz_w, ↓FzS_lst, ↓FzS_ext, ↓dSortSetL, ↓fAbs, ↓fInt, ↓fRepr, ↓fLtT, ↓sRaise, ↓sTryKeep, ↓dCallV_w, ↓dMeth, ↓fCount, ↓fSplit, ↓seq_setE, ↓seq_set, ↓seq_drop, ↓seq_asg, ↓seq_if, ↓seq_for, ↓dStep, ↓fStep, ↓fMulT, ↓fIsB, ↓fNotB, ↓sPar, ↓dEnum, ↓dListZip, ↓dNest, ↓sSeal, ↓dNApp, ↓retD_reg, ↓dLenSet, ↓fSum2, ↓seq_putD, ↓seq_sealD, ↓dDIn, ↓dDGet, ↓sPutD, ↓dDNew, ↓dDOne, ↓sSealD, ↓dKeys, ↓keyS_dk, ↓dExtT, ↓fSortT, ↓fMinP, ↓dRemove])
theorem pl_tup {k : Nat} {ds : List D} (h : D.pl k (.tup ds) = true) : ∃ j, k = j + 1 ∧ ds.length ≤ 100000 ∧ ∀ d ∈ ds, D.pl j d = true := by
  cases k with
  | zero => simp [D.pl] at h
  | succ k =>
    rw [D.pl, Bool.and_eq_true, List.all_eq_true, decide_eq_true_eq] at h
    exact ⟨k, rfl, h.1, h.2⟩
def TieD (n : Int) (d : D) : Prop := ∃ t : Nat × Nat, d = tieD t ∧ t.1 < t.2 ∧ (t.2 : Int) < n
def sp_is_tie : DSpec := fun args Q _ => ∃ (n : Int) (d : D) (k : Nat), args = [dI n, .ext d] ∧ D.pl k d = true ∧ ∀ (b : Bool) fin, (b = true ↔ TieD n d) → Q (.ext (.bl b)) fin
def k1_is_tie : DTS :=
    (sRet (dChain3 (fCmp fun i j => decide (i ≤ j)) (fCmp fun i j => decide (i < j)) (fCmp fun i j => decide (i < j)) (dC (.int 0)) (dOp fIx (dVar 1) (dC (.int 0))) (dOp fIx (dVar 1) (dC (.int 1))) (dVar 0)))
def t_is_tie : DTS :=
    (sSeq (sIf (dOr (dNot (dTest (dCB fIsi (dCons (dVar 1) (dCons (dC (.val (.ty "tuple"))) dNil))))) (dOr (dTest (dOp fNe (dCB fLen (dCons (dVar 1) dNil)) (dC (.int 2)))) (dOr (dNot (dTest (dCall sp_is_whole (dCons (dOp fIx (dVar 1) (dC (.int 0))) dNil)))) (dNot (dTest (dCall sp_is_whole (dCons (dOp fIx (dVar 1) (dC (.int 1))) dNil))))))) (sRet (dC (.bl false))) sNext)
    k1_is_tie)
theorem m_is_tie : Meets t_is_tie 2 0 sp_is_tie := by
  rintro args Qd Xd ⟨n, d, k, rfl, hp, hQ⟩
  have nv := pl_noVal k d hp
  show t_is_tie _ _ [_, _]
  unfold t_is_tie
  have no : ∀ {d : D}, (∀ t : Nat × Nat, d ≠ tieD t) → (false = true ↔ TieD n d) := fun h => ⟨fun z => (nomatch z), fun ⟨t, e, _⟩ => absurd e (h t)⟩
  cases d with
  | val _ => cases k <;> simp [D.pl] at hp
  | fz _ => cases k <;> simp [D.pl] at hp
  | tk _ => cases k <;> simp [D.pl] at hp
  | exc _ => cases k <;> simp [D.pl] at hp
  | glo _ => cases k <;> simp [D.pl] at hp
  | dk _ _ => cases k <;> simp [D.pl] at hp
  | dt _ _ => cases k <;> simp [D.pl] at hp
  | tup ds =>
    obtain ⟨j, rfl, hl, hds⟩ := pl_tup hp
    trivial
    refine ⟨nv, rfl, ?_⟩
    rw [if_neg (by decide)]
    by_cases h2 : ds.length = 2
    · obtain ⟨x, y, rfl⟩ : ∃ x y, ds = [x, y] := by
        match ds, h2 with
        | [x, y], _ => exact ⟨x, y, rfl⟩
      rw [if_neg (by simp)]
      trivial
      refine ⟨x, j, rfl, hds x (by simp), fun fin => ?_⟩
      trivial
      cases x with
      | int i =>
        rw [if_neg (by simp [D.isInt])]
        trivial
        refine ⟨y, j, rfl, hds y (by simp), fun fin => ?_⟩
        trivial
        cases y with
        | int i2 =>
          rw [if_neg (by simp [D.isInt])]
          unfold k1_is_tie dChain3
          trivial
          have hQ' := fun b => hQ b [Sl.ext (D.int n), Sl.ext (D.tup [D.int i, D.int i2])]
          have key : TieD n (.tup [.int i, .int i2]) ↔ (0 ≤ i ∧ i < i2 ∧ i2 < n) := by
            constructor
            · rintro ⟨t, e, h1, h2⟩
              unfold tieD at e
              have e := D.tup.inj e
              have e1 : i = (t.1 : Int) := D.int.inj (List.cons.inj e).1
              have e2 : i2 = (t.2 : Int) := D.int.inj (List.cons.inj (List.cons.inj e).2).1
              omega
            · rintro ⟨h1, h2, h3⟩
              refine ⟨(i.toNat, i2.toNat), ?_, by show i.toNat < i2.toNat; omega, by show ((i2.toNat : Nat) : Int) < n; omega⟩
              show _ = D.tup [.int ((i.toNat : Nat) : Int), .int ((i2.toNat : Nat) : Int)]
              rw [show ((i.toNat : Nat) : Int) = i by omega, show ((i2.toNat : Nat) : Int) = i2 by omega]
          by_cases c1 : 0 ≤ i
          · rw [if_pos (by simpa using c1)]
            by_cases c2 : i < i2
            · rw [if_pos (by simpa using c2)]
              exact hQ' _ (by rw [decide_eq_true_eq, key]; exact ⟨fun z => ⟨c1, c2, z⟩, fun z => z.2.2⟩)
            · rw [if_neg (by simpa using c2)]
              exact hQ' _ ⟨fun z => (nomatch z), fun z => absurd (key.1 z).2.1 c2⟩
          · rw [if_neg (by simpa using c1)]
            exact hQ' _ ⟨fun z => (nomatch z), fun z => absurd (key.1 z).1 c1⟩
        | _ =>
          rw [if_pos (by simp [D.isInt])]
          exact hQ _ _ (no fun t z => by unfold tieD at z; exact nomatch (List.cons.inj (List.cons.inj (D.tup.inj z)).2).1)
      | _ =>
        rw [if_pos (by simp [D.isInt])]
        exact hQ _ _ (no fun t z => by unfold tieD at z; exact nomatch (List.cons.inj (D.tup.inj z)).1)
    · rw [if_pos (by simp; omega)]
      exact hQ _ _ (no fun t z => by unfold tieD at z; exact h2 (by rw [D.tup.inj z]; rfl))
  | _ =>
    trivial
    simp only [nv, D.isFz, true_and, Bool.not_true, Bool.not_false, if_true]
    exact hQ _ _ (no fun t z => by unfold tieD at z; cases z)
open Classical in
theorem all_of {α : Type} (f : α → D) {P : D → Prop} {R : α → Prop} (h : ∀ d, P d → ∃ a, d = f a ∧ R a) : ∀ ds : List D, (∀ d ∈ ds, P d) → ∃ l : List α, ds = l.map f ∧ ∀ a ∈ l, R a
  | [], _ => ⟨[], rfl, fun a z => nomatch z⟩
  | d :: ds, hd => by
    obtain ⟨a, e, ra⟩ := h d (hd d List.mem_cons_self)
    obtain ⟨l, e2, rl⟩ := all_of f h ds fun x hx => hd x (List.mem_cons_of_mem _ hx)
    exact ⟨a :: l, by rw [e, e2]; rfl, fun x hx => (List.mem_cons.1 hx).elim (fun z => z ▸ ra) (rl x)⟩
def BagsD (n : Nat) (d : D) : Prop := ∃ Bs : List (List Nat), d = .tup (fD Bs) ∧ 1 ≤ Bs.length ∧ Bs.length ≤ 12 ∧ ∀ B ∈ Bs, Rising B ∧ ∀ m ∈ B, m < n
def sp_are_bags : DSpec := fun args Q _ => ∃ (n : Nat) (d : D) (k : Nat), args = [dI (n : Nat), .ext d] ∧ D.pl k d = true ∧ ∀ (b : Bool) fin, (b = true ↔ BagsD n d) → Q (.ext (.bl b)) fin
def e1_are_bags : DT :=
    (dCall sp_are_names (dCons (dVar 0) (dCons (dVar 2) dNil)))
def k2_are_bags : DTS :=
    (sRet (dCB fAll (dCons (dLc (dSeq (dVar 1)) (gSet 2) dYes e1_are_bags [2]) dNil)))
def t_are_bags : DTS :=
    (sSeq (sIf (dOr (dNot (dTest (dCB fIsi (dCons (dVar 1) (dCons (dC (.val (.ty "tuple"))) dNil))))) (dNot (dTest (dChain (fCmp fun i j => decide (i ≤ j)) (fCmp fun i j => decide (i ≤ j)) (dC (.int 1)) (dCB fLen (dCons (dVar 1) dNil)) (dC (.int 12)))))) (sRet (dC (.bl false))) sNext)
    k2_are_bags)
open Classical in
theorem m_are_bags : Meets t_are_bags 2 1 sp_are_bags := by
  rintro args Qd Xd ⟨n, d, k, rfl, hp, hQ⟩
  have nv := pl_noVal k d hp
  show t_are_bags _ _ [_, _, .un]
  unfold t_are_bags
  have no : ∀ {d : D}, (∀ Bs : List (List Nat), 1 ≤ Bs.length → Bs.length ≤ 12 → d ≠ .tup (fD Bs)) → (false = true ↔ BagsD n d) := fun h => ⟨fun z => (nomatch z), fun ⟨Bs, e, h1, h2, _⟩ => absurd e (h Bs h1 h2)⟩
  cases d with
  | val _ => cases k <;> simp [D.pl] at hp
  | fz _ => cases k <;> simp [D.pl] at hp
  | tk _ => cases k <;> simp [D.pl] at hp
  | exc _ => cases k <;> simp [D.pl] at hp
  | glo _ => cases k <;> simp [D.pl] at hp
  | dk _ _ => cases k <;> simp [D.pl] at hp
  | dt _ _ => cases k <;> simp [D.pl] at hp
  | tup ds =>
    obtain ⟨j, rfl, hl, hds⟩ := pl_tup hp
    trivial
    refine ⟨nv, rfl, ?_⟩
    rw [if_neg (by decide)]
    by_cases c1 : 1 ≤ ds.length
    · rw [if_pos (by omega)]
      by_cases c2 : ds.length ≤ 12
      · rw [if_neg (by simp; omega)]
        unfold k2_are_bags
        trivial
        rw [show ds = ds.map (fun e : D => e) from (List.map_id' ds).symm]
        refine lc_map (fun e : D => e) (fun e : D => .bl (decide (NamesD (n : Int) e))) True.intro ds (Nat.le_trans c2 (by decide)) (fun e he R hR => ?_) fun b => ?_
        · unfold e1_are_bags
          trivial
          refine ⟨_, e, j, rfl, hds e he, fun b fin hb => ?_⟩
          trivial
          rw [show b = decide (NamesD (n : Int) e) by rw [Bool.eq_iff_iff, decide_eq_true_eq]; exact hb]
          exact hR
        trivial
        refine ⟨ds.map fun e => decide (NamesD (n : Int) e), by rw [List.map_map]; rfl, ?_⟩
        refine hQ _ _ ?_
        rw [List.all_map, List.all_eq_true]
        constructor
        · intro h
          obtain ⟨Bs, e, hb⟩ := all_of (fun B : List Nat => D.tup (nD B)) (P := NamesD (n : Int)) (R := fun B => Rising B ∧ ∀ m ∈ B, m < n) (fun d ⟨ns, e, h1, h2⟩ => ⟨ns, e, h1, fun m hm => by have := h2 m hm; omega⟩) ds fun e he => of_decide_eq_true (h e he)
          refine ⟨Bs, congrArg D.tup e, ?_, ?_, hb⟩
          · have := congrArg List.length e
            rw [List.length_map] at this
            omega
          · have := congrArg List.length e
            rw [List.length_map] at this
            omega
        · rintro ⟨Bs, e, h1, h2, hb⟩ x hx
          rw [D.tup.inj e] at hx
          obtain ⟨B, hB, rfl⟩ := List.mem_map.1 hx
          exact decide_eq_true ⟨B, rfl, (hb B hB).1, fun m hm => by have := (hb B hB).2 m hm; omega⟩
      · rw [if_pos (by simp; omega)]
        refine hQ _ _ (no fun Bs h1 h2 z => ?_)
        have z := congrArg List.length (D.tup.inj z)
        unfold fD at z
        rw [List.length_map] at z
        omega
    · rw [if_neg (by omega)]
      trivial
      refine hQ _ _ (no fun Bs h1 h2 z => ?_)
      have z := congrArg List.length (D.tup.inj z)
      unfold fD at z
      rw [List.length_map] at z
      omega
  | _ =>
    trivial
    simp only [nv, D.isFz, true_and, Bool.not_true, Bool.not_false, if_true]
    exact hQ _ _ (no fun Bs _ _ z => by cases z)
theorem lex_code {a b : Nat × Nat} (ha : a.2 < 100) (hb : b.2 < 100) : HT.lexLt [(a.1 : Int), (a.2 : Int)] [(b.1 : Int), (b.2 : Int)] = decide (a.1 * 100 + a.2 < b.1 * 100 + b.2) := by
  rw [Bool.eq_iff_iff, decide_eq_true_eq]
  simp only [HT.lexLt]
  by_cases h1 : (a.1 : Int) = b.1
  · have h1' : a.1 = b.1 := by omega
    simp [h1, h1']
    omega
  · simp [h1]
    omega
theorem up_iff {ts : List (Nat × Nat)} (h : ∀ t ∈ ts, t.2 < 100) : ts.Pairwise (fun a b => a.1 < b.1 ∨ (a.1 = b.1 ∧ a.2 < b.2)) ↔ ∀ k (hk : k + 1 < ts.length), HT.lexLt [((ts[k]'(by omega)).1 : Int), ((ts[k]'(by omega)).2 : Int)] [(ts[k + 1].1 : Int), (ts[k + 1].2 : Int)] = true := by
  have e1 : ts.Pairwise (fun a b => a.1 < b.1 ∨ (a.1 = b.1 ∧ a.2 < b.2)) ↔ Rising (ts.map fun t => t.1 * 100 + t.2) := by
    unfold Rising
    rw [List.pairwise_map]
    constructor
    · intro hp
      refine List.Pairwise.imp_of_mem (fun {a b} ha hb hab => ?_) hp
      have := h a ha
      have := h b hb
      omega
    · intro hp
      refine List.Pairwise.imp_of_mem (fun {a b} ha hb hab => ?_) hp
      have := h a ha
      have := h b hb
      omega
  rw [e1, rising_adj]
  have hg : ∀ k (hk : k < ts.length), (ts.map fun t => t.1 * 100 + t.2).getD k 0 = ts[k].1 * 100 + ts[k].2 := fun k hk => by
    rw [List.getD_eq_getElem?_getD, List.getElem?_map, List.getElem?_eq_getElem hk]
    rfl
  constructor
  · intro hr k hk
    have := hr k (by rw [List.length_map]; exact hk)
    rw [hg k (by omega), hg (k + 1) hk] at this
    rw [lex_code (h _ (List.getElem_mem _)) (h _ (List.getElem_mem _))]
    exact decide_eq_true this
  · intro hr k hk
    rw [List.length_map] at hk
    have := hr k hk
    rw [lex_code (h _ (List.getElem_mem _)) (h _ (List.getElem_mem _))] at this
    rw [hg k (by omega), hg (k + 1) hk]
    exact of_decide_eq_true this
def Lt2 (ts : List (Nat × Nat)) (k : Nat) : Prop := ∃ hk : k + 1 < ts.length, HT.lexLt [((ts[k]'(by omega)).1 : Int), ((ts[k]'(by omega)).2 : Int)] [(ts[k + 1].1 : Int), (ts[k + 1].2 : Int)] = true
theorem tie_inj {a b : List (Nat × Nat)} (h : a.map tieD = b.map tieD) : a = b := by
  refine (List.map_inj_right fun x y e => ?_).1 h
  unfold tieD at e
  have e := D.tup.inj e
  have e1 : (x.1 : Int) = y.1 := D.int.inj (List.cons.inj e).1
  have e2 : (x.2 : Int) = y.2 := D.int.inj (List.cons.inj (List.cons.inj e).2).1
  exact Prod.ext (by omega) (by omega)
def TreeD (m : Nat) (d : D) : Prop := ∃ ts : List (Nat × Nat), d = .tup (ts.map tieD) ∧ TreeOk m ts
def sp_is_tree : DSpec := fun args Q _ => ∃ (n : Int) (Bs : List (List Nat)) (d : D) (k : Nat), args = [dI n, .ext (.tup (fD Bs)), .ext d] ∧ 1 ≤ Bs.length ∧ Bs.length ≤ 12 ∧ D.pl k d = true ∧ ∀ (b : Bool) fin, (b = true ↔ TreeD Bs.length d) → Q (.ext (.bl b)) fin
def e1_is_tree : DT :=
    (dCall sp_is_tie (dCons (dCB fLen (dCons (dVar 1) dNil)) (dCons (dVar 3) dNil)))
def e2_is_tree : DT :=
    (dOp fGeT (dOp fIx (dVar 2) (dOp fSub (dVar 4) (dC (.int 1)))) (dOp fIx (dVar 2) (dVar 4)))
def k3_is_tree : DTS :=
    (sRet (dCall sp_hanging (dCons (dVar 2) (dCons (dLstRg (dRg1 (dCB fLen (dCons (dVar 1) dNil)))) dNil))))
def k4_is_tree : DTS :=
    (sSeq (sIf (dOr (dTest (dOp fNe (dCB fLen (dCons (dVar 2) dNil)) (dOp fSub (dCB fLen (dCons (dVar 1) dNil)) (dC (.int 1))))) (dTest (dCB fAny (dCons (dLc (dRange2 (dCons (dC (.int 1)) (dCons (dCB fLen (dCons (dVar 2) dNil)) dNil))) (gSet 4) dYes e2_is_tree [4]) dNil)))) (sRet (dC (.bl false))) sNext)
    k3_is_tree)
def t_is_tree : DTS :=
    (sSeq (sIf (dOr (dNot (dTest (dCB fIsi (dCons (dVar 2) (dCons (dC (.val (.ty "tuple"))) dNil))))) (dNot (dTest (dCB fAll (dCons (dLc (dSeq (dVar 2)) (gSet 3) dYes e1_is_tree [3]) dNil))))) (sRet (dC (.bl false))) sNext)
    k4_is_tree)
open Classical in
theorem m_is_tree : Meets t_is_tree 3 2 sp_is_tree := by
  rintro args Qd Xd ⟨n, Bs, d, k, rfl, h1, h12, hp, hQ⟩
  have nv := pl_noVal k d hp
  have hfl : (fD Bs).length = Bs.length := by unfold fD; rw [List.length_map]
  show t_is_tree _ _ [_, _, _, .un, .un]
  unfold t_is_tree
  have no : ∀ {d : D}, (∀ ts : List (Nat × Nat), TreeOk Bs.length ts → d ≠ .tup (ts.map tieD)) → (false = true ↔ TreeD Bs.length d) := fun h => ⟨fun z => (nomatch z), fun ⟨ts, e, h1⟩ => absurd e (h ts h1)⟩
  cases d with
  | val _ => cases k <;> simp [D.pl] at hp
  | fz _ => cases k <;> simp [D.pl] at hp
  | tk _ => cases k <;> simp [D.pl] at hp
  | exc _ => cases k <;> simp [D.pl] at hp
  | glo _ => cases k <;> simp [D.pl] at hp
  | dk _ _ => cases k <;> simp [D.pl] at hp
  | dt _ _ => cases k <;> simp [D.pl] at hp
  | tup ds =>
    obtain ⟨j, rfl, hl, hds⟩ := pl_tup hp
    trivial
    refine ⟨nv, rfl, ?_⟩
    rw [if_neg (by decide)]
    rw [show ds = ds.map (fun e : D => e) from (List.map_id' ds).symm]
    refine lc_map (fun e : D => e) (fun e : D => .bl (decide (TieD (Bs.length : Nat) e))) True.intro ds (Nat.le_trans hl (by decide)) (fun e he R hR => ?_) fun b => ?_
    · unfold e1_is_tree
      trivial
      rw [hfl]
      refine ⟨_, e, j, rfl, hds e he, fun b fin hb => ?_⟩
      trivial
      rw [show b = decide (TieD (Bs.length : Nat) e) by rw [Bool.eq_iff_iff, decide_eq_true_eq]; exact hb]
      exact hR
    trivial
    refine ⟨ds.map fun e => decide (TieD (Bs.length : Nat) e), by rw [List.map_map]; rfl, ?_⟩
    rw [List.map_id']
    by_cases hall : ∀ e ∈ ds, TieD (Bs.length : Nat) e
    · rw [if_neg (by
        rw [show (ds.map fun e => decide (TieD (Bs.length : Nat) e)).all id = true by rw [List.all_map, List.all_eq_true]; exact fun e he => decide_eq_true (hall e he)]
        decide)]
      obtain ⟨ts, rfl, hts⟩ := all_of tieD (P := TieD (Bs.length : Nat)) (R := fun t : Nat × Nat => t.1 < t.2 ∧ t.2 < Bs.length) (fun d ⟨t, e, h1, h2⟩ => ⟨t, e, h1, by omega⟩) ds hall
      unfold k4_is_tree
      trivial
      rw [hfl, List.length_map]
      have inj : ∀ {ts' : List (Nat × Nat)}, D.tup (ts.map tieD) = .tup (ts'.map tieD) → ts = ts' := fun z => tie_inj (D.tup.inj z)
      by_cases c : ts.length + 1 = Bs.length
      · rw [if_neg (by simp; omega)]
        have hnl : (((ts.length : Nat) : Int) - 1).toNat = ts.length - 1 := by omega
        unfold rgD
        rw [hnl]
        refine ⟨⟨by decide, by decide⟩, ⟨by omega, by omega⟩, ?_⟩
        have h100 : ∀ t ∈ ts, t.2 < 100 := fun t ht => by have := hts t ht; omega
        have hup := up_iff h100
        refine lc_map (fun i : Nat => D.int (1 + (i : Nat))) (fun i => .bl (!decide (Lt2 ts i))) True.intro (List.range (ts.length - 1)) (by rw [List.length_range]; exact Nat.le_trans (by omega : _ ≤ 100) (by decide)) (fun i hi R hR => ?_) fun b => ?_
        · have hi := List.mem_range.1 hi
          unfold e2_is_tree
          trivial
          have e1 : (ts.map tieD)[(1 + (i : Int) - 1).toNat]? = some (tieD (ts[i]'(by omega))) := by
            rw [show (1 + (i : Int) - 1).toNat = i by omega, List.getElem?_map, List.getElem?_eq_getElem (by omega)]; rfl
          have e2 : (ts.map tieD)[(1 + (i : Int)).toNat]? = some (tieD (ts[i + 1]'(by omega))) := by
            rw [show (1 + (i : Int)).toNat = i + 1 by omega, List.getElem?_map, List.getElem?_eq_getElem (by omega)]; rfl
          refine ⟨_, atI_int (by omega) e1, ?_⟩
          trivial
          refine ⟨_, atI_int (by omega) e2, ?_⟩
          trivial
          refine ⟨cI [ts[i].1, ts[i].2], cI [ts[i + 1].1, ts[i + 1].2], rfl, rfl, ?_⟩
          trivial
          have el : HT.lexLt [(ts[i].1 : Int), (ts[i].2 : Int)] [(ts[i + 1].1 : Int), (ts[i + 1].2 : Int)] = decide (Lt2 ts i) := by
            rw [Bool.eq_iff_iff, decide_eq_true_eq]
            exact ⟨fun z => ⟨by omega, z⟩, fun z => z.2⟩
          rw [el]
          exact hR
        trivial
        refine ⟨(List.range (ts.length - 1)).map fun i => !decide (Lt2 ts i), by rw [List.map_map]; rfl, ?_⟩
        by_cases hpw : ts.Pairwise fun a b => a.1 < b.1 ∨ (a.1 = b.1 ∧ a.2 < b.2)
        · rw [if_neg (by
            rw [Bool.not_eq_true, List.any_map, List.any_eq_false]
            intro i hi
            have hi := List.mem_range.1 hi
            have : Lt2 ts i := ⟨by omega, hup.1 hpw i (by omega)⟩
            simp [this])]
          unfold k3_is_tree
          trivial
          rw [hfl]
          refine ⟨RgOk.of_le (by omega) (by omega) (by omega) (by omega), fun a3 => ?_⟩
          trivial
          rw [rgD_nat]
          have hnd : ts.Nodup := hpw.imp fun h e => by rw [e] at h; omega
          refine ⟨ts, List.range Bs.length, rfl, by omega, by rw [List.length_range]; omega, hnd, fun t ht => (hts t ht).1, List.nodup_range, fun b fin hb => ?_⟩
          trivial
          refine hQ _ _ (hb.trans ⟨fun hh => ⟨ts, rfl, c, by omega, hts, hpw, hh⟩, fun ⟨ts', e, h⟩ => by rw [inj e]; exact h.hang⟩)
        · rw [if_pos (by
            rw [List.any_map, List.any_eq_true]
            refine Classical.not_not.1 fun z => hpw (hup.2 fun k hk => ?_)
            refine Classical.not_not.1 fun z2 => z ⟨k, List.mem_range.2 (by omega), ?_⟩
            have : ¬ Lt2 ts k := fun ⟨_, y⟩ => z2 y
            simp [this])]
          exact hQ _ _ (no fun ts' ht z => by rw [← inj z] at ht; exact hpw ht.up)
      · rw [if_pos (by simp; omega)]
        refine hQ _ _ (no fun ts' ht z => c ?_)
        rw [← inj z] at ht
        exact ht.len
    · rw [if_pos (by
        rw [show (ds.map fun e => decide (TieD (Bs.length : Nat) e)).all id = false by
          rw [Bool.eq_false_iff]
          intro z
          rw [List.all_map, List.all_eq_true] at z
          exact hall fun e he => of_decide_eq_true (z e he)]
        decide)]
      refine hQ _ _ (no fun ts ht z => hall fun e he => ?_)
      rw [D.tup.inj z] at he
      obtain ⟨t, htm, rfl⟩ := List.mem_map.1 he
      have := ht.lt t htm
      exact ⟨t, rfl, this.1, by omega⟩
  | _ =>
    trivial
    simp only [nv, D.isFz, true_and, Bool.not_true, Bool.not_false, if_true]
    exact hQ _ _ (no fun ts _ z => by cases z)
def BtD (S : List Nat) (ps : List Part) (d : D) : Prop := ∃ Bs ts, d = dTree Bs ts ∧ BTree S.length (gsOf ps) Bs ts
def sp_is_bag_tree : DSpec := fun args Q _ => ∃ (S : List Nat) (ps : List Part) (d : D) (k : Nat), args = [.ext (dSh S ps), .ext d] ∧ NsOk S ps ∧ D.pl k d = true ∧ ∀ (b : Bool) fin, (b = true ↔ BtD S ps d) → Q (.ext (.bl b)) fin
def e1_is_bag_tree : DT :=
    (dOp (fIn false) (dVar 7) (dVar 6))
def e2_is_bag_tree : DT :=
    (dCB fAll (dCons (dLc (dSeq (dOp fIx (dVar 5) (dC (.int 0)))) (gSet 7) dYes e1_is_bag_tree [7]) dNil))
def b3_is_bag_tree : DTS :=
    (sIf (dNot (dTest (dCB fAny (dCons (dLc (dSeq (dVar 3)) (gSet 6) dYes e2_is_bag_tree [6]) dNil)))) (sRet (dC (.bl false))) sNext)
def e4_is_bag_tree : DT :=
    (dVar 9)
def b5_is_bag_tree : DTS :=
    (sSeq (sSetE 8 (dLc (dRange1 (dCons (dCB fLen (dCons (dVar 3) dNil)) dNil)) (gSet 9) (dTest (dOp (fIn false) (dVar 7) (dOp fIx (dVar 3) (dVar 9)))) e4_is_bag_tree [9]))
    (sIf (dOr (dTest (dOp fEq (dVar 8) (dLst dNil))) (dNot (dTest (dCall sp_hanging (dCons (dVar 4) (dCons (dVar 8) dNil)))))) (sRet (dC (.bl false))) sNext))
def k6_is_bag_tree : DTS :=
    (sRet (dC (.bl true)))
def k7_is_bag_tree : DTS :=
    (sSeq (sFor (dRange1 (dCons (dVar 2) dNil)) (gSet 7) b5_is_bag_tree)
    k6_is_bag_tree)
def k8_is_bag_tree : DTS :=
    (sSeq (sAsg (dVar 1) (gTupD 2 (gsCons (gSet 3) (gsCons (gSet 4) gsNil))))
    (sSeq (sIf (dNot (dTest (dCall sp_is_tree (dCons (dVar 2) (dCons (dVar 3) (dCons (dVar 4) dNil)))))) (sRet (dC (.bl false))) sNext)
    (sSeq (sFor (dSeq (dOp fIx (dVar 0) (dC (.int 1)))) (gSet 5) b3_is_bag_tree)
    k7_is_bag_tree)))
def t_is_bag_tree : DTS :=
    (sSeq (sSetE 2 (dCB fLen (dCons (dOp fIx (dVar 0) (dC (.int 0))) dNil)))
    (sSeq (sIf (dOr (dNot (dTest (dCB fIsi (dCons (dVar 1) (dCons (dC (.val (.ty "tuple"))) dNil))))) (dOr (dTest (dOp fNe (dCB fLen (dCons (dVar 1) dNil)) (dC (.int 2)))) (dNot (dTest (dCall sp_are_bags (dCons (dVar 2) (dCons (dOp fIx (dVar 1) (dC (.int 0))) dNil))))))) (sRet (dC (.bl false))) sNext)
    k8_is_bag_tree))
theorem fD_inj {a b : List (List Nat)} (h : fD a = fD b) : a = b := by
  unfold fD at h
  exact (List.map_inj_right fun x y e => nD_inj (D.tup.inj e)).1 h
theorem tree_inj {Bs Bs' : List (List Nat)} {ts ts' : List (Nat × Nat)} (h : dTree Bs ts = dTree Bs' ts') : Bs = Bs' ∧ ts = ts' := by
  unfold dTree at h
  have h := D.tup.inj h
  have h1 := D.tup.inj (List.cons.inj h).1
  have h2 := D.tup.inj (List.cons.inj (List.cons.inj h).2).1
  exact ⟨fD_inj h1, tie_inj h2⟩
theorem m_is_bag_tree : Meets t_is_bag_tree 2 8 sp_is_bag_tree := by
  rintro args Qd Xd ⟨S, ps, d, k, rfl, ok, hp, hQ⟩
  have h24 := ok.few
  have nv := pl_noVal k d hp
  show t_is_bag_tree _ _ [_, _, .un, .un, .un, .un, .un, .un, .un, .un]
  unfold t_is_bag_tree
  have no : ∀ {d : D}, (∀ Bs ts, BTree S.length (gsOf ps) Bs ts → d ≠ dTree Bs ts) → (false = true ↔ BtD S ps d) := fun h => ⟨fun z => (nomatch z), fun ⟨Bs, ts, e, h1⟩ => absurd e (h Bs ts h1)⟩
  cases d with
  | val _ => cases k <;> simp [D.pl] at hp
  | fz _ => cases k <;> simp [D.pl] at hp
  | tk _ => cases k <;> simp [D.pl] at hp
  | exc _ => cases k <;> simp [D.pl] at hp
  | glo _ => cases k <;> simp [D.pl] at hp
  | dk _ _ => cases k <;> simp [D.pl] at hp
  | dt _ _ => cases k <;> simp [D.pl] at hp
  | tup ds =>
    obtain ⟨j, rfl, hl, hds⟩ := pl_tup hp
    trivial
    refine ⟨nv, rfl, ?_⟩
    rw [if_neg (by decide)]
    by_cases h2 : ds.length = 2
    · obtain ⟨x, y, rfl⟩ : ∃ x y, ds = [x, y] := by
        match ds, h2 with
        | [x, y], _ => exact ⟨x, y, rfl⟩
      rw [if_neg (by simp)]
      trivial
      rw [nD_len]
      refine ⟨S.length, x, j, rfl, hds x (by simp), fun b fin hb => ?_⟩
      trivial
      cases b with
      | false =>
        rw [if_pos (by decide)]
        refine hQ _ _ (no fun Bs ts bt z => ?_)
        have e : x = .tup (fD Bs) := (List.cons.inj (D.tup.inj z)).1
        exact absurd (hb.2 ⟨Bs, e, by have := bt.tree.len; omega, bt.few, fun B hB => ⟨(bt.bag B hB).1, (bt.bag B hB).2.2⟩⟩) (by decide)
      | true =>
        rw [if_neg (by decide)]
        obtain ⟨Bs, rfl, hb1, hb12, hbs⟩ := hb.1 rfl
        have hfl : (fD Bs).length = Bs.length := by unfold fD; rw [List.length_map]
        unfold k8_is_bag_tree
        trivial
        refine ⟨_, Bs, y, j, rfl, hb1, hb12, hds y (by simp), fun b fin hb2 => ?_⟩
        trivial
        cases b with
        | false =>
          rw [if_pos (by decide)]
          refine hQ _ _ (no fun Bs' ts bt z => ?_)
          have z := D.tup.inj z
          have e : Bs = Bs' := fD_inj (D.tup.inj (List.cons.inj z).1)
          have e2 : y = .tup (ts.map tieD) := (List.cons.inj (List.cons.inj z).2).1
          exact absurd (hb2.2 ⟨ts, e2, by rw [e]; exact bt.tree⟩) (by decide)
        | true =>
          rw [if_neg (by decide)]
          obtain ⟨ts, rfl, tk⟩ := hb2.1 rfl
          have htl := tk.len
          have nob : (¬ BTree S.length (gsOf ps) Bs ts) → (false = true ↔ BtD S ps (.tup [.tup (fD Bs), .tup (ts.map tieD)])) := fun h => no fun Bs' ts' bt z => by
            obtain ⟨e1, e2⟩ := tree_inj (Bs := Bs) (ts := ts) z
            rw [← e1, ← e2] at bt
            exact h bt
          refine for_ind dP (fun qs env => ∃ (u5 : Sl) (pre : List Part), env = [.ext (dSh S ps), .ext (D.tup [D.tup (fD Bs), D.tup (ts.map tieD)]), .ext (.int (S.length : Nat)), .ext (.tup (fD Bs)), .ext (.tup (ts.map tieD)), u5, .un, .un, .un, .un] ∧ ps = pre ++ qs ∧ ∀ q ∈ pre, ∃ B ∈ Bs, ∀ m ∈ q.ns, m ∈ B) ?_ ?_ ps _ ⟨_, [], rfl, rfl, fun q hq => nomatch hq⟩
          · rintro env ⟨u5, pre, rfl, he, hpre⟩
            rw [List.append_nil] at he
            subst he
            refine ⟨True.intro, ?_⟩
            unfold k7_is_bag_tree
            trivial
            refine ⟨⟨by omega, by omega⟩, ?_⟩
            rw [rgD_nat]
            refine for_ind (fun i : Nat => D.int (i : Nat)) (fun xs env => ∃ (u7 u8 : Sl) (pr : List Nat), env = [.ext (dSh S ps), .ext (D.tup [D.tup (fD Bs), D.tup (ts.map tieD)]), .ext (.int (S.length : Nat)), .ext (.tup (fD Bs)), .ext (.tup (ts.map tieD)), u5, .un, u7, u8, .un] ∧ List.range S.length = pr ++ xs ∧ ∀ x ∈ pr, (∃ i ∈ List.range Bs.length, x ∈ Bs.getD i []) ∧ HangN ts ((List.range Bs.length).filter fun i => decide (x ∈ Bs.getD i []))) ?_ ?_ (List.range S.length) _ ⟨_, _, [], rfl, rfl, fun q hq => nomatch hq⟩
            · rintro env ⟨u7, u8, pr, rfl, he, hpr⟩
              rw [List.append_nil] at he
              refine ⟨True.intro, ?_⟩
              unfold k6_is_bag_tree
              trivial
              refine hQ _ _ ⟨fun _ => ⟨Bs, ts, rfl, ⟨hb12, fun B hB => ⟨(hbs B hB).1, ?_, (hbs B hB).2⟩, tk, fun ns hns => ?_, fun x hx => hpr x (by rw [← he]; exact List.mem_range.2 hx)⟩⟩, fun _ => rfl⟩
              · have := rising_len (hbs B hB).1 (hbs B hB).2
                omega
              · obtain ⟨q, hq, rfl⟩ := List.mem_map.1 hns
                exact hpre q hq
            · rintro x xs env N ⟨u7, u8, pr, rfl, he, hpr⟩ hN
              have hx : x < S.length := List.mem_range.1 (by rw [he]; simp)
              refine ⟨True.intro, ?_⟩
              unfold b5_is_bag_tree
              trivial
              rw [hfl, rgD_nat]
              refine ⟨⟨by omega, by omega⟩, ?_⟩
              refine lc_filter (fun i : Nat => D.int (i : Nat)) (fun i : Nat => D.int (i : Nat)) (fun i => decide (x ∈ Bs.getD i [])) True.intro (List.range Bs.length) (by rw [List.length_range]; exact Nat.le_trans (by omega : _ ≤ 100) (by decide)) (fun i hi R hR => ?_) fun b => ?_
              · have hi := List.mem_range.1 hi
                unfold e4_is_bag_tree
                trivial
                have e1 : (fD Bs)[i]? = some (D.tup (nD (Bs.getD i []))) := by
                  unfold fD
                  rw [List.getElem?_map, List.getD_eq_getElem?_getD, List.getElem?_eq_getElem hi]
                  rfl
                refine ⟨_, atN e1, ?_⟩
                trivial
                rw [isIn_nat]
                refine ⟨rfl, flat_nD _, ?_⟩
                split
                · rename_i h0
                  rw [if_pos h0] at hR
                  exact hR
                · rename_i h0
                  rw [if_neg h0] at hR
                  exact hR
              trivial
              generalize hs : (List.range Bs.length).filter (fun i => decide (x ∈ Bs.getD i [])) = sm
              have hsl : sm.length ≤ 100 := by
                rw [← hs]
                refine Nat.le_trans (List.length_filter_le _ _) ?_
                rw [List.length_range]
                omega
              refine ⟨by decide, cmp_natsL sm, cmp_natsL [], ?_⟩
              cases sm with
              | nil =>
                rw [if_pos (show D.eqv (.lst (([] : List Nat).map fun i : Nat => D.int (i : Nat))) (.lst []) = true from eqv_refl (cmp_natsL []))]
                refine hQ _ _ (nob fun bt => ?_)
                obtain ⟨⟨i, hi, hxi⟩, _⟩ := bt.name x hx
                have : i ∈ ([] : List Nat) := by rw [← hs]; exact List.mem_filter.2 ⟨hi, decide_eq_true hxi⟩
                cases this
              | cons y sm' =>
                rw [if_neg (by rw [show D.eqv (.lst ((y :: sm').map fun i : Nat => D.int (i : Nat))) (.lst []) = false from eqv_nilL y sm']; decide)]
                refine ⟨ts, y :: sm', rfl, by omega, hsl, tk.nd, fun t ht => (tk.lt t ht).1, by rw [← hs]; exact List.nodup_range.filter _, fun b fin hb => ?_⟩
                trivial
                cases b with
                | false =>
                  rw [if_pos (by decide)]
                  refine hQ _ _ (nob fun bt => ?_)
                  have := (bt.name x hx).2
                  rw [hs] at this
                  exact absurd (hb.2 this) (by decide)
                | true =>
                  rw [if_neg (by decide)]
                  refine hN _ ⟨_, _, pr ++ [x], rfl, by rw [List.append_assoc]; exact he, fun z hz => ?_⟩
                  rcases List.mem_append.1 hz with hz | hz
                  · exact hpr z hz
                  · rw [List.mem_singleton.1 hz]
                    refine ⟨?_, by rw [hs]; exact hb.1 rfl⟩
                    have hy : y ∈ (List.range Bs.length).filter fun i => decide (x ∈ Bs.getD i []) := by rw [hs]; exact List.mem_cons_self
                    obtain ⟨a1, a2⟩ := List.mem_filter.1 hy
                    exact ⟨y, a1, of_decide_eq_true a2⟩
          · rintro p qs env N ⟨u5, pre, rfl, he, hpre⟩ hN
            have hp : p ∈ ps := by rw [he]; simp
            have hnl := rising_len (ok.ok p hp).1 (ok.ok p hp).2
            refine ⟨True.intro, ?_⟩
            unfold b3_is_bag_tree
            trivial
            rw [show fD Bs = Bs.map (fun B => D.tup (nD B)) from rfl]
            refine lc_map (fun B : List Nat => D.tup (nD B)) (fun B => .bl (p.ns.all fun m => decide (m ∈ B))) True.intro Bs (Nat.le_trans hb12 (by decide)) (fun C hC R hR => ?_) fun b => ?_
            · unfold e2_is_bag_tree
              trivial
              unfold dP
              trivial
              refine lc_map (fun m : Nat => D.int (m : Nat)) (fun m => .bl (decide (m ∈ C))) True.intro p.ns (Nat.le_trans (by omega : _ ≤ 100) (by decide)) (fun m hm R hR => ?_) fun b => ?_
              · unfold e1_is_bag_tree
                trivial
                rw [isIn_nat]
                refine ⟨rfl, flat_nD _, ?_⟩
                exact hR
              trivial
              refine ⟨p.ns.map fun m => decide (m ∈ C), by rw [List.map_map]; rfl, ?_⟩
              rw [List.all_map]
              exact hR
            trivial
            refine ⟨Bs.map fun C => p.ns.all fun m => decide (m ∈ C), by rw [List.map_map]; rfl, ?_⟩
            cases ea : (Bs.map fun C => p.ns.all fun m => decide (m ∈ C)).any id with
            | false =>
              rw [if_pos (by decide)]
              refine hQ _ _ (nob fun bt => ?_)
              obtain ⟨B, hB, hBm⟩ := bt.part p.ns (List.mem_map.2 ⟨p, hp, rfl⟩)
              rw [List.any_map, List.any_eq_false] at ea
              exact ea B hB (by simpa using hBm)
            | true =>
              rw [if_neg (by decide)]
              rw [List.any_map, List.any_eq_true] at ea
              obtain ⟨B, hB, hBm⟩ := ea
              refine hN _ ⟨_, pre ++ [p], rfl, by rw [List.append_assoc]; exact he, fun z hz => ?_⟩
              rcases List.mem_append.1 hz with hz | hz
              · exact hpre z hz
              · rw [List.mem_singleton.1 hz]
                exact ⟨B, hB, by simpa using hBm⟩
    · rw [if_pos (by simp; omega)]
      refine hQ _ _ (no fun Bs ts _ z => h2 ?_)
      unfold dTree at z
      rw [D.tup.inj z]
      rfl
  | _ =>
    trivial
    simp only [nv, D.isFz, true_and, Bool.not_true, Bool.not_false, if_true]
    exact hQ _ _ (no fun Bs ts _ z => by unfold dTree at z; cases z)
end BT
end LS
namespace LS
open PySem L2 HD PM
theorem rgD_later (k n : Nat) : rgD ((k : Int) + 1) (n : Int) = ((List.range (n - (k + 1))).map fun i => k + 1 + i).map fun i : Nat => D.int (i : Nat) := by
  unfold rgD
  rw [List.map_map, show ((n : Int) - ((k : Int) + 1)).toNat = n - (k + 1) by omega]
  refine List.map_congr_left fun i _ => ?_
  show D.int _ = D.int _
  rw [show ((k : Int) + 1 + (i : Nat)) = ((k + 1 + i : Nat) : Int) by omega]
end LS
namespace LS
open PySem L2 HD PM
local macro_rules | `(tactic| trivial) => `(tactic| try simp -dsimp only [↓sIf, ↓sRet, ↓retD_ext, ↓retD_lst, ↓retD_al, ↓sSet, ↓sSetE, ↓sAsg, ↓sDrop, ↓sNext, ↓sFor, ↓sRetN, ↓sCont, ↓sBreak, ↓dTest, ↓dOp, ↓dVar_w, ↓dC, ↓dCons, ↓dNil, ↓dTup, ↓dLst, ↓frzDs, ↓frzD_ext, ↓frzD_lst, ↓frzD_al, ↓wd_ext, ↓wd_lst, ↓wd_al, ↓wds, ↓AtS_ext, ↓AtS_lst, ↓AtL, ↓fAdd, ↓fSub, ↓fMul, ↓fDiv, ↓fMod, ↓fPow, ↓fCmp, ↓fIn, ↓fEq_ii, ↓fEq_ss, ↓fEq_bb, ↓fEq_tt, ↓fEq_ll, ↓fNe_ii, ↓fNe_ss, ↓fNe_bb, ↓fNe_tt, ↓fNe_ll, ↓fIx_l, ↓fIx_t, ↓fIx_k, ↓fIx_f, ↓GetS_some, ↓NatS_some, ↓fSl, ↓fIsN, ↓fNotN, ↓D.knN, ↓dNot, ↓dAnd, ↓dOr, ↓dAndV_w, ↓dOrV_w, ↓dNotV, ↓dIf, ↓dNeg, ↓dChain_w, ↓BlS_bl, ↓dCall_w, ↓dCallJ_w, ↓anyAl, ↓frozs, ↓froz, ↓gSet, ↓gTupD, ↓gsCons, ↓gsNil, ↓dSeq, ↓seqD_tup, ↓seqD_elst, ↓seqD_lst, ↓seqD_al, ↓dRange1, ↓dRange2, ↓dZip, ↓dCB, ↓dLc, ↓dYes, ↓dNoPart, ↓dPart, ↓dSl, ↓fLen, ↓fMin, ↓fMax, ↓fSum, ↓fAll, ↓fAny, ↓fSorted, ↓fTuple, ↓fList, ↓dRg1, ↓dRg2, ↓dLstRg, ↓dTupRg, ↓dIndex, ↓fIdx, ↓dAppend_w, ↓dExtend_w, ↓extD_lst, ↓dPopAt_w, ↓popD_int, ↓dPop_w, ↓mutD_w, ↓sSetItem_w, ↓setD_int, ↓dSortSet, ↓dTable_w, ↓wipeE, finals1, finals2, finals3, finals4, finals5, finals6, fin1_ext, fin1_lst, List.getElem?_cons_zero, List.getElem?_cons_succ, List.getElem?_nil, List.set_cons_zero, List.set_cons_succ, List.cons_append, List.nil_append, List.append_nil, List.replicate_succ, List.replicate_zero, List.map_cons, List.map_nil, List.length_cons, List.length_nil, true_and, and_true, ite_true, ite_false, if_true, if_false, Bool.false_eq_true, decide_eq_true_eq, Sl.plain, D.isSq, eq_self_iff_true, forall_const, reduceIte, true_or, or_true, atI_0, atI_1, atI_2, atI_3, ixN_0, ixN_1, ixN_2, AtS_ext, AtS_lst, FzS_lst, FzS_ext, GetS_some, NatS_some, ↓fIsi1, ↓fIsi2, BoolS_some, HD.kb_non_tuple, HD.kb_non_list, HD.kb_non_bool, HD.kb_non_int, HD.kb_non_str, HD.kb_bl_tuple, HD.kb_bl_list, HD.kb_bl_bool, HD.kb_bl_int, HD.kb_bl_str, HD.kb_int_tuple, HD.kb_int_list, HD.kb_int_bool, HD.kb_int_int, HD.kb_int_str, HD.kb_str_tuple, HD.kb_str_list, HD.kb_str_bool, HD.kb_str_int, HD.kb_str_str, HD.kb_lst_tuple, HD.kb_lst_list, HD.kb_lst_bool, HD.kb_lst_int, HD.kb_lst_str, HD.kb_tup_tuple, HD.kb_tup_list, HD.kb_tup_bool, HD.kb_tup_int, HD.kb_tup_str, ↓sFz_w, ↓FzS_lst, ↓FzS_ext, ↓dSortSetL, ↓fAbs, ↓fInt, ↓fRepr, ↓fLtT, ↓sRaise, ↓sTryKeep, ↓dCallV_w, ↓dMeth, ↓fCount, ↓fSplit, ↓seq_setE, ↓seq_set, ↓seq_drop, ↓seq_asg, ↓seq_if, ↓seq_for, ↓dStep, ↓fStep, ↓fMulT, ↓fIsB, ↓fNotB, ↓sPar, ↓dEnum, ↓dListZip, ↓dNest, ↓sSeal, ↓dNApp, ↓retD_reg, ↓dLenSet, ↓fSum2, ↓seq_putD, ↓seq_sealD, ↓dDIn, ↓dDGet, ↓sPutD, ↓dDNew, ↓dDOne, ↓sSealD, ↓dKeys, ↓keyS_dk, ↓dExtT])
local macro_rules | `(tactic| and_intros) => `(tactic| try simp -dsimp only [↓sIf, ↓sRet, ↓retD_ext, ↓retD_lst, ↓retD_al, ↓sSet, ↓sSetE, ↓sAsg, ↓sDrop, ↓sNext, ↓sFor, ↓sRetN, ↓sCont, ↓sBreak, ↓dTest, ↓dOp, ↓dC, ↓dCons, ↓dNil, ↓dTup, ↓dLst, ↓frzDs, ↓frzD_ext, ↓frzD_lst, ↓frzD_al, ↓wd_ext, ↓wd_lst, ↓wd_al, ↓wds, ↓AtS_ext, ↓AtS_lst, ↓AtL, ↓fAdd, ↓fSub, ↓fMul, ↓fDiv, ↓fMod, ↓fPow, ↓fCmp, ↓fIn, ↓fEq_ii, ↓fEq_ss, ↓fEq_bb, ↓fEq_tt, ↓fEq_ll, ↓fNe_ii, ↓fNe_ss, ↓fNe_bb, ↓fNe_tt, ↓fNe_ll, ↓fIx_l, ↓fIx_t, ↓fIx_k, ↓fIx_f, ↓GetS_some, ↓NatS_some, ↓fSl, ↓fIsN, ↓fNotN, ↓D.knN, ↓dNot, ↓dAnd, ↓dOr, ↓dAndV_w, ↓dOrV_w, ↓dNotV, ↓dIf, ↓dNeg, ↓dChain_w, ↓BlS_bl, ↓dCall_w, ↓dCallJ_w, ↓anyAl, ↓frozs, ↓froz, ↓gSet, ↓gTupD, ↓gsCons, ↓gsNil, ↓dSeq, ↓seqD_tup, ↓seqD_elst, ↓seqD_lst, ↓seqD_al, ↓dRange1, ↓dRange2, ↓dZip, ↓dCB, ↓dLc, ↓dYes, ↓dNoPart, ↓dPart, ↓dSl, ↓fLen, ↓fMin, ↓fMax, ↓fSum, ↓fAll, ↓fAny, ↓fSorted, ↓fTuple, ↓fList, ↓dRg1, ↓dRg2, ↓dLstRg, ↓dTupRg, ↓dIndex, ↓fIdx, ↓dAppend_w, ↓dExtend_w, ↓extD_lst, ↓dPopAt_w, ↓popD_int, ↓dPop_w, ↓mutD_w, ↓sSetItem_w, ↓setD_int, ↓dSortSet, ↓dTable_w, ↓wipeE, finals1, finals2, finals3, finals4, finals5, finals6, fin1_ext, fin1_lst, List.getElem?_cons_zero, List.getElem?_cons_succ, List.getElem?_nil, List.set_cons_zero, List.set_cons_succ, List.cons_append, List.nil_append, List.append_nil, List.replicate_succ, List.replicate_zero, List.map_cons, List.map_nil, List.length_cons, List.length_nil, true_and, and_true, ite_true, ite_false, if_true, if_false, Bool.false_eq_true, decide_eq_true_eq, Sl.plain, D.isSq, eq_self_iff_true, forall_const, reduceIte, true_or, or_true, atI_0, atI_1, atI_2, atI_3, ixN_0, ixN_1, ixN_2, AtS_ext, AtS_lst, FzS_lst, FzS_ext, GetS_some, NatS_some, ↓fIsi1, ↓fIsi2, BoolS_some, HD.kb_non_tuple, HD.kb_non_list, HD.kb_non_bool, HD.kb_non_int, HD.kb_non_str, HD.kb_bl_tuple, HD.kb_bl_list, HD.kb_bl_bool, HD.kb_bl_int, HD.kb_bl_str, HD.kb_int_tuple, HD.kb_int_list, HD.kb_int_bool, HD.kb_int_int, HD.kb_int_str, HD.kb_str_tuple, HD.kb_str_list, HD.kb_str_bool, HD.kb_str_int, HD.kb_str_str, HD.kb_lst_tuple, HD.kb_lst_list, HD.kb_lst_bool, HD.kb_lst_int, HD.kb_lst_str, HD.kb_tup_tuple, HD.kb_tup_list, HD.kb_tup_bool, HD.kb_tup_int, HD.kb_tup_str, ↓sFz_w, ↓FzS_lst, ↓FzS_ext, ↓dSortSetL, ↓fAbs, ↓fInt, ↓fRepr, ↓fLtT, ↓sRaise, ↓sTryKeep, ↓dCallV_w, ↓dMeth, ↓fCount, ↓fSplit, ↓seq_setE, ↓seq_set, ↓seq_drop, ↓seq_asg, ↓seq_if, ↓seq_for, ↓dStep, ↓fStep, ↓fMulT, ↓fIsB, ↓fNotB, ↓sPar, ↓dEnum, ↓dListZip, ↓dNest, ↓sSeal, ↓dNApp, ↓retD_reg, ↓dLenSet, ↓fSum2, ↓seq_putD, ↓seq_sealD, ↓dDIn, ↓dDGet, ↓sPutD, ↓dDNew, ↓dDOne, ↓sSealD, ↓dKeys, ↓keyS_dk, ↓dExtT, ↓dv0, ↓dw0, ↓dv1, ↓dw1, ↓dv2, ↓dw2, ↓dv3, ↓dw3, ↓dv4, ↓dw4, ↓dv5, ↓dw5, ↓dv6, ↓dw6, ↓dv7, ↓dw7, ↓dv8, ↓dw8, ↓dv9, ↓dw9, ↓dv10, ↓dw10, ↓dv11, ↓dw11, ↓dv12, ↓dw12, ↓dv13, ↓dw13, ↓dv14, ↓dw14, ↓dv15, ↓dw15, ↓dv16, ↓dw16, ↓dv17, ↓dw17, ↓dv18, ↓dw18, ↓dv19, ↓dw19])
def sp_law_tied : DSpec := sp_ties_of
def b1_law_tied : DTS :=
    (sIf (dTest (dOp (fIn false) (dVar 2) (dOp fIx (dVar 4) (dC (.int 0))))) (sDrop (dExtT 3 (dOp fIx (dVar 4) (dC (.int 0))))) sNext)
def e2_law_tied : DT :=
    (dVar 5)
def k3_law_tied : DTS :=
    (sDrop (dAppend 1 (dLc (dRange1 (dCons (dCB fLen (dCons (dOp fIx (dVar 0) (dC (.int 0))) dNil)) dNil)) (gSet 5) (dAnd (dTest (dOp fNe (dVar 5) (dVar 2))) (dTest (dOp (fIn false) (dVar 5) (dVar 3)))) e2_law_tied [5])))
def b4_law_tied : DTS :=
    (sSeq (sSet 3 (dLst dNil))
    (sSeq (sFor (dSeq (dOp fIx (dVar 0) (dC (.int 1)))) (gSet 4) b1_law_tied)
    k3_law_tied))
def k5_law_tied : DTS :=
    (sRet (dVar 1))
def t_law_tied : DTS :=
    (sSeq (sSet 1 (dLst dNil))
    (sSeq (sFor (dRange1 (dCons (dCB fLen (dCons (dOp fIx (dVar 0) (dC (.int 0))) dNil)) dNil)) (gSet 2) b4_law_tied)
    k5_law_tied))
theorem m_law_tied : Meets t_law_tied 1 5 sp_law_tied := by
  rintro args Qd Xd ⟨S, ps, rfl, ok, hQ⟩
  show t_law_tied _ _ [_, .un, .un, .un, .un, .un]
  unfold t_law_tied
  and_intros
  refine ⟨Nat.zero_le _, fun a1 => ?_⟩
  have h24 := ok.few
  have hnl : ∀ p ∈ ps, p.ns.length ≤ 24 := fun p hp => Nat.le_trans (rising_len (ok.ok p hp).1 (ok.ok p hp).2) h24
  rw [nD_len, rgD_nat]
  refine ⟨⟨by omega, by omega⟩, ?_⟩
  refine for_ind (fun x : Nat => D.int (x : Nat)) (fun xs env => ∃ (pre : List Nat) (u2 u3 u4 : Sl), env = [.ext (dSh S ps), .lst a1 (pre.map fun a => D.lst (nD (nb S.length (gsOf ps) a))), u2, u3, u4, .un] ∧ List.range S.length = pre ++ xs) ?_ ?_ (List.range S.length) _ ⟨[], _, _, _, rfl, rfl⟩
  · rintro env ⟨pre, u2, u3, u4, rfl, he⟩
    refine ⟨True.intro, ?_⟩
    rw [List.append_nil] at he
    subst he
    unfold k5_law_tied
    and_intros
    exact hQ _ _
  rintro x xs env N ⟨pre, u2, u3, u4, rfl, he⟩ hN
  have hlen := congrArg List.length he
  rw [List.length_range, List.length_append, List.length_cons] at hlen
  have hx : x < S.length := List.mem_range.1 (by rw [he]; simp)
  refine ⟨True.intro, ?_⟩
  unfold b4_law_tied
  and_intros
  refine ⟨Nat.zero_le _, fun a3 => ?_⟩
  trivial
  refine for_ind (fun p : Part => dP p) (fun qs env => ∃ (pr : List Part) (u4 : Sl), env = [.ext (dSh S ps), .lst a1 (pre.map fun a => D.lst (nD (nb S.length (gsOf ps) a))), dI (x : Nat), .lst a3 (nD (nearL x pr)), u4, .un] ∧ ps = pr ++ qs) ?_ ?_ ps _ ⟨[], _, rfl, rfl⟩
  · rintro env ⟨pr, u4, rfl, hp⟩
    refine ⟨True.intro, ?_⟩
    rw [List.append_nil] at hp
    subst hp
    unfold k3_law_tied
    and_intros
    rw [nD_len, rgD_nat]
    refine ⟨⟨by omega, by omega⟩, ?_⟩
    refine lc_filter (fun y : Nat => D.int (y : Nat)) (fun y => .int (y : Nat)) (fun y => (y != x) && decide (y ∈ nearL x ps)) True.intro (List.range S.length) (by rw [List.length_range]; exact Nat.le_trans h24 (by decide)) (fun y hy R hR => ?_) fun b => ?_
    · unfold e2_law_tied
      trivial
      rw [isIn_nat]
      by_cases e : y = x
      · subst e
        rw [if_neg (by simp)]
        rw [if_neg (by simp)] at hR
        exact hR
      · rw [if_pos (by simpa using fun z : (y : Int) = x => e (by omega))]
        refine ⟨rfl, flat_nD _, ?_⟩
        by_cases hm : y ∈ nearL x ps
        · rw [if_pos (by simpa using hm)]
          rw [if_pos (by simp [e, hm])] at hR
          exact hR
        · rw [if_neg (by simpa using hm)]
          rw [if_neg (by simp [e, hm])] at hR
          exact hR
    trivial
    refine ⟨by rw [List.length_map]; exact Nat.lt_of_lt_of_le (by omega : pre.length < 100) (by decide), hN _ ⟨pre ++ [x], dI (x : Nat), .lst a3 (nD (nearL x ps)), u4, ?_, by rw [he]; simp⟩⟩
    rw [← nb_near, List.map_append]
    rfl
  rintro p qs env N' ⟨pr, u4, rfl, hp⟩ hN'
  refine ⟨True.intro, ?_⟩
  unfold b1_law_tied
  and_intros
  rw [isIn_nat]
  refine ⟨rfl, flat_nD _, ?_⟩
  have hpm : p ∈ ps := by rw [hp]; simp
  have hnear : (nearL x pr).length ≤ pr.length * 24 := nearL_len fun q hq => hnl q (by rw [hp]; exact List.mem_append_left _ hq)
  have hpl := congrArg List.length hp
  rw [List.length_append, List.length_cons] at hpl
  have hps := ok.many
  have hp24 := hnl p hpm
  by_cases hm : x ∈ p.ns
  · rw [if_pos (by simpa using hm)]
    refine ⟨⟨a3, _, rfl⟩, a3, _, _, rfl, rfl, ?_, hN' _ ⟨pr ++ [p], .ext (dP p), ?_, by rw [hp]; simp⟩⟩
    · rw [nD_len, nD_len]
      exact Nat.le_trans (by omega : _ ≤ 1000000) (by decide)
    · rw [nearL_snoc, if_pos hm, nD_app]
  · rw [if_neg (by simpa using hm)]
    exact hN' _ ⟨pr ++ [p], .ext (dP p), by rw [nearL_snoc, if_neg hm, List.append_nil], by rw [hp]; simp⟩
def sp_law_bag : DSpec := sp_bag_by
def e1_law_bag : DT :=
    (dVar 5)
def k2_law_bag : DTS :=
    (sSetE 4 (dOp fAdd (dVar 4) (dC (.int 1))))
def b3_law_bag : DTS :=
    (sSeq (sIf (dOr (dTest (dOp fEq (dOp fIx (dVar 3) (dVar 4)) (dVar 2))) (dTest (dOp (fIn false) (dOp fIx (dVar 3) (dVar 4)) (dVar 1)))) (sSetE 3 (dOp fAdd (dVar 3) (dLc (dSeq (dOp fIx (dVar 0) (dOp fIx (dVar 3) (dVar 4)))) (gSet 5) (dTest (dOp (fIn true) (dVar 5) (dVar 3))) e1_law_bag [5]))) sNext)
    k2_law_bag)
def e4_law_bag : DT :=
    (dVar 6)
def k5_law_bag : DTS :=
    (sRet (dCB fTuple (dCons (dCB fSorted (dCons (dLc (dSeq (dVar 3)) (gSet 6) (dOr (dTest (dOp fEq (dVar 6) (dVar 2))) (dTest (dOp (fIn true) (dVar 6) (dVar 1)))) e4_law_bag [6]) dNil)) dNil)))
def t_law_bag : DTS :=
    (sSeq (sSetE 3 (dLst (dCons (dVar 2) dNil)))
    (sSeq (sSetE 4 (dC (.int 0)))
    (sSeq (sWhile (dTest (dOp (fCmp fun i j => decide (i < j)) (dVar 4) (dCB fLen (dCons (dVar 3) dNil)))) b3_law_bag)
    k5_law_bag)))
structure Wl (n : Nat) (gs : List (List Nat)) (T : List Nat) (x : Nat) (F : List Nat) (at' : Nat) : Prop where
  nd : F.Nodup
  ok : ∀ s ∈ F, s < n ∧ Rch n gs T x s
  xin : x ∈ F
  cl : ∀ j s, j < at' → F[j]? = some s → (s = x ∨ s ∈ T) → ∀ z ∈ nb n gs s, z ∈ F
  le : at' ≤ F.length
theorem Wl.grow {n : Nat} {gs : List (List Nat)} {T : List Nat} {x : Nat} {F : List Nat} {at' s : Nat} (wl : Wl n gs T x F at') (hs : F[at']? = some s) (h : s = x ∨ s ∈ T) : Wl n gs T x (F ++ (nb n gs s).filter fun z => !decide (z ∈ F)) (at' + 1) := by
  have hat : at' < F.length := (List.getElem?_eq_some_iff.1 hs).1
  have hsF : s ∈ F := List.mem_of_getElem? hs
  refine ⟨List.nodup_append.2 ⟨wl.nd, ?_, fun a ha b hb e => ?_⟩, fun z hz => ?_, List.mem_append_left _ wl.xin, fun j t hj ht h1 z hz => ?_, by rw [List.length_append]; omega⟩
  · unfold nb
    exact (List.nodup_range.filter _).filter _
  · have := (List.mem_filter.1 hb).2
    rw [← e] at this
    simp [ha] at this
  · rcases List.mem_append.1 hz with h2 | h2
    · exact wl.ok z h2
    · have h3 := (List.mem_filter.1 h2).1
      exact ⟨(mem_nb.1 h3).1, .step (wl.ok s hsF).2 h h3⟩
  · by_cases e : j = at'
    · subst e
      rw [List.getElem?_append_left hat, hs] at ht
      cases ht
      by_cases hzF : z ∈ F
      · exact List.mem_append_left _ hzF
      · exact List.mem_append_right _ (List.mem_filter.2 ⟨hz, by simp [hzF]⟩)
    · rw [List.getElem?_append_left (by omega)] at ht
      exact List.mem_append_left _ (wl.cl j t (by omega) ht h1 z hz)
theorem Wl.skip {n : Nat} {gs : List (List Nat)} {T : List Nat} {x : Nat} {F : List Nat} {at' s : Nat} (wl : Wl n gs T x F at') (hs : F[at']? = some s) (h : ¬ (s = x ∨ s ∈ T)) : Wl n gs T x F (at' + 1) := by
  have hat : at' < F.length := (List.getElem?_eq_some_iff.1 hs).1
  refine ⟨wl.nd, wl.ok, wl.xin, fun j t hj ht h1 z hz => ?_, by omega⟩
  by_cases e : j = at'
  · subst e
    rw [hs] at ht
    cases ht
    exact absurd h1 h
  · exact wl.cl j t (by omega) ht h1 z hz
theorem q1_law_bag {Q : Sl → Env' → Prop} {s0 s1 s2 s4 s6 : Sl} {F l : List Nat} (hl : l.length ≤ 100) (hQ : ∀ a, Q (.lst a (nD (l.filter fun z => !decide (z ∈ F)))) [s0, s1, s2, .ext (.lst (nD F)), s4, .un, s6]) :
    lcD (gSet 5) (dTest (dOp (fIn true) (dVar 5) (dVar 3))) e1_law_bag [5] (fun _ => True) Q (nD l) [] [s0, s1, s2, .ext (.lst (nD F)), s4, .un, s6] := by
  refine lc_filter (fun s : Nat => D.int (s : Nat)) (fun s => .int (s : Nat)) (fun s => !decide (s ∈ F)) True.intro l (Nat.le_trans hl (by decide)) (fun s hs R hR => ?_) fun b => hQ b
  unfold e1_law_bag
  trivial
  rw [isIn_nat]
  exact ⟨rfl, flat_nD _, R_if rfl hR⟩
theorem m_law_bag : Meets t_law_bag 3 4 sp_law_bag := by
  rintro args Qd Xd ⟨n, gs, T, Z, x, rfl, hZ, h24, hx, hxT, hQ⟩
  show t_law_bag _ _ [_, _, _, .un, .un, .un, .un]
  unfold t_law_bag
  and_intros
  refine ⟨by decide, ?_⟩
  refine ⟨fun m env => ∃ (F : List Nat) (at' : Nat), env = [.ext (tiD n gs), .ext Z, dI (x : Nat), .ext (.lst (nD F)), dI (at' : Nat), .un, .un] ∧ Wl n gs T x F at' ∧ m = 100 - at', ⟨_, [x], 0, rfl, ⟨by simp, fun s hs => by rw [List.mem_singleton.1 hs]; exact ⟨hx, .base⟩, by simp, fun j s hj => absurd hj (Nat.not_lt_zero _), Nat.zero_le _⟩, rfl⟩, ?_⟩
  rintro m env ⟨F, at', rfl, wl, rfl⟩
  have hF := nodup_le wl.nd fun s hs => (wl.ok s hs).1
  trivial
  rw [nD_len]
  by_cases hat : at' < F.length
  · rw [if_pos (by omega)]
    unfold b3_law_bag
    and_intros
    have hget : F[at']? = some (F[at']) := List.getElem?_eq_getElem hat
    have hgetD : (nD F)[at']? = some (.int ((F[at'] : Nat) : Int)) := by rw [List.getElem?_map, hget]; rfl
    generalize hs : F[at'] = s at hget hgetD
    have hsF : s ∈ F := List.mem_of_getElem? hget
    obtain ⟨hsn, hsr⟩ := wl.ok s hsF
    have hF2 : ∀ F2 : List Nat, Wl n gs T x F2 (at' + 1) → k2_law_bag (exOf [.ext (tiD n gs), .ext Z, dI (x : Nat)] Xd) { endsOf [.ext (tiD n gs), .ext Z, dI (x : Nat)] Qd with nx := fun env' => ∃ m', m' < 100 - at' ∧ ∃ F at', env' = [.ext (tiD n gs), .ext Z, dI (x : Nat), .ext (.lst (nD F)), dI (at' : Nat), .un, .un] ∧ Wl n gs T x F at' ∧ m' = 100 - at', ct := fun env' => ∃ m', m' < 100 - at' ∧ ∃ F at', env' = [.ext (tiD n gs), .ext Z, dI (x : Nat), .ext (.lst (nD F)), dI (at' : Nat), .un, .un] ∧ Wl n gs T x F at' ∧ m' = 100 - at', bk := fun env1 => k5_law_bag (exOf [.ext (tiD n gs), .ext Z, dI (x : Nat)] Xd) (endsOf [.ext (tiD n gs), .ext Z, dI (x : Nat)] Qd) env1 } [.ext (tiD n gs), .ext Z, dI (x : Nat), .ext (.lst (nD F2)), dI (at' : Nat), .un, .un] := fun F2 w2 => by
      unfold k2_law_bag
      and_intros
      exact ⟨100 - (at' + 1), by omega, F2, at' + 1, by rw [Int.natCast_add]; rfl, w2, rfl⟩
    have hnbl : (nb n gs s).length ≤ 100 := by
      unfold nb
      have := List.length_filter_le (tieB gs s) (List.range n)
      rw [List.length_range] at this
      omega
    have hix : atI (tiDs n gs) (s : Int) = some (D.lst (nD (nb n gs s))) := atN (by rw [List.getElem?_map, List.getElem?_range hsn]; rfl)
    refine ⟨_, atN hgetD, ?_⟩
    trivial
    by_cases hsx : s = x
    · rw [if_pos (by simp [hsx])]
      refine ⟨_, atN hgetD, ?_⟩
      trivial
      refine ⟨_, hix, ?_⟩
      trivial
      refine q1_law_bag hnbl fun b => ?_
      trivial
      have w2 := wl.grow hget (.inl hsx)
      have hl2 := nodup_le w2.nd fun s hs => (w2.ok s hs).1
      rw [List.length_append] at hl2
      refine ⟨by rw [nD_len, nD_len]; exact Nat.le_trans (by omega : _ ≤ 1000) (by decide), ?_⟩
      rw [← nD_app]
      exact hF2 _ w2
    · rw [if_neg (by simpa using fun z : (s : Int) = x => hsx (by omega))]
      refine ⟨_, atN hgetD, ?_⟩
      rcases hZ with rfl | rfl
      all_goals
        trivial
        rw [isIn_nat]
        refine ⟨rfl, flat_nD _, ?_⟩
        by_cases hsT : s ∈ T
        · rw [if_pos (by simpa using hsT)]
          refine ⟨_, atN hgetD, ?_⟩
          trivial
          refine ⟨_, hix, ?_⟩
          trivial
          refine q1_law_bag hnbl fun b => ?_
          trivial
          have w2 := wl.grow hget (.inr hsT)
          have hl2 := nodup_le w2.nd fun s hs => (w2.ok s hs).1
          rw [List.length_append] at hl2
          refine ⟨by rw [nD_len, nD_len]; exact Nat.le_trans (by omega : _ ≤ 1000) (by decide), ?_⟩
          rw [← nD_app]
          exact hF2 _ w2
        · rw [if_neg (by simpa using hsT)]
          exact hF2 _ (wl.skip hget (fun h => h.elim hsx hsT))
  · rw [if_neg (by omega)]
    unfold k5_law_bag
    and_intros
    have hall : ∀ z, Rch n gs T x z → z ∈ F := fun z hz => hz.closed (P := (· ∈ F)) wl.xin fun y hy h1 => by
      obtain ⟨j, hj, e⟩ := List.getElem_of_mem hy
      exact wl.cl j y (by omega) (by rw [List.getElem?_eq_getElem hj, e]) h1
    refine lc_filter (fun s : Nat => D.int (s : Nat)) (fun s => .int (s : Nat)) (fun s => decide (s = x) || !decide (s ∈ T)) True.intro F (Nat.le_trans (by omega : F.length ≤ 100) (by decide)) (fun s hs R hR => ?_) fun b => ?_
    · unfold e4_law_bag
      have fin : if ((s : Int) == (x : Int)) = true then R (some (.int (s : Nat))) [.ext (tiD n gs), .ext Z, dI (x : Nat), .ext (.lst (nD F)), dI (at' : Nat), .un, .un] else if (!(D.int (s : Int)).isIn (nD T)) = true then R (some (.int (s : Nat))) [.ext (tiD n gs), .ext Z, dI (x : Nat), .ext (.lst (nD F)), dI (at' : Nat), .un, .un] else R none [.ext (tiD n gs), .ext Z, dI (x : Nat), .ext (.lst (nD F)), dI (at' : Nat), .un, .un] := by
        rw [isIn_nat]
        by_cases e : s = x
        · rw [if_pos (by simp [e])]
          rw [if_pos (by simp [e])] at hR
          exact hR
        · rw [if_neg (by simpa using fun z : (s : Int) = x => e (by omega))]
          exact R_if (by simp [e]) hR
      rcases hZ with rfl | rfl
      all_goals
        trivial
        by_cases e : s = x
        · rw [if_pos (by simp [e])] at fin
          rw [if_pos (by simp [e])]
          exact fin
        · rw [if_neg (by simpa using fun z : (s : Int) = x => e (by omega))] at fin
          rw [if_neg (by simpa using fun z : (s : Int) = x => e (by omega))]
          exact ⟨rfl, flat_nD _, fin⟩
    trivial
    refine ⟨cI (F.filter fun s => decide (s = x) || !decide (s ∈ T)), by rw [List.map_map]; rfl, fun ns' hp hs => ?_⟩
    obtain ⟨l', rfl, hr, hm⟩ := sorted_nats (wl.nd.filter _) hp hs
    have e : l' = bagN n gs T x := rising_ext hr (bag_rising ..) fun z => by
      rw [hm, List.mem_filter, mem_bag]
      constructor
      · rintro ⟨h1, h2⟩
        refine ⟨(wl.ok z h1).1, ?_, (wl.ok z h1).2⟩
        rcases Bool.or_eq_true_iff.1 h2 with h | h
        · rw [of_decide_eq_true h]; exact hxT
        · simpa using h
      · rintro ⟨_, h2, h3⟩
        exact ⟨hall z h3, by simp [h2]⟩
    subst e
    rw [cI, List.map_map]
    exact hQ _
theorem erase_map {α β : Type} (f : α → β) : ∀ (l : List α) (i : Nat), (l.map f).eraseIdx i = (l.eraseIdx i).map f
  | [], _ => rfl
  | _ :: _, 0 => rfl
  | x :: l, i + 1 => by
    show f x :: (l.map f).eraseIdx i = f x :: (l.eraseIdx i).map f
    rw [erase_map f l i]
def sp_law_order : DSpec := fun args Q _ => ∃ (n : Nat) (a : Addr) (ds : List D) (ns : List Nat) (Z : D), args = [.lst a ds, .ext Z] ∧ SqN ns Z ∧ JarOk n ds ∧ n + 64 < 4294967296 ∧ ns.length ≤ 60 ∧
  ∀ (o : List Nat) ds' fin, o.Perm ns → JarOk (n + 64) ds' → Q (.ext (.tup (nD o))) (.lst a ds' :: fin)
def e1_law_order : DT :=
    (dPopAt 2 (dCallJ sp_law_dip 0 (dCons (dCB fLen (dCons (dVar 2) dNil)) dNil)))
def t_law_order : DTS :=
    (sSeq (sSet 2 (dCB fList (dCons (dVar 1) dNil)))
    (sRet (dCB fTuple (dCons (dLc (dRange1 (dCons (dCB fLen (dCons (dVar 1) dNil)) dNil)) (gSet 3) dYes e1_law_order [3]) dNil))))
theorem q1_law_order {Q : Sl → Env' → Prop} {n : Nat} {a a2 : Addr} {ds : List D} {ns : List Nat} {s1 : Sl} (hj : JarOk n ds) (hn : n + 64 < 4294967296) (hl : ns.length ≤ 60) (hQ : ∀ b (o l : List Nat) ds', o.Perm ns → JarOk (n + 64) ds' → Q (.lst b (nD o)) [.lst a ds', s1, .lst a2 (nD l), .un]) :
    lcD (gSet 3) dYes e1_law_order [3] (fun _ => True) Q (nD (List.range ns.length)) [] [.lst a ds, s1, .lst a2 (nD ns), .un] := by
  refine lc_ind (fun k : Nat => D.int (k : Int)) (fun xs acc env => ∃ (m : Nat) (ds : List D) (o l : List Nat), env = [.lst a ds, s1, .lst a2 (nD l), .un] ∧ acc = nD o ∧ JarOk m ds ∧ m + xs.length ≤ n + 64 ∧ l.length = xs.length ∧ (o ++ l).Perm ns) ?_ ?_ (List.range ns.length) [] _
    ⟨n, ds, [], ns, rfl, rfl, hj, by rw [List.length_range]; omega, by rw [List.length_range], List.Perm.refl _⟩
  · rintro acc env ⟨m, ds4, o, l, rfl, rfl, hj4, hm4, hl4, hp⟩
    have e : l = [] := List.length_eq_zero_iff.1 hl4
    subst e
    refine ⟨True.intro, fun b => ?_⟩
    rw [List.append_nil] at hp
    exact hQ b o _ _ hp (hj4.up (by simpa using hm4))
  · rintro k xs acc env N ⟨m, ds4, o, l, rfl, rfl, hj4, hm4, hl4, hp⟩ hN
    rw [List.length_cons] at hm4 hl4
    have hol := hp.length_eq
    rw [List.length_append] at hol
    refine ⟨True.intro, by rw [nD_len]; exact Nat.lt_of_le_of_lt (by omega : o.length ≤ 100) (by decide), ?_⟩
    unfold e1_law_order
    trivial
    rw [nD_len]
    refine ⟨m, a, ds4, _, rfl, hj4, by omega, by omega, by omega, fun r ds5 fin r0 r1 hj5 => ?_⟩
    trivial
    obtain ⟨i, rfl⟩ := Int.eq_ofNat_of_zero_le r0
    have hi : i < l.length := by omega
    refine ⟨r0, by omega, _, (by rw [Int.toNat_natCast, List.getElem?_map, List.getElem?_eq_getElem hi]; rfl : (nD l)[((i : Nat) : Int).toNat]? = some (.int ((l[i] : Nat) : Int))), ?_⟩
    trivial
    have e1 : (nD l).eraseIdx ((i : Nat) : Int).toNat = nD (l.eraseIdx i) := by
      rw [Int.toNat_natCast]
      exact erase_map _ l i
    refine hN _ _ ⟨m + 1, ds5, o ++ [l[i]], l.eraseIdx i, by rw [e1], by rw [nD_app]; rfl, hj5, by omega, by rw [List.length_eraseIdx_of_lt hi]; omega, ?_⟩
    rw [List.append_assoc]
    refine (List.Perm.append_left o ?_).trans hp
    show (l[i] :: l.eraseIdx i).Perm l
    exact erase_perm l hi
theorem m_law_order : Meets t_law_order 2 2 sp_law_order := by
  rintro args Qd Xd ⟨n, a, ds, ns, Z, rfl, hZ, hj, hn, hl, hQ⟩
  show t_law_order _ _ [_, _, .un, .un]
  unfold t_law_order
  rcases hZ with rfl | rfl
  all_goals
    and_intros
    intro a2
    rw [nD_len, rgD_nat]
    refine ⟨⟨by omega, by omega⟩, ?_⟩
    refine q1_law_order hj hn hl fun b o l ds' hp hj' => ?_
    trivial
    exact hQ o _ _ hp hj'
structure WebOk (S : List Nat) (ps : List Part) : Prop where
  sz : SzOk S
  pos : 0 < S.length
  roof : prodN S ≤ 2000
  few : ps.length ≤ 24
  ok : ∀ p ∈ ps, p.Ok S ∧ ∀ x ∈ p.ws, x = 1
theorem WebOk.ns {S : List Nat} {ps : List Part} (h : WebOk S ps) : NsOk S ps := ⟨h.sz.few, by have := h.few; omega, fun p hp => ⟨(h.ok p hp).1.rise, (h.ok p hp).1.lt⟩⟩
structure GrOk (n : Nat) (gs : List (List Nat)) : Prop where
  len : gs.length ≤ 60
  ok : ∀ g ∈ gs, Rising g ∧ ∀ m ∈ g, m < n
def sp_law_web : DSpec := fun args Q _ => ∃ (n : Nat) (a : Addr) (ds : List D) (most : Nat), args = [.lst a ds, dI (most : Nat)] ∧ JarOk n ds ∧ n + 4000 < 4294967296 ∧ 0 < most ∧ most ≤ 12 ∧
  ∀ (S : List Nat) (ps : List Part) ds' fin, WebOk S ps → S.length ≤ most → JarOk (n + 4000) ds' → Q (.ext (dSh S ps)) (.lst a ds' :: fin)
def b1_law_web : DTS :=
    (sSeq (sSetE 6 (dOp fIx (dLst (dCons (dC (.int 2)) (dCons (dC (.int 1)) (dCons (dC (.int 3)) (dCons (dC (.int 2)) (dCons (dC (.int 4)) dNil)))))) (dCallJ sp_law_dip 0 (dCons (dC (.int 5)) dNil))))
    (sSetE 4 (dOp fAdd (dVar 4) (dTup (dCons (dIf (dTest (dOp (fCmp fun i j => decide (i ≤ j)) (dOp fMul (dCall sp_law_times (dCons (dVar 4) dNil)) (dVar 6)) (dC (.int 2000)))) (dVar 6) (dC (.int 1))) dNil)))))
def e2_law_web : DT :=
    (dCallJ sp_law_some 0 (dCons (dVar 2) (dCons (dC (.int 3)) dNil)))
def e3_law_web : DT :=
    (dCB fTuple (dCons (dCB fSorted (dCons (dLst (dCons (dVar 5) (dCons (dOp fMod (dOp fAdd (dVar 5) (dC (.int 1))) (dVar 2)) dNil))) dNil)) dNil))
def e4_law_web : DT :=
    (dTup (dCons (dVar 5) (dCons (dOp fAdd (dVar 5) (dC (.int 1))) dNil)))
def e5_law_web : DT :=
    (dCB fTuple (dCons (dCB fSorted (dCons (dLst (dCons (dVar 5) (dCons (dOp fMod (dOp fAdd (dVar 5) (dVar 8)) (dVar 2)) dNil))) dNil)) dNil))
def e6_law_web : DT :=
    (dOp fIx (dVar 4) (dVar 12))
def e7_law_web : DT :=
    (dCB fLen (dCons (dOp fIx (dVar 13) (dC (.int 1))) dNil))
def b8_law_web : DTS :=
    (sSeq (sSetE 11 (dOp fMulT (dTup (dCons (dC (.int 1)) dNil)) (dCall sp_law_times (dCons (dLc (dSeq (dVar 10)) (gSet 12) dYes e6_law_web [12]) dNil))))
    (sIf (dAnd (dTest (dOp (fCmp fun i j => decide (i < j)) (dCB fLen (dCons (dVar 9) dNil)) (dC (.int 24)))) (dTest (dOp (fCmp fun i j => decide (i ≤ j)) (dOp fAdd (dCB fSum (dCons (dLc (dSeq (dVar 9)) (gSet 13) dYes e7_law_web [13]) dNil)) (dCB fLen (dCons (dVar 11) dNil))) (dC (.int 2000))))) (sDrop (dAppend 9 (dTup (dCons (dVar 10) (dCons (dVar 11) dNil))))) sNext))
def k9_law_web : DTS :=
    (sRet (dTup (dCons (dVar 4) (dCons (dCB fTuple (dCons (dVar 9) dNil)) dNil))))
def k10_law_web : DTS :=
    (sSeq (sSet 9 (dLst dNil))
    (sSeq (sFor (dSeq (dVar 7)) (gSet 10) b8_law_web)
    k9_law_web))
def k11_law_web : DTS :=
    (sSeq (sIf (dAnd (dTest (dOp fEq (dVar 3) (dC (.int 3)))) (dTest (dOp (fCmp fun i j => decide (j < i)) (dVar 2) (dC (.int 2))))) (sSeq (sSetE 8 (dOp fAdd (dC (.int 1)) (dCallJ sp_law_dip 0 (dCons (dOp fSub (dVar 2) (dC (.int 1))) dNil))))
    (sSetE 7 (dOp fAdd (dLc (dRange1 (dCons (dVar 2) dNil)) (gSet 5) dYes e5_law_web [5]) (dSl (dVar 7) dNoPart (dPart (dC (.int 2))))))) sNext)
    k10_law_web)
def k12_law_web : DTS :=
    (sSeq (sIf (dTest (dOp fEq (dVar 3) (dC (.int 2)))) (sSetE 7 (dOp fAdd (dLst (dCons (dTupRg (dRg1 (dCB fMin (dCons (dVar 2) (dCons (dC (.int 4)) dNil))))) dNil)) (dSl (dVar 7) dNoPart (dPart (dC (.int 2)))))) sNext)
    k11_law_web)
def k13_law_web : DTS :=
    (sSeq (sIf (dTest (dOp fEq (dVar 3) (dC (.int 1)))) (sSetE 7 (dLc (dRange1 (dCons (dOp fSub (dVar 2) (dC (.int 1))) dNil)) (gSet 5) dYes e4_law_web [5])) sNext)
    k12_law_web)
def k14_law_web : DTS :=
    (sSeq (sSetE 7 (dLc (dRange1 (dCons (dCallJ sp_law_dip 0 (dCons (dOp fAdd (dOp fMul (dC (.int 2)) (dVar 2)) (dC (.int 1))) dNil)) dNil)) (gSet 5) dYes e2_law_web [5]))
    (sSeq (sIf (dAnd (dTest (dOp fEq (dVar 3) (dC (.int 0)))) (dTest (dOp (fCmp fun i j => decide (j < i)) (dVar 2) (dC (.int 2))))) (sSetE 7 (dOp fAdd (dLc (dRange1 (dCons (dVar 2) dNil)) (gSet 5) dYes e3_law_web [5]) (dSl (dVar 7) dNoPart (dPart (dC (.int 1)))))) sNext)
    k13_law_web))
def t_law_web : DTS :=
    (sSeq (sSetE 2 (dOp fAdd (dC (.int 1)) (dCallJ sp_law_dip 0 (dCons (dVar 1) dNil))))
    (sSeq (sSetE 3 (dCallJ sp_law_dip 0 (dCons (dC (.int 7)) dNil)))
    (sSeq (sSetE 4 (dTup dNil))
    (sSeq (sFor (dRange1 (dCons (dVar 2) dNil)) (gSet 5) b1_law_web)
    k14_law_web))))
theorem q1_law_web {Ex : DX} {E : DEnds} {a : Addr} {s1 s2 s3 s7 s8 s9 s10 s11 s12 s13 : Sl} (items : List D) : ∀ (n : Nat) (ds : List D) (S : List Nat) (s5 s6 : Sl), JarOk n ds → n + items.length < 4294967296 → (∀ s ∈ S, 0 < s ∧ s ≤ 4) → prodN S ≤ 2000 → S.length + items.length ≤ 24 →
    (∀ ds' S' u5 u6, JarOk (n + items.length) ds' → (∀ s ∈ S', 0 < s ∧ s ≤ 4) → prodN S' ≤ 2000 → S'.length = S.length + items.length → E.nx [.lst a ds', s1, s2, s3, .ext (.tup (nD S')), u5, u6, s7, s8, s9, s10, s11, s12, s13]) →
    forD (gSet 5) b1_law_web (fun _ => True) Ex E items [.lst a ds, s1, s2, s3, .ext (.tup (nD S)), s5, s6, s7, s8, s9, s10, s11, s12, s13] := by
  induction items with
  | nil =>
    intro n ds S s5 s6 hj hn hs hp hl hE
    exact ⟨True.intro, hE _ _ _ _ hj hs hp rfl⟩
  | cons x items ih =>
    intro n ds S s5 s6 hj hn hs hp hl hE
    rw [List.length_cons] at hn hl
    rw [forD]
    unfold b1_law_web
    and_intros
    refine ⟨by decide, fun b => ⟨n, a, ds, 5, rfl, hj, by omega, by decide, by decide, fun r ds' fin r0 r1 hj' => ?_⟩⟩
    trivial
    have fin' : ∀ s : Nat, 0 < s → s ≤ 4 → prodN S * s ≤ 2000 → ∀ u6, forD (gSet 5) b1_law_web (fun _ => True) Ex E items [.lst a ds', s1, s2, s3, .ext (.tup (nD (S ++ [s]))), .ext x, u6, s7, s8, s9, s10, s11, s12, s13] := by
      intro s h0 h4 hps u6
      refine ih (n + 1) ds' (S ++ [s]) _ _ hj' (by omega) ?_ ?_ (by rw [List.length_append, List.length_singleton]; omega) ?_
      · intro y hy
        rcases List.mem_append.1 hy with h | h
        · exact hs y h
        · rw [List.mem_singleton.1 h]; exact ⟨h0, h4⟩
      · rw [prodN_append]; simpa [prodN] using hps
      · intro ds'' S' u5 u6' hj2 hs2 hp2 hl2
        refine hE _ _ _ _ (by rw [List.length_cons]; exact hj2.up (by omega)) hs2 hp2 ?_
        rw [hl2, List.length_append, List.length_singleton, List.length_cons]; omega
    obtain ⟨z, h0, h4, hz⟩ : ∃ z : Nat, 0 < z ∧ z ≤ 4 ∧ atI [D.int 2, D.int 1, D.int 3, D.int 2, D.int 4] r = some (D.int (z : Nat)) := by
      have h : r = 0 ∨ r = 1 ∨ r = 2 ∨ r = 3 ∨ r = 4 := by omega
      rcases h with rfl | rfl | rfl | rfl | rfl
      · exact ⟨2, by decide, by decide, rfl⟩
      · exact ⟨1, by decide, by decide, rfl⟩
      · exact ⟨3, by decide, by decide, rfl⟩
      · exact ⟨2, by decide, by decide, rfl⟩
      · exact ⟨4, by decide, by decide, rfl⟩
    refine ⟨_, hz, ?_⟩
    trivial
    refine ⟨S, .inr rfl, fun y hy => (hs y hy).1, by omega, fun fin2 => ?_⟩
    trivial
    refine ⟨cmulN (a := 60) (b := 60) (by rw [Int.natAbs_natCast]; omega) (by rw [Int.natAbs_natCast]; omega) (by decide), ?_⟩
    split
    · rename_i hle
      have := fin' z h0 h4 (by exact_mod_cast hle) (dI (z : Nat))
      rw [nD_app] at this
      exact ⟨by decide, by rw [nD_len]; exact Nat.le_trans (by omega : S.length + 1 ≤ 100) (by decide), this⟩
    · have := fin' 1 (by decide) (by decide) (by omega) (dI (z : Nat))
      rw [nD_app] at this
      exact ⟨by decide, by rw [nD_len]; exact Nat.le_trans (by omega : S.length + 1 ≤ 100) (by decide), this⟩
theorem q2_law_web {Ex : DX} {E : DEnds} {s0 s1 s2 s3 s5 s6 s8 : Sl} {S : List Nat} {gs : List (List Nat)} (hS : SzOk S) (hS0 : 0 < S.length) (hr : prodN S ≤ 2000) (hg : GrOk S.length gs) (hE : ∀ ps env, WebOk S ps → env[0]? = some s0 → E.rt (.ext (dSh S ps)) env) :
    k10_law_web Ex E [s0, s1, s2, s3, .ext (.tup (nD S)), s5, s6, .ext (.lst (fD gs)), s8, .un, .un, .un, .un, .un] := by
  unfold k10_law_web
  and_intros
  refine ⟨Nat.zero_le _, fun a9 => ?_⟩
  refine for_ind (fun g : List Nat => D.tup (nD g)) (fun hs env => ∃ (ps : List Part) (u10 u11 : Sl), env = [s0, s1, s2, s3, .ext (.tup (nD S)), s5, s6, .ext (.lst (fD gs)), s8, .lst a9 (ps.map dP), u10, u11, .un, .un] ∧ ps.length ≤ 24 ∧ (∀ p ∈ ps, p.Ok S ∧ ∀ x ∈ p.ws, x = 1) ∧ ∀ g ∈ hs, g ∈ gs) ?_ ?_ gs _ ⟨[], _, _, rfl, by decide, by simp, fun g hg => hg⟩
  · rintro env ⟨ps, u10, u11, rfl, h1, h2, _⟩
    refine ⟨True.intro, ?_⟩
    unfold k9_law_web
    and_intros
    exact ⟨by decide, hE ps _ ⟨hS, hS0, hr, h1, h2⟩ rfl⟩
  rintro g hs env N ⟨ps, u10, u11, rfl, h1, h2, h3⟩ hN
  obtain ⟨hgr, hgl⟩ := hg.ok g (h3 g List.mem_cons_self)
  have hglen := rising_len hgr hgl
  have h24 := hS.few
  refine ⟨True.intro, ?_⟩
  unfold b8_law_web
  and_intros
  refine ⟨by decide, lc_map (fun m : Nat => D.int (m : Nat)) (fun m => .int (sz S m : Nat)) True.intro g (Nat.le_trans (by omega : g.length ≤ 100) (by decide)) (fun m hm R hR => ?_) fun b => ?_⟩
  · unfold e6_law_web
    trivial
    refine ⟨_, atN (getD_at (hgl m hm)), ?_⟩
    trivial
    exact hR
  trivial
  have hpz := psz_le hS.pos hgr hgl
  have hpos : ∀ x ∈ g.map (sz S), 0 < x := fun x hx => by
    obtain ⟨m, hm, rfl⟩ := List.mem_map.1 hx
    exact hS.pos _ (sz_mem (hgl m hm))
  refine ⟨g.map (sz S), .inl (by rw [nD, List.map_map]; rfl), hpos, by show psz S g < _; omega, fun fin => ?_⟩
  trivial
  rw [show prodN (g.map (sz S)) = psz S g from rfl]
  refine ⟨by omega, by omega, by rw [Int.toNat_natCast]; exact Nat.le_trans (by simp; omega : _ ≤ 5000) (by decide), ?_⟩
  have hrep : (List.replicate ((psz S g : Nat) : Int).toNat [D.int 1]).flatten = iD (List.replicate (psz S g) 1) := by
    rw [Int.toNat_natCast]
    generalize psz S g = m
    induction m with
    | zero => rfl
    | succ m ih => rw [List.replicate_succ, List.flatten_cons, ih, List.replicate_succ]; rfl
  rw [hrep]
  rw [List.length_map]
  have next : ∀ ps2 : List Part, ps2.length ≤ 24 → (∀ p ∈ ps2, p.Ok S ∧ ∀ x ∈ p.ws, x = 1) → N [s0, s1, s2, s3, .ext (.tup (nD S)), s5, s6, .ext (.lst (fD gs)), s8, .lst a9 (ps2.map dP), .ext (.tup (nD g)), .ext (.tup (iD (List.replicate (psz S g) 1))), .un, .un] := fun ps2 g1 g2 => hN _ ⟨ps2, _, _, rfl, g1, g2, fun k hk => h3 k (List.mem_cons_of_mem _ hk)⟩
  by_cases hlt : ps.length < 24
  · rw [if_pos (by omega)]
    refine lc_map (keep := fun env' => env'[9]? = some (Sl.lst a9 (List.map dP ps))) (fun p : Part => dP p) (fun p => .int (p.ws.length : Nat)) rfl ps (Nat.le_trans (by omega : ps.length ≤ 100) (by decide)) (fun p hp R hR => ?_) fun b => ?_
    · unfold e7_law_web
      trivial
      rw [iD_len]
      exact hR
    trivial
    refine ⟨ps.map fun p => (p.ws.length : Int), by rw [List.map_map]; rfl, ?_⟩
    split
    · refine ⟨by decide, by rw [List.length_map]; exact Nat.lt_of_lt_of_le hlt (by decide), ?_⟩
      have := next (ps ++ [⟨g, List.replicate (psz S g) 1⟩]) (by rw [List.length_append, List.length_singleton]; omega) fun p hp => by
        rcases List.mem_append.1 hp with h | h
        · exact h2 p h
        · rw [List.mem_singleton.1 h]
          exact ⟨⟨hgr, hgl, List.length_replicate⟩, fun x hx => (List.mem_replicate.1 hx).2⟩
      rw [List.map_append] at this
      exact this
    · exact next ps h1 h2
  · rw [if_neg (by omega)]
    exact next ps h1 h2
theorem GrOk.take {n : Nat} {gs : List (List Nat)} (h : GrOk n gs) (k : Nat) : ∀ g ∈ gs.take k, Rising g ∧ ∀ m ∈ g, m < n := fun g hg => h.ok g (List.mem_of_mem_take hg)
theorem fD_take (gs : List (List Nat)) (k : Nat) : cutD (fD gs) none (some (k : Int)) = fD (gs.take k) := by
  unfold cutD
  rw [HT.sIx_none, HT.sIx_nat, List.drop_zero, Nat.sub_zero]
  rw [show fD (gs.take k) = (fD gs).take k from List.map_take]
  by_cases hk : k ≤ (fD gs).length
  · rw [Nat.min_eq_left hk]
  · rw [Nat.min_eq_right (by omega), List.take_of_length_le (Nat.le_refl _), List.take_of_length_le (by omega)]
theorem pair_sorted {k m many : Nat} {ns : List Int} (hk : k < many) (hm : m < many) (hne : k ≠ m) (hp : ns.Perm [(k : Int), (m : Int)]) (hs : ns.Pairwise (· ≤ ·)) : ∃ g : List Nat, ns = cI g ∧ Rising g ∧ ∀ x ∈ g, x < many := by
  obtain ⟨g, e, hr, hg⟩ := sorted_nats (l := [k, m]) (by simp [hne]) hp hs
  refine ⟨g, e, hr, fun x hx => ?_⟩
  rcases List.mem_cons.1 ((hg x).1 hx) with h | h
  · omega
  · rw [List.mem_singleton.1 h]; exact hm
theorem q3_law_web {Q : Sl → Env' → Prop} {s0 s1 s3 s4 s6 s7 s8 s9 s10 s11 s12 s13 : Sl} {many : Nat} (h2 : 1 < many) (h12 : many ≤ 12) (hQ : ∀ b (gs : List (List Nat)), gs.length = many → (∀ g ∈ gs, Rising g ∧ ∀ m ∈ g, m < many) → Q (.lst b (fD gs)) [s0, s1, dI (many : Nat), s3, s4, .un, s6, s7, s8, s9, s10, s11, s12, s13]) :
    lcD (gSet 5) dYes e3_law_web [5] (fun _ => True) Q (nD (List.range many)) [] [s0, s1, dI (many : Nat), s3, s4, .un, s6, s7, s8, s9, s10, s11, s12, s13] := by
  refine lc_ind (fun k : Nat => D.int (k : Int)) (fun xs acc env => ∃ gs : List (List Nat), env = [s0, s1, dI (many : Nat), s3, s4, .un, s6, s7, s8, s9, s10, s11, s12, s13] ∧ acc = fD gs ∧ gs.length + xs.length = many ∧ (∀ x ∈ xs, x < many) ∧ ∀ g ∈ gs, Rising g ∧ ∀ m ∈ g, m < many) ?_ ?_ (List.range many) [] _
    ⟨[], rfl, rfl, by rw [List.length_range]; simp, fun x hx => List.mem_range.1 hx, by intro p hp; simp at hp⟩
  · rintro acc env ⟨gs, rfl, rfl, hl, _, hg⟩
    exact ⟨True.intro, fun b => hQ b gs (by simpa using hl) hg⟩
  rintro k xs acc env N ⟨gs, rfl, rfl, hl, hx, hg⟩ hN
  rw [List.length_cons] at hl
  have hk := hx k List.mem_cons_self
  refine ⟨True.intro, by rw [List.length_map]; exact Nat.lt_of_le_of_lt (by omega : _ ≤ 1000) (by decide), ?_⟩
  unfold e3_law_web
  trivial
  refine ⟨by omega, by decide, ?_⟩
  have e : ((k : Int) + 1) % (many : Int) = (((k + 1) % many : Nat) : Int) := by rw [Int.natCast_emod, Int.natCast_add] <;> rfl
  have hlt : (k + 1) % many < many := Nat.mod_lt _ (by omega)
  have hne : k ≠ (k + 1) % many := by
    intro z
    by_cases hge : k + 1 < many
    · rw [Nat.mod_eq_of_lt hge] at z; omega
    · rw [Nat.mod_eq_sub_mod (by omega), Nat.mod_eq_of_lt (by omega)] at z; omega
  rw [e]
  refine ⟨[(k : Int), (((k + 1) % many : Nat) : Int)], rfl, fun ns' hp hs => ?_⟩
  obtain ⟨g, rfl, gr, gl⟩ := pair_sorted hk hlt hne hp hs
  refine hN _ _ ⟨gs ++ [g], rfl, by rw [fD, fD, List.map_append, cI, List.map_map]; rfl, by rw [List.length_append, List.length_singleton]; omega, fun x hx' => hx x (List.mem_cons_of_mem _ hx'), fun g' hg' => ?_⟩
  rcases List.mem_append.1 hg' with h | h
  · exact hg g' h
  · rw [List.mem_singleton.1 h]; exact ⟨gr, gl⟩
theorem q5_law_web {Q : Sl → Env' → Prop} {s0 s1 s3 s4 s6 s7 s9 s10 s11 s12 s13 : Sl} {many st : Nat} (h1 : 0 < st) (h2 : st < many) (h12 : many ≤ 12) (hQ : ∀ b (gs : List (List Nat)), gs.length = many → (∀ g ∈ gs, Rising g ∧ ∀ m ∈ g, m < many) → Q (.lst b (fD gs)) [s0, s1, dI (many : Nat), s3, s4, .un, s6, s7, dI (st : Nat), s9, s10, s11, s12, s13]) :
    lcD (gSet 5) dYes e5_law_web [5] (fun _ => True) Q (nD (List.range many)) [] [s0, s1, dI (many : Nat), s3, s4, .un, s6, s7, dI (st : Nat), s9, s10, s11, s12, s13] := by
  refine lc_ind (fun k : Nat => D.int (k : Int)) (fun xs acc env => ∃ gs : List (List Nat), env = [s0, s1, dI (many : Nat), s3, s4, .un, s6, s7, dI (st : Nat), s9, s10, s11, s12, s13] ∧ acc = fD gs ∧ gs.length + xs.length = many ∧ (∀ x ∈ xs, x < many) ∧ ∀ g ∈ gs, Rising g ∧ ∀ m ∈ g, m < many) ?_ ?_ (List.range many) [] _
    ⟨[], rfl, rfl, by rw [List.length_range]; simp, fun x hx => List.mem_range.1 hx, by intro p hp; simp at hp⟩
  · rintro acc env ⟨gs, rfl, rfl, hl, _, hg⟩
    exact ⟨True.intro, fun b => hQ b gs (by simpa using hl) hg⟩
  rintro k xs acc env N ⟨gs, rfl, rfl, hl, hx, hg⟩ hN
  rw [List.length_cons] at hl
  have hk := hx k List.mem_cons_self
  refine ⟨True.intro, by rw [List.length_map]; exact Nat.lt_of_le_of_lt (by omega : _ ≤ 1000) (by decide), ?_⟩
  unfold e5_law_web
  trivial
  refine ⟨by omega, by decide, ?_⟩
  have e : ((k : Int) + st) % (many : Int) = (((k + st) % many : Nat) : Int) := by rw [Int.natCast_emod, Int.natCast_add] <;> rfl
  have hlt : (k + st) % many < many := Nat.mod_lt _ (by omega)
  have hne : k ≠ (k + st) % many := by
    intro z
    by_cases hge : k + st < many
    · rw [Nat.mod_eq_of_lt hge] at z; omega
    · rw [Nat.mod_eq_sub_mod (by omega), Nat.mod_eq_of_lt (by omega)] at z; omega
  rw [e]
  refine ⟨[(k : Int), (((k + st) % many : Nat) : Int)], rfl, fun ns' hp hs => ?_⟩
  obtain ⟨g, rfl, gr, gl⟩ := pair_sorted hk hlt hne hp hs
  refine hN _ _ ⟨gs ++ [g], rfl, by rw [fD, fD, List.map_append, cI, List.map_map]; rfl, by rw [List.length_append, List.length_singleton]; omega, fun x hx' => hx x (List.mem_cons_of_mem _ hx'), fun g' hg' => ?_⟩
  rcases List.mem_append.1 hg' with h | h
  · exact hg g' h
  · rw [List.mem_singleton.1 h]; exact ⟨gr, gl⟩
theorem m_law_web : Meets t_law_web 2 12 sp_law_web := by
  rintro args Qd Xd ⟨n, a, ds, most, rfl, hj, hn, hm0, hm1, hQ⟩
  show t_law_web _ _ [_, _, .un, .un, .un, .un, .un, .un, .un, .un, .un, .un, .un, .un]
  unfold t_law_web
  and_intros
  refine ⟨n, a, ds, most, rfl, hj, by omega, by omega, by omega, fun r ds1 fin r0 r1 hj1 => ?_⟩
  trivial
  refine ⟨n + 1, a, ds1, 7, rfl, hj1, by omega, by omega, by omega, fun way ds2 fin w0 w1 hj2 => ?_⟩
  trivial
  obtain ⟨many, hmany⟩ : ∃ m : Nat, 1 + r = (m : Nat) := ⟨(1 + r).toNat, by omega⟩
  rw [hmany]
  have hm12 : many ≤ 12 := by omega
  have hm1' : 1 ≤ many := by omega
  refine ⟨Nat.zero_le _, ⟨by omega, by omega⟩, ?_⟩
  rw [rgD_nat]
  refine q1_law_web (nD (List.range many)) (n + 2) ds2 [] _ _ hj2 (by rw [nD_len, List.length_range]; omega) (by simp) (by show 1 ≤ 2000; decide) (by rw [nD_len, List.length_range]; simp; omega) fun ds3 S u5 u6 hj3 hs3 hp3 hl3 => ?_
  rw [nD_len, List.length_range] at hl3 hj3
  have hSl : S.length = many := by rw [hl3]; simp
  have hS : SzOk S := ⟨fun s hs => (hs3 s hs).1, by omega, by omega, fun s hs => (hs3 s hs).2⟩
  have fin10 : ∀ (gs : List (List Nat)) ds9 u5 u6 u8, GrOk many gs → JarOk (n + 4000) ds9 → k10_law_web (exOf [.lst a ds, dI (most : Nat)] Xd) (endsOf [.lst a ds, dI (most : Nat)] Qd) [.lst a ds9, dI (most : Nat), dI (many : Nat), dI way, .ext (.tup (nD S)), u5, u6, .ext (.lst (fD gs)), u8, .un, .un, .un, .un, .un] := fun gs ds9 u5 u6 u8 hg hj9 => by
    refine q2_law_web hS (by omega) hp3 (by rw [hSl]; exact hg) fun ps env hw h0 => ?_
    show Qd _ (finals [.lst a ds, dI (most : Nat)] env)
    rw [finals2, h0, fin1_lst]
    exact hQ S ps _ _ hw (by omega) hj9
  unfold k14_law_web
  and_intros
  refine ⟨cmulN (a := 60) (b := 60) (by decide) (by rw [Int.natAbs_natCast]; omega) (by decide), n + 2 + many, a, ds3, 2 * (many : Int) + 1, rfl, hj3, by omega, by omega, by omega, fun c ds4 fin c0 c1 hj4 => ?_⟩
  trivial
  refine ⟨⟨by omega, by omega⟩, ?_⟩
  have er : rgD 0 c = nD (List.range c.toNat) := by rw [← rgD_nat, Int.toNat_of_nonneg c0]
  rw [er]
  refine lc_ind (fun k : Nat => D.int (k : Int)) (fun xs acc env => ∃ (m : Nat) (ds : List D) (gs : List (List Nat)), env = [.lst a ds, dI (most : Nat), dI (many : Nat), dI way, .ext (.tup (nD S)), .un, u6, .un, .un, .un, .un, .un, .un, .un] ∧ acc = fD gs ∧ JarOk m ds ∧ m + 64 * xs.length ≤ n + 3900 ∧ gs.length + xs.length = c.toNat ∧ ∀ g ∈ gs, Rising g ∧ ∀ m ∈ g, m < many) ?_ ?_ (List.range c.toNat) [] _
    ⟨n + 2 + many + 1, ds4, [], rfl, rfl, hj4, by rw [List.length_range]; omega, by rw [List.length_range]; simp, by intro p hp; simp at hp⟩
  rotate_left
  · rintro k xs acc env N ⟨m, ds5, gs, rfl, rfl, hj5, hm5, hl5, hg5⟩ hN
    rw [List.length_cons] at hm5 hl5
    refine ⟨True.intro, by rw [List.length_map]; exact Nat.lt_of_le_of_lt (by omega : _ ≤ 100) (by decide), ?_⟩
    unfold e2_law_web
    trivial
    refine ⟨m, a, ds5, many, 3, rfl, hj5, by omega, by omega, by omega, fun ns ds6 fin h1 h2 h3 hj6 => ?_⟩
    trivial
    refine hN _ _ ⟨m + 64, ds6, gs ++ [ns], rfl, by rw [fD, fD, List.map_append]; rfl, hj6, by omega, by rw [List.length_append, List.length_singleton]; omega, fun g hg => ?_⟩
    rcases List.mem_append.1 hg with h | h
    · exact hg5 g h
    · rw [List.mem_singleton.1 h]; exact ⟨h1, h2⟩
  rintro acc env ⟨m, ds5, gs, rfl, rfl, hj5, hm5, hl5, hg5⟩
  rw [List.length_nil, Nat.add_zero] at hl5
  refine ⟨True.intro, fun b => ?_⟩
  have hgr : GrOk many gs := ⟨by omega, hg5⟩
  have fin11 : ∀ (gs : List (List Nat)) ds9 u5 u6, GrOk many gs → JarOk (n + 3900) ds9 → k11_law_web (exOf [.lst a ds, dI (most : Nat)] Xd) (endsOf [.lst a ds, dI (most : Nat)] Qd) [.lst a ds9, dI (most : Nat), dI (many : Nat), dI way, .ext (.tup (nD S)), u5, u6, .ext (.lst (fD gs)), .un, .un, .un, .un, .un, .un] := fun gs ds9 u5 u6 hg hj9 => by
    unfold k11_law_web
    and_intros
    by_cases hw : way = 3
    · subst hw
      rw [if_pos (by decide)]
      by_cases h2 : 2 < many
      · rw [if_pos (by omega)]
        trivial
        refine ⟨n + 3900, a, ds9, (many : Int) - 1, rfl, hj9, by omega, by omega, by omega, fun q ds10 fin q0 q1 hj10 => ?_⟩
        trivial
        obtain ⟨st, hst⟩ : ∃ m : Nat, 1 + q = (m : Nat) := ⟨(1 + q).toNat, by omega⟩
        rw [hst, rgD_nat]
        refine ⟨⟨by omega, by omega⟩, ?_⟩
        refine q5_law_web (by omega) (by omega) (by omega) fun b gs2 g1 g2 => ?_
        trivial
        rw [show (2 : Int) = ((2 : Nat) : Int) from rfl, fD_take]
        have ht := List.length_take_le 2 gs
        refine ⟨by rw [List.length_map, List.length_map]; exact Nat.le_trans (by omega : _ ≤ 100) (by decide), ?_⟩
        have := fin10 (gs2 ++ gs.take 2) ds10 .un u6 (dI (st : Nat)) ⟨by rw [List.length_append]; omega, fun g hgm => (List.mem_append.1 hgm).elim (g2 g) (hg.take 2 g)⟩ (hj10.up (by omega))
        rw [fD, List.map_append] at this
        exact this
      · rw [if_neg (by omega)]
        exact fin10 gs ds9 u5 u6 _ hg (hj9.up (by omega))
    · rw [if_neg (by simpa using hw)]
      exact fin10 gs ds9 u5 u6 _ hg (hj9.up (by omega))
  have fin12 : ∀ (gs : List (List Nat)) ds9 u5 u6, GrOk many gs → JarOk (n + 3900) ds9 → k12_law_web (exOf [.lst a ds, dI (most : Nat)] Xd) (endsOf [.lst a ds, dI (most : Nat)] Qd) [.lst a ds9, dI (most : Nat), dI (many : Nat), dI way, .ext (.tup (nD S)), u5, u6, .ext (.lst (fD gs)), .un, .un, .un, .un, .un, .un] := fun gs ds9 u5 u6 hg hj9 => by
    unfold k12_law_web
    and_intros
    by_cases hw : way = 2
    · subst hw
      rw [if_pos (by decide)]
      obtain ⟨mm, hmm, hmm4⟩ : ∃ mm : Nat, (if (4 : Int) < (many : Int) then 4 else (many : Int)) = (mm : Nat) ∧ mm ≤ many := by
        by_cases h : (4 : Int) < many
        · exact ⟨4, by rw [if_pos h]; rfl, by omega⟩
        · exact ⟨many, by rw [if_neg h], Nat.le_refl _⟩
      rw [hmm, rgD_nat, show (2 : Int) = ((2 : Nat) : Int) from rfl, fD_take]
      refine ⟨RgOk.of_le (by omega) (by omega) (by omega) (by omega), by decide, by rw [List.length_map]; exact Nat.le_trans (by have := List.length_take_le 2 gs; omega : _ ≤ 100) (by decide), ?_⟩
      refine fin11 (List.range mm :: gs.take 2) ds9 u5 u6 ⟨by rw [List.length_cons]; have := List.length_take_le 2 gs; omega, fun g hgm => ?_⟩ hj9
      rcases List.mem_cons.1 hgm with h | h
      · rw [h]; exact ⟨rising_range _, fun m hm => by have := List.mem_range.1 hm; omega⟩
      · exact hg.take 2 g h
    · rw [if_neg (by simpa using hw)]
      exact fin11 gs ds9 u5 u6 hg hj9
  have fin13 : ∀ (gs : List (List Nat)) ds9 u6, GrOk many gs → JarOk (n + 3900) ds9 → k13_law_web (exOf [.lst a ds, dI (most : Nat)] Xd) (endsOf [.lst a ds, dI (most : Nat)] Qd) [.lst a ds9, dI (most : Nat), dI (many : Nat), dI way, .ext (.tup (nD S)), .un, u6, .ext (.lst (fD gs)), .un, .un, .un, .un, .un, .un] := fun gs ds9 u6 hg hj9 => by
    unfold k13_law_web
    and_intros
    by_cases hw : way = 1
    · subst hw
      rw [if_pos (by decide)]
      rw [show ((many : Int) - 1) = ((many - 1 : Nat) : Int) by omega, rgD_nat]
      refine ⟨⟨by omega, by omega⟩, ?_⟩
      refine lc_map (fun k : Nat => D.int (k : Int)) (fun k => .tup (nD [k, k + 1])) True.intro (List.range (many - 1)) (by rw [List.length_range]; exact Nat.le_trans (by omega : _ ≤ 100) (by decide)) (fun k hk R hR => ?_) fun b => ?_
      · unfold e4_law_web
        trivial
        exact ⟨by decide, hR⟩
      trivial
      have := fin12 ((List.range (many - 1)).map fun k => [k, k + 1]) ds9 .un u6 ⟨by rw [List.length_map, List.length_range]; omega, fun g hgm => ?_⟩ hj9
      · rw [fD, List.map_map] at this
        exact this
      · obtain ⟨k, hk, rfl⟩ := List.mem_map.1 hgm
        have := List.mem_range.1 hk
        refine ⟨by simp [Rising], fun m hm => ?_⟩
        rcases List.mem_cons.1 hm with h | h
        · omega
        · rw [List.mem_singleton.1 h]; omega
    · rw [if_neg (by simpa using hw)]
      exact fin12 gs ds9 _ u6 hg hj9
  trivial
  by_cases hw : way = 0
  · subst hw
    rw [if_pos (by decide)]
    by_cases h2 : 2 < many
    · rw [if_pos (by omega), rgD_nat]
      refine ⟨⟨by omega, by omega⟩, ?_⟩
      refine q3_law_web (by omega) (by omega) fun b gs2 g1 g2 => ?_
      trivial
      rw [show (1 : Int) = ((1 : Nat) : Int) from rfl, fD_take]
      have ht := List.length_take_le 1 gs
      refine ⟨by rw [List.length_map, List.length_map]; exact Nat.le_trans (by omega : _ ≤ 100) (by decide), ?_⟩
      have := fin13 (gs2 ++ gs.take 1) ds5 u6 ⟨by rw [List.length_append]; omega, fun g hgm => (List.mem_append.1 hgm).elim (g2 g) (hgr.take 1 g)⟩ (hj5.up (by omega))
      rw [fD, List.map_append] at this
      exact this
    · rw [if_neg (by omega)]
      exact fin13 gs ds5 u6 hgr (hj5.up (by omega))
  · rw [if_neg (by simpa using hw)]
    exact fin13 gs ds5 u6 hgr (hj5.up (by omega))
end LS
namespace LS
open PySem L2 HD PM
def at' (ns f : List Nat) : List Nat := ns.map fun n => f.getD n 0
end LS
namespace LS
open PM
section
variable {w : Wd} {S : List Nat} {ps : List Part}
def gathO (S : List Nat) (w : Wd) (p : Part) (o : List Nat) : Part := o.foldl (fun p x => gathP S w p x) p
end
end LS
namespace PM.Tr
open Classical
inductive De (m root : Nat) (up : Nat → Nat) (a : Nat) : Nat → Prop
  | self : De m root up a a
  | step {x : Nat} : x < m → x ≠ root → De m root up a (up x) → De m root up a x
structure TR (m : Nat) (ts : List (Nat × Nat)) (root : Nat) (up rk : Nat → Nat) : Prop where
  rt : root < m
  hup : ∀ x, x < m → x ≠ root → up x < m ∧ rk (up x) < rk x
  ed : ∀ i j, ((i, j) ∈ ts ∨ (j, i) ∈ ts) ↔ (i < m ∧ i ≠ root ∧ up i = j) ∨ (j < m ∧ j ≠ root ∧ up j = i)
  nd : ts.Nodup
  one : ∀ t ∈ ts, (t.2, t.1) ∉ ts
section
variable {m root : Nat} {ts : List (Nat × Nat)} {up rk : Nat → Nat}
def Ed (m root : Nat) (up : Nat → Nat) (i j : Nat) : Prop := (i < m ∧ i ≠ root ∧ up i = j) ∨ (j < m ∧ j ≠ root ∧ up j = i)
theorem Ed.symm {i j : Nat} (h : Ed m root up i j) : Ed m root up j i := h.elim .inr .inl
theorem TR.de_rk (h : TR m ts root up rk) {a x : Nat} (d : De m root up a x) : rk a ≤ rk x := by
  induction d with
  | self => exact Nat.le_refl _
  | step hx hr _ ih => exact Nat.le_trans ih (Nat.le_of_lt (h.hup _ hx hr).2)
theorem TR.de_eq (h : TR m ts root up rk) {a x : Nat} (d : De m root up a x) (hk : rk x ≤ rk a) : x = a := by
  cases d with
  | self => rfl
  | step hx hr d =>
    have z1 := h.de_rk d
    have z2 := (h.hup _ hx hr).2
    omega
theorem TR.de_root (h : TR m ts root up rk) : ∀ {x : Nat}, x < m → De m root up root x := by
  have key : ∀ n x, rk x ≤ n → x < m → De m root up root x := by
    intro n
    induction n with
    | zero =>
      intro x hn hx
      by_cases e : x = root
      · rw [e]; exact .self
      · have := (h.hup x hx e).2
        omega
    | succ n ih =>
      intro x hn hx
      by_cases e : x = root
      · rw [e]; exact .self
      · have z := h.hup x hx e
        exact .step hx e (ih _ (by omega) z.1)
  exact fun {x} hx => key (rk x) x (Nat.le_refl _) hx
theorem TR.ed_lt (h : TR m ts root up rk) {i j : Nat} (e : Ed m root up i j) : i < m ∧ j < m ∧ i ≠ j := by
  rcases e with ⟨h1, h2, rfl⟩ | ⟨h1, h2, rfl⟩
  · have z := h.hup i h1 h2
    exact ⟨h1, z.1, fun q => by rw [← q] at z; omega⟩
  · have z := h.hup j h1 h2
    exact ⟨z.1, h1, fun q => by rw [q] at z; omega⟩
theorem TR.ed_ts (h : TR m ts root up rk) {i j : Nat} : Ed m root up i j ↔ (i, j) ∈ ts ∨ (j, i) ∈ ts := (h.ed i j).symm
theorem TR.near (h : TR m ts root up rk) {i j : Nat} : j ∈ nearN ts i ↔ Ed m root up i j := mem_near.trans h.ed_ts.symm
end
end PM.Tr
namespace LS
open PM PM.Tr Classical
abbrev bg (Bs : List (List Nat)) (k : Nat) : List Nat := Bs.getD k []
structure Rt (N : Nat) (Bs : List (List Nat)) (ts : List (Nat × Nat)) (root : Nat) (up rk : Nat → Nat) : Prop where
  tr : TR Bs.length ts root up rk
  bags : ∀ B ∈ Bs, Rising B ∧ ∀ n ∈ B, n < N
  rip : ∀ n, ∃ top, ∀ b, b < Bs.length → n ∈ bg Bs b → b = top ∨ (b ≠ root ∧ n ∈ bg Bs (up b))
section
variable {N root : Nat} {Bs : List (List Nat)} {ts : List (Nat × Nat)} {up rk : Nat → Nat}
theorem bg_mem {k : Nat} (h : k < Bs.length) : bg Bs k ∈ Bs := by
  show Bs.getD k [] ∈ Bs
  rw [List.getD_eq_getElem?_getD, List.getElem?_eq_getElem h]
  exact List.getElem_mem h
theorem bg_out {k : Nat} (h : ¬ k < Bs.length) : bg Bs k = [] := by
  show Bs.getD k [] = []
  rw [List.getD_eq_getElem?_getD, List.getElem?_eq_none (by omega)]
  rfl
theorem Rt.rise (h : Rt N Bs ts root up rk) (k : Nat) : Rising (bg Bs k) := by
  by_cases c : k < Bs.length
  · exact (h.bags _ (bg_mem c)).1
  · rw [bg_out c]; exact List.Pairwise.nil
theorem Rt.lt (h : Rt N Bs ts root up rk) {k n : Nat} (hn : n ∈ bg Bs k) : n < N := by
  by_cases c : k < Bs.length
  · exact (h.bags _ (bg_mem c)).2 n hn
  · rw [bg_out c] at hn; cases hn
end
section
variable {w : Wd} {S : List Nat} {Bs : List (List Nat)} {ts : List (Nat × Nat)} {root : Nat} {up rk : Nat → Nat} {ps : List Part} {ly : Part → Nat} {nr : Nat → List Nat}
def leftP (w : Wd) (S : List Nat) (p : Part) (B : List Nat) : Part := gathO S w p (p.ns.filter fun n => !decide (n ∈ B))
structure Laid (S : List Nat) (Bs : List (List Nat)) (ps : List Part) (ly : Part → Nat) (nr : Nat → List Nat) (root : Nat) (up : Nat → Nat) : Prop where
  pos : ∀ n, n < S.length → 0 < sz S n
  ok : ∀ p ∈ ps, p.Ok S
  lay : ∀ p ∈ ps, ly p < Bs.length ∧ ∀ n ∈ p.ns, n ∈ bg Bs (ly p)
  nrs : ∀ i k, k ∈ nr i ↔ Ed Bs.length root up k i
  nrd : ∀ i, (nr i).Nodup
end
end LS
namespace HD
open PySem L2
section
variable {K : PySem.W.Frag}
theorem cellS_i {o : Option OC} {oc : OC} {k : OC → Prop} {t : Tok k} (e : o = some oc) (h : k oc) : CellS o k t := by
  subst e
  exact h
end
end HD
namespace LS
open PM PM.Tr
structure RTree (N : Nat) (gs : List (List Nat)) (Bs : List (List Nat)) (ts : List (Nat × Nat)) (root : Nat) (up rk : Nat → Nat) : Prop where
  rt : Rt N Bs ts root up rk
  part : ∀ ns ∈ gs, ∃ i, i < Bs.length ∧ ∀ n ∈ ns, n ∈ bg Bs i
  name : ∀ n, n < N → ∃ i, i < Bs.length ∧ n ∈ bg Bs i
noncomputable def elimB (N : Nat) (gs : List (List Nat)) (o : List Nat) : List (List Nat) := (List.range o.length).map fun k => bagN N gs (o.take k) (o.getD k 0)
theorem elimB_len (N : Nat) (gs : List (List Nat)) (o : List Nat) : (elimB N gs o).length = o.length := by unfold elimB; simp
theorem elimB_bg {N : Nat} {gs : List (List Nat)} {o : List Nat} {k : Nat} (h : k < o.length) : bg (elimB N gs o) k = bagN N gs (o.take k) (o.getD k 0) := by
  show (elimB N gs o).getD k [] = _
  unfold elimB
  rw [List.getD_eq_getElem?_getD, List.getElem?_map, List.getElem?_range h]
  rfl
theorem bg_app_l {Bs Cs : List (List Nat)} {k : Nat} (h : k < Bs.length) : bg (Bs ++ Cs) k = bg Bs k := by
  show (Bs ++ Cs).getD k [] = Bs.getD k []
  rw [List.getD_eq_getElem?_getD, List.getElem?_append_left h, List.getD_eq_getElem?_getD]
theorem bg_last {Bs : List (List Nat)} {C : List Nat} : bg (Bs ++ [C]) Bs.length = C := by
  show (Bs ++ [C]).getD Bs.length [] = C
  rw [List.getD_eq_getElem?_getD, List.getElem?_append_right (Nat.le_refl _), Nat.sub_self]
  rfl
theorem RTree.hang {N : Nat} {gs Bs : List (List Nat)} {ts : List (Nat × Nat)} {root at' : Nat} {up rk : Nat → Nat} {C : List Nat} (h : RTree N gs Bs ts root up rk) (ha : at' < Bs.length) (hr : Rising C) (hs : ∀ n ∈ C, n ∈ bg Bs at') :
    RTree N gs (Bs ++ [C]) (ts ++ [(at', Bs.length)]) root (fun x => if x = Bs.length then at' else up x) fun x => if x = Bs.length then rk at' + 1 else rk x := by
  have tr := h.rt.tr
  have ll : (Bs ++ [C]).length = Bs.length + 1 := by simp
  have lt_of : ∀ t ∈ ts, t.1 < Bs.length ∧ t.2 < Bs.length := fun t ht => by
    have := tr.ed_lt (tr.ed_ts.2 (.inl ht) : Ed Bs.length root up t.1 t.2)
    exact ⟨this.1, this.2.1⟩
  refine ⟨⟨⟨by have := tr.rt; omega, fun x hx hxr => ?_, fun i j => ?_, ?_, fun t ht z => ?_⟩, fun B hB => ?_, fun n => ?_⟩, fun ns hns => ?_, fun n hn => ?_⟩
  · rw [ll] at hx ⊢
    by_cases e : x = Bs.length
    · simp only [e, if_true]
      rw [if_neg (by omega)]
      omega
    · simp only [if_neg e]
      have := tr.hup x (by omega) hxr
      rw [if_neg (by omega)]
      omega
  · rw [ll, List.mem_append, List.mem_append, List.mem_singleton, List.mem_singleton]
    have old := tr.ed i j
    constructor
    · rintro ((a | a) | (a | a))
      · have l := lt_of _ a
        simp only at l
        rcases old.1 (.inl a) with ⟨b, c, d⟩ | ⟨b, c, d⟩
        · exact .inl ⟨by omega, c, by rw [if_neg (by omega)]; exact d⟩
        · exact .inr ⟨by omega, c, by rw [if_neg (by omega)]; exact d⟩
      · have a1 := congrArg Prod.fst a
        have a2 := congrArg Prod.snd a
        simp only at a1 a2
        have := tr.rt
        exact .inr ⟨by omega, by omega, by rw [if_pos a2, a1]⟩
      · have l := lt_of _ a
        simp only at l
        rcases old.1 (.inr a) with ⟨b, c, d⟩ | ⟨b, c, d⟩
        · exact .inl ⟨by omega, c, by rw [if_neg (by omega)]; exact d⟩
        · exact .inr ⟨by omega, c, by rw [if_neg (by omega)]; exact d⟩
      · have a1 := congrArg Prod.fst a
        have a2 := congrArg Prod.snd a
        simp only at a1 a2
        have := tr.rt
        exact .inl ⟨by omega, by omega, by rw [if_pos a2, a1]⟩
    · have key : ∀ i j, (i < Bs.length + 1 ∧ i ≠ root ∧ (if i = Bs.length then at' else up i) = j) → ((i, j) ∈ ts ∨ (i, j) = (at', Bs.length)) ∨ (j, i) ∈ ts ∨ (j, i) = (at', Bs.length) := fun i j ⟨a, b, c⟩ => by
        by_cases e : i = Bs.length
        · rw [if_pos e] at c
          exact .inr (.inr (by rw [← c, e]))
        · rw [if_neg e] at c
          rcases (tr.ed i j).2 (.inl ⟨by omega, b, c⟩) with z | z
          · exact .inl (.inl z)
          · exact .inr (.inl z)
      rintro (a | a)
      · exact key i j a
      · exact (key j i a).symm
  · exact List.nodup_append.2 ⟨tr.nd, List.pairwise_singleton _ _, fun t ht u hu e => by
      rw [List.mem_singleton.1 hu] at e
      have := lt_of t ht
      rw [e] at this
      simp only at this
      omega⟩
  · rcases List.mem_append.1 ht with ht | ht
    · rcases List.mem_append.1 z with z | z
      · exact tr.one t ht z
      · have l := lt_of t ht
        have := congrArg Prod.snd (List.mem_singleton.1 z)
        simp only at this
        omega
    · rw [List.mem_singleton.1 ht] at z
      rcases List.mem_append.1 z with z | z
      · have := lt_of _ z
        simp only at this
        omega
      · have := congrArg Prod.fst (List.mem_singleton.1 z)
        simp only at this
        omega
  · rcases List.mem_append.1 hB with z | z
    · exact h.rt.bags B z
    · rw [List.mem_singleton.1 z]
      exact ⟨hr, fun n hn => h.rt.lt (hs n hn)⟩
  · obtain ⟨top, ht⟩ := h.rt.rip n
    refine ⟨top, fun b hb hnb => ?_⟩
    rw [ll] at hb
    have rl := tr.rt
    by_cases e : b = Bs.length
    · refine .inr ⟨by omega, ?_⟩
      simp only [e, if_true]
      rw [bg_app_l ha]
      rw [e, bg_last] at hnb
      exact hs n hnb
    · have hb' : b < Bs.length := by omega
      rw [bg_app_l hb'] at hnb
      rcases ht b hb' hnb with z | ⟨z1, z2⟩
      · exact .inl z
      · refine .inr ⟨z1, ?_⟩
        simp only [if_neg e]
        rw [bg_app_l (tr.hup b hb' z1).1]
        exact z2
  · obtain ⟨i, hi, hn⟩ := h.part ns hns
    exact ⟨i, by omega, fun n hn' => by rw [bg_app_l hi]; exact hn n hn'⟩
  · obtain ⟨i, hi, hn⟩ := h.name n hn
    exact ⟨i, by omega, by rw [bg_app_l hi]; exact hn⟩
end LS
namespace LS
open PM PM.Tr
theorem perm_map_inv {α β : Type} {f : α → β} {l : List α} {m : List β} (h : m.Perm (l.map f)) : ∃ k : List α, k.Perm l ∧ m = k.map f := by
  generalize e : l.map f = m' at h
  induction h generalizing l with
  | nil => exact ⟨[], by rw [List.map_eq_nil_iff.1 e], rfl⟩
  | cons x _ ih =>
    cases l with
    | nil => cases e
    | cons a l =>
      rw [List.map_cons, List.cons.injEq] at e
      obtain ⟨k, hk, rfl⟩ := ih e.2
      exact ⟨a :: k, hk.cons a, by rw [List.map_cons, e.1]⟩
  | swap x y t =>
    match l, e with
    | a :: b :: l, e =>
      rw [List.map_cons, List.map_cons, List.cons.injEq, List.cons.injEq] at e
      exact ⟨b :: a :: l, List.Perm.swap _ _ _, by rw [List.map_cons, List.map_cons, e.1, e.2.1, e.2.2]⟩
  | trans _ _ i1 i2 =>
    obtain ⟨k, hk, rfl⟩ := i2 e
    obtain ⟨k', hk', rfl⟩ := i1 rfl
    exact ⟨k', hk'.trans hk, rfl⟩
end LS
namespace LS
open PySem L2 HD PM
def TrSt (S : List Nat) (ps : List Part) (Bs : List (List Nat)) (ts : List (Nat × Nat)) : Prop := ∃ root up rk, RTree S.length (gsOf ps) Bs ts root up rk
theorem py_tie (t : Nat × Nat) : (tieD t).py = .tuple [.int (t.1 : Nat), .int (t.2 : Nat)] := rfl
theorem srt_ties (ts : List (Nat × Nat)) : SrtD (ts.map tieD) := by
  refine ⟨?_, fun d hd => ?_, fun x hx y hy => ?_, fun d hd => ?_⟩
  · induction ts with
    | nil => rfl
    | cons t ts ih => exact ih
  · obtain ⟨t, _, rfl⟩ := List.mem_map.1 hd
    exact ⟨_, _, py_tie t⟩
  · obtain ⟨d, hd, rfl⟩ := pys_mem' hx
    obtain ⟨t, _, rfl⟩ := List.mem_map.1 hd
    obtain ⟨e, he, rfl⟩ := pys_mem' hy
    obtain ⟨q, _, rfl⟩ := List.mem_map.1 he
    rfl
  · obtain ⟨t, _, rfl⟩ := List.mem_map.1 hd
    rw [py_tie]
    show max 0 (max 0 0) + 1 ≤ 50
    decide
theorem getD_bg {Bs : List (List Nat)} {k : Nat} (h : k < Bs.length) : (fD Bs)[k]? = some (D.tup (nD (bg Bs k))) := by
  show (Bs.map fun B => D.tup (nD B))[k]? = some (D.tup (nD (Bs.getD k [])))
  rw [List.getElem?_map, List.getElem?_eq_getElem h, List.getD_eq_getElem?_getD, List.getElem?_eq_getElem h]
  rfl
theorem pi_tie (k : Nat) (t : Nat × Nat) : D.pi (k + 1) (tieD t) = true := by
  unfold tieD
  rw [D.pi]
  exact pi_nats k [t.1, t.2]
theorem cmp_ties (ts : List (Nat × Nat)) : (D.lst (ts.map tieD)).cmp := pi_cmp (k := 2) (by decide) (by
  rw [D.pi, List.all_eq_true]
  intro d hd
  obtain ⟨t, _, rfl⟩ := List.mem_map.1 hd
  exact pi_tie 0 t)
theorem TrSt.lt {S : List Nat} {ps : List Part} {Bs : List (List Nat)} {ts : List (Nat × Nat)} (h : TrSt S ps Bs ts) : ∀ t ∈ ts, t.1 < Bs.length ∧ t.2 < Bs.length := fun t ht => by
  obtain ⟨root, up, rk, hR⟩ := h
  have := hR.rt.tr.ed_lt (hR.rt.tr.ed_ts.2 (.inl ht) : PM.Tr.Ed Bs.length root up t.1 t.2)
  exact ⟨this.1, this.2.1⟩
theorem TrSt.bag {S : List Nat} {ps : List Part} {Bs : List (List Nat)} {ts : List (Nat × Nat)} (h : TrSt S ps Bs ts) (k : Nat) : Rising (bg Bs k) ∧ (∀ m ∈ bg Bs k, m < S.length) ∧ (bg Bs k).length ≤ S.length := by
  obtain ⟨root, up, rk, hR⟩ := h
  have h1 := hR.rt.rise k
  have h2 : ∀ m ∈ bg Bs k, m < S.length := fun m hm => hR.rt.lt hm
  refine ⟨h1, h2, ?_⟩
  have := nd_sub_len (b := List.range S.length) (h1.imp fun h => Nat.ne_of_lt h) fun x hx => List.mem_range.2 (h2 x hx)
  rwa [List.length_range] at this
theorem TrSt.hang {S : List Nat} {ps : List Part} {Bs : List (List Nat)} {ts : List (Nat × Nat)} {k : Nat} {C : List Nat} (h : TrSt S ps Bs ts) (hk : k < Bs.length) (hC : C.Sublist (bg Bs k)) : TrSt S ps (Bs ++ [C]) (ts ++ [(k, Bs.length)]) := by
  obtain ⟨root, up, rk, hR⟩ := h
  exact ⟨_, _, _, hR.hang hk ((hR.rt.rise k).sublist hC) fun n hn => hC.subset hn⟩
end LS
namespace HD
open PySem PyProof.Rows L2
def fInD (neg : Bool) : D → D → (Sl → Prop) → Prop
  | d, .lst ds, Q => d.cmp ∧ (D.lst ds).cmp ∧ d.py.depth ≤ 60 ∧ Q (.ext (.bl (neg != ds.any fun z => D.eqv z d)))
  | d, .tup ds, Q => d.cmp ∧ (D.tup ds).cmp ∧ d.py.depth ≤ 60 ∧ Q (.ext (.bl (neg != ds.any fun z => D.eqv z d)))
  | _, _, _ => False
end HD
namespace HD
open PySem PyProof.Rows L2
section
variable {G : GG} {N : List Str} {sc : SC} {tpos : Pos}
def gLstD (n : Nat) (t : DTGs) : DTG := fun d env Q => match d with
  | .lst ds => ds.length = n ∧ t ds env Q
  | _ => False
end
end HD
namespace LS
open PM PM.Tr Classical
abbrev NP := Nat × Nat
def pLe (a b : NP) : Prop := a.1 < b.1 ∨ (a.1 = b.1 ∧ a.2 ≤ b.2)
theorem sorted_one {α : Type} {r : α → α → Prop} (anti : ∀ a b, r a b → r b a → a = b) : ∀ {l m : List α}, l.Perm m → l.Pairwise r → m.Pairwise r → l = m
  | [], m, h, _, _ => (List.nil_perm.1 h).symm
  | a :: l, [], h, _, _ => by cases List.perm_nil.1 h
  | a :: l, b :: m, h, p, q => by
    obtain ⟨p1, p2⟩ := List.pairwise_cons.1 p
    obtain ⟨q1, q2⟩ := List.pairwise_cons.1 q
    have e : a = b := by
      rcases List.mem_cons.1 (h.mem_iff.1 List.mem_cons_self) with e | e
      · exact e
      · rcases List.mem_cons.1 (h.mem_iff.2 List.mem_cons_self) with e' | e'
        · exact e'.symm
        · exact anti _ _ (p1 _ e') (q1 _ e)
    subst e
    rw [sorted_one anti ((List.perm_cons _).1 h) p2 q2]
section
variable {m root : Nat} {ts : List NP} {up rk : Nat → Nat} {ps told left : List NP}
theorem min_ex {α : Type} (f : α → Nat) : ∀ {l : List α}, l ≠ [] → ∃ a ∈ l, ∀ b ∈ l, f a ≤ f b
  | [], h => absurd rfl h
  | a :: l, _ => by
    by_cases e : l = []
    · subst e
      exact ⟨a, List.mem_cons_self, fun b hb => by rw [List.mem_singleton.1 hb]; exact Nat.le_refl _⟩
    · obtain ⟨c, hc, hm⟩ := min_ex f e
      by_cases h : f a ≤ f c
      · refine ⟨a, List.mem_cons_self, fun b hb => ?_⟩
        rcases List.mem_cons.1 hb with rfl | hb
        · exact Nat.le_refl _
        · exact Nat.le_trans h (hm b hb)
      · refine ⟨c, List.mem_cons_of_mem _ hc, fun b hb => ?_⟩
        rcases List.mem_cons.1 hb with rfl | hb
        · omega
        · exact hm b hb
end
end LS
namespace LS
open PM PM.Tr Classical
section
variable {w : Wd} {S : List Nat} {Bs : List (List Nat)} {ts : List (Nat × Nat)} {root : Nat} {up rk : Nat → Nat} {ps : List Part} {ly : Part → Nat} {nr : Nat → List Nat}
structure PBd (S : List Nat) (ps : List Part) : Prop where
  s4 : ∀ s ∈ S, s ≤ 4
  few : S.length ≤ 24
  bd : ∃ b, 0 < b ∧ b * ps.length ≤ 2400 ∧ ∀ p ∈ ps, Bd b p
  many : ps.length ≤ 60
end
end LS
namespace LS
open PySem L2 HD PM
local macro_rules | `(tactic| and_intros) => `(tactic| try simp -dsimp only [↓sIf, ↓sRet, ↓retD_ext, ↓retD_lst, ↓retD_al, ↓sSet, ↓sSetE, ↓sAsg, ↓sDrop, ↓sNext, ↓sFor, ↓sRetN, ↓sCont, ↓sBreak, ↓dTest, ↓dOp, ↓dC, ↓dCons, ↓dNil, ↓dTup, ↓dLst, ↓frzDs, ↓frzD_ext, ↓frzD_lst, ↓frzD_al, ↓wd_ext, ↓wd_lst, ↓wd_al, ↓wds, ↓AtS_ext, ↓AtS_lst, ↓AtL, ↓fAdd, ↓fSub, ↓fMul, ↓fDiv, ↓fMod, ↓fPow, ↓fCmp, ↓fIn, ↓fEq_ii, ↓fEq_ss, ↓fEq_bb, ↓fEq_tt, ↓fEq_ll, ↓fNe_ii, ↓fNe_ss, ↓fNe_bb, ↓fNe_tt, ↓fNe_ll, ↓fIx_l, ↓fIx_t, ↓fIx_k, ↓fIx_f, ↓GetS_some, ↓NatS_some, ↓fSl, ↓fIsN, ↓fNotN, ↓D.knN, ↓dNot, ↓dAnd, ↓dOr, ↓dAndV_w, ↓dOrV_w, ↓dNotV, ↓dIf, ↓dNeg, ↓dChain_w, ↓BlS_bl, ↓dCall_w, ↓dCallJ_w, ↓anyAl, ↓frozs, ↓froz, ↓gSet, ↓gTupD, ↓gsCons, ↓gsNil, ↓dSeq, ↓seqD_tup, ↓seqD_elst, ↓seqD_lst, ↓seqD_al, ↓dRange1, ↓dRange2, ↓dZip, ↓dCB, ↓dLc, ↓dYes, ↓dNoPart, ↓dPart, ↓dSl, ↓fLen, ↓fMin, ↓fMax, ↓fSum, ↓fAll, ↓fAny, ↓fSorted, ↓fTuple, ↓fList, ↓dRg1, ↓dRg2, ↓dLstRg, ↓dTupRg, ↓dIndex, ↓fIdx, ↓dAppend_w, ↓dExtend_w, ↓extD_lst, ↓dPopAt_w, ↓popD_int, ↓dPop_w, ↓mutD_w, ↓sSetItem_w, ↓setD_int, ↓dSortSet, ↓dTable_w, ↓wipeE, finals1, finals2, finals3, finals4, finals5, finals6, fin1_ext, fin1_lst, List.getElem?_cons_zero, List.getElem?_cons_succ, List.getElem?_nil, List.set_cons_zero, List.set_cons_succ, List.cons_append, List.nil_append, List.append_nil, List.replicate_succ, List.replicate_zero, List.map_cons, List.map_nil, List.length_cons, List.length_nil, true_and, and_true, ite_true, ite_false, if_true, if_false, Bool.false_eq_true, decide_eq_true_eq, Sl.plain, D.isSq, eq_self_iff_true, forall_const, reduceIte, true_or, or_true, atI_0, atI_1, atI_2, atI_3, ixN_0, ixN_1, ixN_2, AtS_ext, AtS_lst, FzS_lst, FzS_ext, GetS_some, NatS_some, ↓fIsi1, ↓fIsi2, BoolS_some, HD.kb_non_tuple, HD.kb_non_list, HD.kb_non_bool, HD.kb_non_int, HD.kb_non_str, HD.kb_bl_tuple, HD.kb_bl_list, HD.kb_bl_bool, HD.kb_bl_int, HD.kb_bl_str, HD.kb_int_tuple, HD.kb_int_list, HD.kb_int_bool, HD.kb_int_int, HD.kb_int_str, HD.kb_str_tuple, HD.kb_str_list, HD.kb_str_bool, HD.kb_str_int, HD.kb_str_str, HD.kb_lst_tuple, HD.kb_lst_list, HD.kb_lst_bool, HD.kb_lst_int, HD.kb_lst_str, HD.kb_tup_tuple, HD.kb_tup_list, HD.kb_tup_bool, HD.kb_tup_int, HD.kb_tup_str, ↓sFz_w, ↓FzS_lst, ↓FzS_ext, ↓dSortSetL, ↓fAbs, ↓fInt, ↓fRepr, ↓fLtT, ↓sRaise, ↓sTryKeep, ↓dCallV_w, ↓dMeth, ↓fCount, ↓fSplit, ↓seq_setE, ↓seq_set, ↓seq_drop, ↓seq_asg, ↓seq_if, ↓seq_for, ↓dStep, ↓fStep, ↓fMulT, ↓fIsB, ↓fNotB, ↓sPar, ↓dEnum, ↓dListZip, ↓dNest, ↓sSeal, ↓dNApp, ↓retD_reg, ↓dLenSet, ↓fSum2, ↓seq_putD, ↓seq_sealD, ↓dDIn, ↓dDGet, ↓sPutD, ↓dDNew, ↓dDOne, ↓sSealD, ↓dKeys, ↓keyS_dk, ↓dExtT, ↓fSortT, ↓fMinP, ↓dRemove, ↓dDInT, ↓dDGetT, ↓sPutDT, ↓dDNewT, ↓sSealDT, ↓dKeysT, ↓keyST_dt, ↓fSortK, ↓seq_putDT, ↓seq_sealDT, ↓dVarR_w, ↓dAttr, ↓dAppR, ↓dExtR_w, ↓dExtTR_w, ↓dClrR, ↓dPopR_w, ↓dIxR_w, ↓dDGetR, ↓dDInR, ↓dGet2R, ↓dPop1R, ↓dPop2R, ↓dDGetTR, ↓dDInTR, ↓dPop1TR, ↓dCallM, ↓dMethO, ↓dMake, ↓dMoveR, ↓dPtr, ↓sAttr, ↓sSetR, ↓sPutR, ↓sPutTR, ↓sSetA_w, ↓sSetG_w, ↓seq_setG, ↓seq_setA, ↓seq_attr, ↓seq_setR, ↓seq_putR, ↓seq_putTR, ↓RegS_reg, ↓CellS_some, ↓RefS_reg, ↓RefS_ar, ↓cellS_ar, ↓wd_ar, ↓seqD_ar, ↓lstO_lst, ↓insO_ins, ↓dkO_dk, ↓dkO_lk, ↓dtO_dt, ↓dtO_lk, ↓dkW_dk, ↓dtW_dt, ↓stoS_ext, ↓stoS_reg, ↓stoS_lstT, ↓stoS_lstF, ↓stoS_al, ↓ptrD_ref, ↓ptrD_int, ↓ptrD_str, ↓ptrD_bl, ↓ptrD_non, ↓ptrD_tup, ↓ptrD_tk, ↓ptrD_lst, ↓ptrD_fz, ↓setGS_lst, ↓setGS_reg, ↓setAS_ar, ↓setAS_ext, ↓intS_int, ↓tupS_tup, ↓lstS_lst, ↓lstK, ↓dkK, ↓dtK, ↓retD_reg, ↓dSortSetB, ↓fSortD, ↓gLstD, ↓fInD, ↓dCallD, ↓regC_reg, ↓dMoveL, ↓dMoveR_w, ↓dDictP, ↓froz_lst, ↓froz_ext, ↓dUpdTR, ↓dv0, ↓dw0, ↓dv1, ↓dw1, ↓dv2, ↓dw2, ↓dv3, ↓dw3, ↓dv4, ↓dw4, ↓dv5, ↓dw5, ↓dv6, ↓dw6, ↓dv7, ↓dw7, ↓dv8, ↓dw8, ↓dv9, ↓dw9, ↓dv10, ↓dw10, ↓dv11, ↓dw11, ↓dv12, ↓dw12, ↓dv13, ↓dw13, ↓dv14, ↓dw14, ↓dv15, ↓dw15, ↓dv16, ↓dw16, ↓dv17, ↓dw17, ↓dv18, ↓dw18, ↓dv19, ↓dw19])
def layN (Bs : List (List Nat)) (ns : List Nat) : Nat := (Bs.map fun B => ns.all fun n => decide (n ∈ B)).idxOf true
theorem at_true (bs : List Bool) (h : true ∈ bs) : D.at? (.bl true) (bs.map D.bl) = some (bs.idxOf true) := by
  unfold D.at?
  induction bs with
  | nil => cases h
  | cons b bs ih =>
    rw [List.map_cons, List.findIdx?_cons, List.idxOf_cons]
    cases b with
    | true => rfl
    | false =>
      have h' : true ∈ bs := by
        rcases List.mem_cons.1 h with e | e
        · cases e
        · exact e
      rw [if_neg (by decide), ih h']
      rfl
def sp_bag_of : DSpec := fun args Q _ => ∃ (Bs : List (List Nat)) (d : D) (ns : List Nat), args = [.ext (.tup [.tup (fD Bs), d]), .ext (.tup (nD ns))] ∧ Bs.length ≤ 100 ∧ ns.length ≤ 100 ∧ (∃ B ∈ Bs, ∀ n ∈ ns, n ∈ B) ∧ ∀ fin, Q (dI (layN Bs ns : Nat)) fin
def e1_bag_of : DT :=
    (dOp (fIn false) (dVar 3) (dVar 2))
def e2_bag_of : DT :=
    (dCB fAll (dCons (dLc (dSeq (dVar 1)) (gSet 3) dYes e1_bag_of [3]) dNil))
def t_bag_of : DTS :=
    (sRet (dIndex (dLc (dSeq (dOp fIx (dVar 0) (dC (.int 0)))) (gSet 2) dYes e2_bag_of [2]) (dC (.bl true))))
theorem m_bag_of : Meets t_bag_of 2 2 sp_bag_of := by
  rintro args Qd Xd ⟨Bs, d, ns, rfl, hb, hn, hex, hQ⟩
  show t_bag_of _ _ [_, _, .un, .un]
  unfold t_bag_of
  and_intros
  refine lc_map (fun B : List Nat => D.tup (nD B)) (fun B => .bl (ns.all fun n => decide (n ∈ B))) True.intro Bs (Nat.le_trans hb (by decide)) (fun B hB R hR => ?_) fun b => ?_
  · unfold e2_bag_of
    and_intros
    refine lc_map (fun n : Nat => D.int (n : Nat)) (fun n => .bl (decide (n ∈ B))) True.intro ns (Nat.le_trans hn (by decide)) (fun n hn R hR => ?_) fun b => ?_
    · unfold e1_bag_of
      and_intros
      rw [isIn_nat]
      exact ⟨rfl, flat_nD _, hR⟩
    and_intros
    refine ⟨ns.map fun n => decide (n ∈ B), by rw [List.map_map]; rfl, ?_⟩
    rw [List.all_map]
    exact hR
  and_intros
  refine ⟨rfl, by rw [List.all_map, List.all_eq_true]; intro B _; rfl, layN Bs ns, ?_, hQ _⟩
  have e : (Bs.map fun B => D.bl (ns.all fun n => decide (n ∈ B))) = (Bs.map fun B => ns.all fun n => decide (n ∈ B)).map D.bl := by rw [List.map_map]; rfl
  rw [e]
  refine at_true _ ?_
  obtain ⟨B, hB, h⟩ := hex
  exact List.mem_map.2 ⟨B, hB, by rw [List.all_eq_true]; intro n hn; exact decide_eq_true (h n hn)⟩
structure PostOk (S : List Nat) (ps : List Part) (Bs : List (List Nat)) (ts : List (Nat × Nat)) (nrs : List (List Nat)) (root : Nat) (up rk : Nat → Nat) : Prop where
  rt : Rt S.length Bs ts root up rk
  la : Laid S Bs ps (fun p => layN Bs p.ns) (fun i => nrs.getD i []) root up
  bd : PBd S ps
  sz : SzOk S
  nl : nrs.length = Bs.length
  nb : Bs.length ≤ 14
  tl : ts.length ≤ 100
end LS
namespace LS
open PySem L2 HD
def hP (i j : Nat) : Int := hT [(i : Int), (j : Int)]
end LS
namespace LS
open PySem L2 HD PM
theorem lt_tie (a b : NP) : W.dataLt (tieD a).py (tieD b).py = false → pLe b a := fun h => by
  have h' : W.dataLt (.tuple [.int (a.1 : Nat), .int (a.2 : Nat)]) (.tuple [.int (b.1 : Nat), .int (b.2 : Nat)]) = false := h
  rw [lt_pair, decide_eq_false_iff_not] at h'
  unfold pLe
  omega
theorem eqv_tie (a b : NP) : D.eqv (tieD a) (tieD b) = decide (a = b) := by
  have h : D.eqv (tieD a) (tieD b) = (decide ((a.1 : Int) = b.1) && (decide ((a.2 : Int) = b.2) && true)) := by
    unfold D.eqv
    rw [py_tie, py_tie]
    simp [PyData.eqv, PyData.eqvAll]
    rw [Bool.eq_iff_iff]
    simp
  rw [h, Bool.eq_iff_iff]
  simp only [Bool.and_true, Bool.and_eq_true, decide_eq_true_eq]
  constructor
  · rintro ⟨h1, h2⟩
    exact Prod.ext (by omega) (by omega)
  · rintro rfl
    exact ⟨rfl, rfl⟩
end LS
namespace LS
open PySem L2 HD PM
theorem putFD_app {f : Str} {d : D} : ∀ {fs : List (Str × D)}, (fs.map (·.1)).contains f = false → putFD f d fs = fs ++ [(f, d)]
  | [], _ => rfl
  | (g, e) :: r, h => by
    rw [List.map_cons, List.contains_cons, Bool.or_eq_false_iff] at h
    have hne : ¬ g = f := fun z => by
      have := h.1
      rw [z, beq_self_eq_true] at this
      cases this
    show (if g = f then _ else _) = _
    rw [if_neg hne, putFD_app h.2]
    rfl
def kvL (LT : Nat → Nat → Part) (md : List (Nat × Nat)) : List (List Int × D) := md.map fun p => ([(p.1 : Int), (p.2 : Int)], dP (LT p.1 p.2))
def butV : Option Nat → D
  | some j => .int (j : Nat)
  | none => .non
end LS
namespace LS
open PM PM.Tr Classical
def ov (σ : Nat → Option Nat) (g : Nat → Nat) : Nat → Nat := fun n => (σ n).getD (g n)
def fr (σ : Nat → Option Nat) (l : List Nat) : List Nat := l.filter fun n => (σ n).isNone
section
variable {w : Wd} {S : List Nat} {σ : Nat → Option Nat}
def setA (S : List Nat) (σ : Nat → Option Nat) (p : Part) : Part := mkP S (fr σ p.ns) fun g => PM.val S p (ov σ g)
end
abbrev KP := Part × Nat
def kOwn (w : Wd) (S : List Nat) (σ : Nat → Option Nat) (Bs : List (List Nat)) (ks : List KP) (i : Nat) : Part := widP S (setA S σ (joinA w S ((ks.filter fun a => a.2 == i).map (·.1)))) (fr σ (bg Bs i))
def kLet (w : Wd) (S : List Nat) (σ : Nat → Option Nat) (Bs : List (List Nat)) (ks : List KP) (nr : Nat → List Nat) : Nat → Nat → Nat → Part
  | 0, _, _ => unitP w
  | f + 1, i, j => leftP w S (joinA w S (kOwn w S σ Bs ks i :: ((nr i).filter fun k => k != j).map fun k => kLet w S σ Bs ks nr f k i)) (bg Bs j)
def kLt (w : Wd) (S : List Nat) (σ : Nat → Option Nat) (Bs : List (List Nat)) (ks : List KP) (nr : Nat → List Nat) (i j : Nat) : Part := kLet w S σ Bs ks nr Bs.length i j
end LS
namespace LS
open PM PM.Tr Classical
open HD (luK ptK drK)
section
variable {m root : Nat} {ts : List NP} {up rk : Nat → Nat}
def Clo (m root : Nat) (up : Nat → Nat) (md : List NP) : Prop := ∀ p ∈ md, ∀ k, Ed m root up k p.1 → k ≠ p.2 → (k, p.1) ∈ md
end
inductive Chg where
  | part (k : Nat) (ws : List Int)
  | name (n : Nat) (o : Option Nat)
structure KC where
  w : Wd
  S : List Nat
  Bs : List (List Nat)
  ts : List NP
  nrs : List (List Nat)
  nss : List (List Nat)
  lay : List Nat
  root : Nat
  up : Nat → Nat
  rk : Nat → Nat
  b : Nat
structure KM where
  ps : List Part
  st : List NP
  md : List NP
  many : Nat
  ch : List Chg
abbrev KC.nr (C : KC) (i : Nat) : List Nat := C.nrs.getD i []
abbrev KC.ks (C : KC) (ps : List Part) : List KP := ps.zip C.lay
abbrev KC.own (C : KC) (ps : List Part) (st : List NP) (i : Nat) : Part := kOwn C.w C.S (luK st) C.Bs (C.ks ps) i
abbrev KC.lt (C : KC) (ps : List Part) (st : List NP) (i j : Nat) : Part := kLt C.w C.S (luK st) C.Bs (C.ks ps) C.nr i j
abbrev KC.ed (C : KC) (i j : Nat) : Prop := Ed C.Bs.length C.root C.up i j
def Und (C : KC) : (Nat → Prop) → List Chg → Prop
  | _, [] => True
  | K, .part k ws :: r => (∃ ns, C.nss[k]? = some ns ∧ (⟨ns, ws⟩ : Part).Ok C.S ∧ Bd C.b ⟨ns, ws⟩) ∧ Und C K r
  | K, .name n (some v) :: r => (n < C.S.length ∧ v < sz C.S n) ∧ Und C (fun m => m = n ∨ K m) r
  | K, .name n none :: r => (n < C.S.length ∧ K n) ∧ Und C (fun m => m ≠ n ∧ K m) r
abbrev keysP (st : List NP) : Nat → Prop := fun n => n ∈ st.map (·.1)
structure KFix (C : KC) : Prop where
  rt : Rt C.S.length C.Bs C.ts C.root C.up C.rk
  sz : SzOk C.S
  nb : C.Bs.length ≤ 14
  tl : C.ts.length ≤ 100
  nl : C.nrs.length = C.Bs.length
  nrs : ∀ i k, k ∈ C.nr i ↔ C.ed k i
  nrd : ∀ i, (C.nr i).Nodup
  ll : C.lay.length = C.nss.length
  lay : ∀ q ∈ C.nss.zip C.lay, q.2 < C.Bs.length ∧ ∀ n ∈ q.1, n ∈ bg C.Bs q.2
  b0 : 0 < C.b
  bl : C.b * C.nss.length ≤ 2400
  few : C.nss.length ≤ 60
structure KCore (C : KC) (ps : List Part) (st : List NP) (md : List NP) : Prop where
  nss : ps.map (·.ns) = C.nss
  ok : ∀ p ∈ ps, p.Ok C.S ∧ Bd C.b p
  nd : (st.map (·.1)).Nodup
  sg : ∀ p ∈ st, p.1 < C.S.length ∧ p.2 < sz C.S p.1
  mdn : md.Nodup
  mde : ∀ p ∈ md, C.ed p.1 p.2
  cl : Clo C.Bs.length C.root C.up md
structure KInv (C : KC) (M : KM) : Prop where
  fx : KFix C
  co : KCore C M.ps M.st M.md
  chl : M.ch.length ≤ 10000
  und : Und C (keysP M.st) M.ch.reverse
end LS
namespace LS
open PySem L2 HD PM
structure KA where
  a : Addr
  dx : Addr
  pa : Addr
  wa : Addr
  ka : Addr
  ca : Addr
abbrev KA.l (A : KA) : List Addr := [A.a, A.dx, A.pa, A.wa, A.ka, A.ca]
def kvS (st : List NP) : List (Key × D) := st.map fun p => ((.inl (p.1 : Int) : Key), D.int (p.2 : Nat))
def chD : Chg → D
  | .part k ws => .tup [.str "part", .int (k : Nat), .tup (iD ws)]
  | .name n o => .tup [.str "name", .int (n : Nat), butV o]
def keepF (A : KA) (C : KC) (many : Nat) : List (Str × D) :=
  [("word", .str C.w.s), ("sizes", .tup (nD C.S)), ("parts", .val (.ref A.pa)), ("bags", .tup (fD C.Bs)), ("near", .lst (C.nrs.map fun l => D.lst (nD l))), ("laid", .lst (nD C.lay)), ("worths", .val (.ref A.wa)), ("known", .val (.ref A.ka)), ("many", .int (many : Nat)), ("changes", .val (.ref A.ca))]
def keepC (A : KA) (C : KC) (ps : List Part) (st : List NP) (kvs : List (List Int × D)) (many : Nat) (ch : List Chg) : Cells :=
  [(A.a, .ins "Keeper" A.dx (keepF A C many)), (A.dx, .own A.a), (A.pa, .lst (ps.map dP)), (A.wa, .dk (kvS st)), (A.ka, .dt kvs), (A.ca, .lst (ch.map chD))]
abbrev keepQ (A : KA) (C : KC) (ps : List Part) (st : List NP) (kvs : List (List Int × D)) (many : Nat) (ch : List Chg) : Sl := .reg (.val (.ref A.a)) (keepC A C ps st kvs many ch)
abbrev keepS (A : KA) (C : KC) (M : KM) : Sl := keepQ A C M.ps M.st (kvL (C.lt M.ps M.st) M.md) M.many M.ch
end LS
namespace LS
open PySem L2 HD PM
abbrev KM.grow (M : KM) (md' : List NP) (many' : Nat) : KM := { M with md := md', many := many' }
end LS
namespace LS
open PySem L2 HD PM
def PostAll (S : List Nat) (ps : List Part) (Bs : List (List Nat)) (ts : List (Nat × Nat)) (root : Nat) (up rk : Nat → Nat) : Prop := ∀ nrs : List (List Nat), nrs.length = Bs.length → (∀ i, i < Bs.length → (nrs.getD i []).Perm (nearN ts i)) → PostOk S ps Bs ts nrs root up rk
end LS
namespace LS
namespace V2
open PySem L2 HD PM
theorem lay_lt {Bs : List (List Nat)} {ns : List Nat} (h : ∃ i, i < Bs.length ∧ ∀ n ∈ ns, n ∈ bg Bs i) : layN Bs ns < Bs.length ∧ ∀ n ∈ ns, n ∈ bg Bs (layN Bs ns) := by
  obtain ⟨i, hi, hn⟩ := h
  unfold layN
  generalize hq : (Bs.map fun B => ns.all fun n => decide (n ∈ B)) = q
  have hl : q.length = Bs.length := by rw [← hq, List.length_map]
  have ht : true ∈ q := by
    rw [← hq]
    exact List.mem_map.2 ⟨bg Bs i, bg_mem hi, by rw [List.all_eq_true]; intro n h; exact decide_eq_true (hn n h)⟩
  have h1 : q.idxOf true < q.length := List.idxOf_lt_length_of_mem ht
  refine ⟨by omega, fun n h => ?_⟩
  have h2 : q[q.idxOf true]? = some true := by rw [List.getElem?_eq_getElem h1, List.getElem_idxOf]
  rw [← hq, List.getElem?_map] at h2
  rw [hq] at h2
  cases h3 : Bs[q.idxOf true]? with
  | none => rw [h3] at h2; cases h2
  | some B =>
    rw [h3] at h2
    have h4 : (ns.all fun n => decide (n ∈ B)) = true := Option.some.inj h2
    have h5 := of_decide_eq_true (List.all_eq_true.1 h4 n h)
    have e : bg Bs (q.idxOf true) = B := by
      show Bs.getD _ [] = B
      rw [List.getD_eq_getElem?_getD, h3]
      rfl
    rw [e]
    exact h5
theorem post_all' {S : List Nat} {ps : List Part} {Bs : List (List Nat)} {ts : List (Nat × Nat)} {root : Nat} {up rk : Nat → Nat} (h : RTree S.length (gsOf ps) Bs ts root up rk) (hS : SzOk S) (ok : ∀ p ∈ ps, p.Ok S) (bd : ∃ b, 0 < b ∧ b * ps.length ≤ 2400 ∧ ∀ p ∈ ps, Bd b p) (many : ps.length ≤ 60)
    (hb : Bs.length ≤ 14) (tl : ts.length ≤ 100) (hlt : ∀ t ∈ ts, t.1 < t.2) : PostAll S ps Bs ts root up rk := fun nrs hl hp => by
  refine ⟨h.rt, ⟨fun n hn => ?_, ok, fun p hp => lay_lt (h.part p.ns (List.mem_map.2 ⟨p, hp, rfl⟩)), fun i k => ?_, fun i => ?_⟩, ⟨hS.small, hS.few, bd, many⟩, hS, hl, hb, tl⟩
  · exact hS.pos _ (by unfold sz; rw [List.getD_eq_getElem?_getD, List.getElem?_eq_getElem hn]; exact List.getElem_mem hn)
  · show k ∈ nrs.getD i [] ↔ _
    by_cases c : i < Bs.length
    · rw [(hp i c).mem_iff, h.rt.tr.near]
      exact ⟨PM.Tr.Ed.symm, PM.Tr.Ed.symm⟩
    · rw [List.getD_eq_getElem?_getD, List.getElem?_eq_none (by omega)]
      exact ⟨fun z => (nomatch z), fun z => absurd (h.rt.tr.ed_lt z).2.1 c⟩
  · show (nrs.getD i []).Nodup
    by_cases c : i < Bs.length
    · exact (hp i c).nodup_iff.2 (near_nodup h.rt.tr.nd hlt)
    · rw [List.getD_eq_getElem?_getD, List.getElem?_eq_none (by omega)]
      exact List.nodup_nil
theorem post_all {S : List Nat} {ps : List Part} {Bs : List (List Nat)} {ts : List (Nat × Nat)} {root : Nat} {up rk : Nat → Nat} (h : RTree S.length (gsOf ps) Bs ts root up rk) (hS : SzOk S) (ok : ∀ p ∈ ps, p.Ok S) (bd : ∀ p ∈ ps, Bd 40 p) (many : ps.length ≤ 60)
    (hb : Bs.length ≤ 14) (tl : ts.length ≤ 100) (hlt : ∀ t ∈ ts, t.1 < t.2) : PostAll S ps Bs ts root up rk := post_all' h hS ok ⟨40, by decide, by omega, bd⟩ many hb tl hlt
end V2
end LS
namespace LS
open PySem L2 HD PM
abbrev kC0 (w : Wd) (S : List Nat) (ps : List Part) (Bs : List (List Nat)) (ts : List NP) (nrs : List (List Nat)) (root : Nat) (up rk : Nat → Nat) (b : Nat) : KC :=
  { w := w, S := S, Bs := Bs, ts := ts, nrs := nrs, nss := ps.map (·.ns), lay := ps.map fun p => layN Bs p.ns, root := root, up := up, rk := rk, b := b }
abbrev kM0 (ps : List Part) : KM := { ps := ps, st := [], md := [], many := 0, ch := [] }
theorem kInv0 {w : Wd} {S : List Nat} {ps : List Part} {Bs : List (List Nat)} {ts : List NP} {nrs : List (List Nat)} {root : Nat} {up rk : Nat → Nat} {b : Nat} (P : PostOk S ps Bs ts nrs root up rk) (hok : ∀ p ∈ ps, p.Ok S) (b0 : 0 < b) (bl : b * ps.length ≤ 2400) (hb : ∀ p ∈ ps, Bd b p) : KInv (kC0 w S ps Bs ts nrs root up rk b) (kM0 ps) := by
  refine ⟨⟨P.rt, P.sz, P.nb, P.tl, P.nl, P.la.nrs, P.la.nrd, by rw [List.length_map, List.length_map], fun q hq => ?_, b0, by rw [List.length_map]; exact bl, by rw [List.length_map]; exact P.bd.many⟩, ⟨rfl, fun p hp => ⟨hok p hp, hb p hp⟩, List.nodup_nil, (fun p hp => nomatch hp), List.nodup_nil, (fun p hp => nomatch hp), fun p hp => nomatch hp⟩, Nat.zero_le _, True.intro⟩
  have hq : q ∈ (ps.map (·.ns)).zip (ps.map fun p => layN Bs p.ns) := hq
  rw [List.zip_map'] at hq
  obtain ⟨p, hp, rfl⟩ := List.mem_map.1 hq
  exact P.la.lay p hp
def kf4 (w : Wd) (S : List Nat) (Bs : List (List Nat)) (pa : Addr) : List (Str × D) := [("word", .str w.s), ("sizes", .tup (nD S)), ("parts", .val (.ref pa)), ("bags", .tup (fD Bs))]
theorem putA {a : Addr} {x y : OC} {rest : Cells} (h : a ∉ rest.map (·.1)) : putC ((a, x) :: rest) a y = (a, y) :: rest := by
  show (if a = a then (a, y) else (a, x)) :: putC rest a y = _
  rw [if_pos rfl, putC_out h]
def sp_Keeper_init : DSpec := fun args Q _ => ∃ (a dx : Addr) (w : Wd) (S : List Nat) (ps : List Part) (Bs : List (List Nat)) (ts : List NP) (root : Nat) (up rk : Nat → Nat) (b : Nat), args = [newS "Keeper" a dx, dW w, .ext (dSh S ps), .ext (dTree Bs ts)] ∧ a ≠ dx ∧
  NsOk S ps ∧ BTree S.length (gsOf ps) Bs ts ∧ PostAll S ps Bs ts root up rk ∧ ts.length ≤ 100 ∧ Bs.length ≤ 14 ∧ (∀ p ∈ ps, p.Ok S) ∧ 0 < b ∧ b * ps.length ≤ 2400 ∧ (∀ p ∈ ps, Bd b p) ∧
  ∀ (A : KA) nrs, A.a = a → A.dx = dx → A.l.Nodup → PostOk S ps Bs ts nrs root up rk → KInv (kC0 w S ps Bs ts nrs root up rk b) (kM0 ps) → Q (.ext .non) [keepS A (kC0 w S ps Bs ts nrs root up rk b) (kM0 ps), dW w, .ext (dSh S ps), .ext (dTree Bs ts)]
end LS
namespace LS
namespace V2
open PySem L2 HD PM
def D.nm : Nat → D → Bool
  | _, .int _ => true
  | k + 1, .lst ds => decide (ds.length ≤ 100000) && ds.all (D.nm k)
  | k + 1, .tup ds => decide (ds.length ≤ 100000) && ds.all (D.nm k)
  | _, _ => false
end V2
end LS
namespace LS
open PM PM.Tr Classical
open HD (luK ptK drK)
inductive Deed where
  | put (k : Nat) (ws : List Int)
  | free (n : Nat)
  | back
  | settle (n v : Nat)
abbrev Tri := List Part × (Nat → Option Nat) × List Chg
def updS (σ : Nat → Option Nat) (n : Nat) (o : Option Nat) : Nat → Option Nat := fun m => if m = n then o else σ m
def setP2 (C : KC) (ps : List Part) (k : Nat) (ws : List Int) : List Part := ps.set k ⟨C.nss.getD k [], ws⟩
def dUndo (C : KC) (t : Tri) : Tri := match t.2.2.getLast? with
  | some (.part k ws) => (setP2 C t.1 k ws, t.2.1, t.2.2.dropLast)
  | some (.name n o) => (t.1, updS t.2.1 n o, t.2.2.dropLast)
  | none => t
def dStep (C : KC) (t : Tri) : Deed → Tri
  | .put k ws => (setP2 C t.1 k ws, t.2.1, t.2.2 ++ [.part k (t.1.getD k ⟨[], []⟩).ws])
  | .settle n v => (t.1, updS t.2.1 n (some v), t.2.2 ++ [.name n (t.2.1 n)])
  | .free n => (t.1, updS t.2.1 n none, t.2.2 ++ [.name n (t.2.1 n)])
  | .back => dUndo C t
end LS
namespace LS
namespace V2
open PySem L2 HD PM
structure MA where
  p : Addr
  pa : Addr
  wa : Addr
  ca : Addr
  ka : Addr
abbrev MA.l (A : MA) : List Addr := [A.p, A.pa, A.wa, A.ca, A.ka]
end V2
end LS
namespace LS
open PM PM.Tr Classical
theorem hang_up {ts : List (Nat × Nat)} {sm : List Nat} {top : Nat} {up rk : Nat → Nat} (hup : ∀ i ∈ sm, i = top ∨ (up i ∈ sm ∧ rk (up i) < rk i ∧ up i ∈ nearN ts i ∧ i ∈ nearN ts (up i))) : HangN ts sm := by
  intro h hh y hy
  have hm : h ∈ sm := List.mem_of_mem_head? hh
  have toT : ∀ k i, rk i ≤ k → i ∈ sm → Lnk ts sm h i → Lnk ts sm h top := by
    intro k
    induction k with
    | zero =>
      intro i hk hi hL
      rcases hup i hi with rfl | ⟨h1, h2, _⟩
      · exact hL
      · omega
    | succ k ih =>
      intro i hk hi hL
      rcases hup i hi with rfl | ⟨h1, h2, h3, _⟩
      · exact hL
      · exact ih (up i) (by omega) h1 (.step hL h3 h1)
  have hT : Lnk ts sm h top := toT _ h (Nat.le_refl _) hm .base
  have down : ∀ k y, rk y ≤ k → y ∈ sm → Lnk ts sm h y := by
    intro k
    induction k with
    | zero =>
      intro y hk hy
      rcases hup y hy with rfl | ⟨h1, h2, _⟩
      · exact hT
      · omega
    | succ k ih =>
      intro y hk hy
      rcases hup y hy with rfl | ⟨h1, h2, _, h4⟩
      · exact hT
      · exact .step (ih (up y) (by omega) h1) h4 hy
  exact down _ y (Nat.le_refl _) hy
theorem TR.hang {m root : Nat} {ts : List (Nat × Nat)} {up rk : Nat → Nat} (h : TR m ts root up rk) : HangN ts (List.range m) := by
  refine hang_up (top := root) (up := up) (rk := rk) fun i hi => ?_
  have hi := List.mem_range.1 hi
  by_cases e : i = root
  · exact .inl e
  · obtain ⟨h1, h2⟩ := h.hup i hi e
    have ed : Ed m root up i (up i) := .inl ⟨hi, e, rfl⟩
    exact .inr ⟨List.mem_range.2 h1, h2, h.near.2 ed, h.near.2 ed.symm⟩
theorem Rt.hang {N root : Nat} {Bs : List (List Nat)} {ts : List (Nat × Nat)} {up rk : Nat → Nat} (h : Rt N Bs ts root up rk) (n : Nat) : HangN ts ((List.range Bs.length).filter fun i => decide (n ∈ bg Bs i)) := by
  obtain ⟨top, ht⟩ := h.rip n
  refine hang_up (top := top) (up := up) (rk := rk) fun i hi => ?_
  obtain ⟨hi, hn⟩ := List.mem_filter.1 hi
  have hi := List.mem_range.1 hi
  have hn : n ∈ bg Bs i := by simpa using hn
  rcases ht i hi hn with e | ⟨e, hu⟩
  · exact .inl e
  · obtain ⟨h1, h2⟩ := h.tr.hup i hi e
    have ed : Ed Bs.length root up i (up i) := .inl ⟨hi, e, rfl⟩
    exact .inr ⟨List.mem_filter.2 ⟨List.mem_range.2 h1, by simpa using hu⟩, h2, h.tr.near.2 ed, h.tr.near.2 ed.symm⟩
theorem TR.count {m root : Nat} {ts : List (Nat × Nat)} {up rk : Nat → Nat} (h : TR m ts root up rk) : ts.length + 1 = m := by
  classical
  have hc : ∀ t ∈ ts, ∃ c, c < m ∧ c ≠ root ∧ (t = (c, up c) ∨ t = (up c, c)) := fun t ht => by
    rcases (h.ed_ts.2 (.inl ht) : Ed m root up t.1 t.2) with ⟨a, a', b⟩ | ⟨a, a', b⟩
    · exact ⟨t.1, a, a', .inl (Prod.ext rfl b.symm)⟩
    · exact ⟨t.2, a, a', .inr (Prod.ext b.symm rfl)⟩
  let ch : Nat × Nat → Nat := fun t => if ht : t ∈ ts then (hc t ht).choose else 0
  have hch : ∀ t ∈ ts, ch t < m ∧ ch t ≠ root ∧ (t = (ch t, up (ch t)) ∨ t = (up (ch t), ch t)) := fun t ht => by
    have e : ch t = (hc t ht).choose := dif_pos ht
    rw [e]
    exact (hc t ht).choose_spec
  have nd : (ts.map ch).Nodup := by
    unfold List.Nodup
    rw [List.pairwise_map]
    refine List.Pairwise.imp_of_mem (fun {t q} ht hq ne e => ?_) h.nd
    obtain ⟨_, _, h1⟩ := hch t ht
    obtain ⟨_, _, h2⟩ := hch q hq
    rw [e] at h1
    rcases h1 with h1 | h1 <;> rcases h2 with h2 | h2
    · exact ne (h1.trans h2.symm)
    · refine h.one t ht ?_
      have : (t.2, t.1) = q := Prod.ext ((congrArg Prod.snd h1).trans (congrArg Prod.fst h2).symm) ((congrArg Prod.fst h1).trans (congrArg Prod.snd h2).symm)
      rw [this]
      exact hq
    · refine h.one t ht ?_
      have : (t.2, t.1) = q := Prod.ext ((congrArg Prod.snd h1).trans (congrArg Prod.fst h2).symm) ((congrArg Prod.fst h1).trans (congrArg Prod.snd h2).symm)
      rw [this]
      exact hq
    · exact ne (h1.trans h2.symm)
  have l1 := nd_sub_len (a := root :: ts.map ch) (b := List.range m) (List.nodup_cons.2 ⟨fun z => by
    obtain ⟨t, ht, e⟩ := List.mem_map.1 z
    exact (hch t ht).2.1 e, nd⟩) fun x hx => by
    rcases List.mem_cons.1 hx with rfl | hx
    · exact List.mem_range.2 h.rt
    · obtain ⟨t, ht, rfl⟩ := List.mem_map.1 hx
      exact List.mem_range.2 (hch t ht).1
  have l2 := nd_sub_len (a := List.range m) (b := root :: ts.map ch) List.nodup_range fun x hx => by
    have hx := List.mem_range.1 hx
    by_cases e : x = root
    · rw [e]; exact List.mem_cons_self
    · refine List.mem_cons_of_mem _ ?_
      have r1 := (h.hup x hx e).2
      have key : ∀ t ∈ ts, t = (x, up x) ∨ t = (up x, x) → x ∈ ts.map ch := fun t ht ht2 => by
        obtain ⟨c1, c2, c3⟩ := hch t ht
        have r2 := (h.hup _ c1 c2).2
        refine List.mem_map.2 ⟨t, ht, ?_⟩
        generalize ch t = c at *
        rcases ht2 with rfl | rfl <;> rcases c3 with c3 | c3
        · exact (Prod.mk.inj c3).1.symm
        · obtain ⟨q1, q2⟩ := Prod.mk.inj c3
          rw [q2] at r1; rw [← q1] at r2; omega
        · obtain ⟨q1, q2⟩ := Prod.mk.inj c3
          rw [q1] at r1; rw [← q2] at r2; omega
        · exact (Prod.mk.inj c3).2.symm
      rcases h.ed_ts.1 (.inl ⟨hx, e, rfl⟩ : Ed m root up x (up x)) with z | z
      · exact key _ z (.inl rfl)
      · exact key _ z (.inr rfl)
  rw [List.length_cons, List.length_map, List.length_range] at l1 l2
  omega
end LS
namespace LS
namespace V2
namespace GYT
open PySem L2 HD PM
theorem trst_btree {S : List Nat} {ps : List Part} {Bs : List (List Nat)} {ts : List NP} (h : TrSt S ps Bs ts) (hlt : ∀ t ∈ ts, t.1 < t.2) (hs : ts.Pairwise pLe) (hb : Bs.length ≤ 12) (h24 : S.length ≤ 24) : BTree S.length (gsOf ps) Bs ts := by
  have hbag := fun k => LS.TrSt.bag h k
  have hl := LS.TrSt.lt h
  obtain ⟨root, up, rk, hR⟩ := h
  have tr := hR.rt.tr
  refine ⟨hb, fun B hB => ?_, ⟨TR.count tr, by omega, fun t ht => ⟨hlt t ht, (hl t ht).2⟩, ?_, TR.hang tr⟩, fun ns hns => ?_, fun x hx => ⟨?_, Rt.hang hR.rt x⟩⟩
  · obtain ⟨k, hk, rfl⟩ := List.getElem_of_mem hB
    have e : bg Bs k = Bs[k] := by
      show Bs.getD k [] = _
      rw [List.getD_eq_getElem?_getD, List.getElem?_eq_getElem hk]
      rfl
    obtain ⟨b1, b2, b3⟩ := hbag k
    rw [e] at b1 b2 b3
    exact ⟨b1, by omega, b2⟩
  · refine List.Pairwise.imp_of_mem (fun {a b} ha hb hab => ?_) (hs.and tr.nd)
    obtain ⟨h1, h2⟩ := hab
    rcases h1 with h1 | ⟨h1, h3⟩
    · exact .inl h1
    · refine .inr ⟨h1, Nat.lt_of_le_of_ne h3 fun e => h2 (Prod.ext h1 e)⟩
  · obtain ⟨i, hi, hm⟩ := hR.part ns hns
    exact ⟨_, bg_mem hi, hm⟩
  · obtain ⟨i, hi, hm⟩ := hR.name x hx
    exact ⟨i, List.mem_range.2 hi, hm⟩
end GYT
end V2
end LS
namespace HD
open PySem L2
section
variable {G : GG} {N : List Str} {sc : SC} {k : Nat} {a b : Expr} {pos : Pos}
def sParO (i j : Nat) (t : DTA) : DTS := fun Ex E env => t Ex env fun xs env1 => match xs with
  | [x, y] => x.plain ∧ y.plain ∧ E.nx ((env1.set i x).set j y)
  | _ => False
end
theorem seq_parO (i j : Nat) (t : DTA) (u : DTS) (Ex : DX) (E : DEnds) (env : Env') : sSeq (sParO i j t) u Ex E env = t Ex env fun xs env1 => match xs with
  | [x, y] => x.plain ∧ y.plain ∧ u Ex E ((env1.set i x).set j y)
  | _ => False := rfl
end HD
namespace LS
namespace V2
namespace Y5
open PySem L2 HD PM BT
local macro_rules | `(tactic| and_intros) => `(tactic| try simp -dsimp only [↓sIf, ↓sRet, ↓retD_ext, ↓retD_lst, ↓retD_al, ↓sSet, ↓sSetE, ↓sAsg, ↓sDrop, ↓sNext, ↓sFor, ↓sRetN, ↓sCont, ↓sBreak, ↓dTest, ↓dOp, ↓dC, ↓dCons, ↓dNil, ↓dTup, ↓dLst, ↓frzDs, ↓frzD_ext, ↓frzD_lst, ↓frzD_al, ↓wd_ext, ↓wd_lst, ↓wd_al, ↓wds, ↓AtS_ext, ↓AtS_lst, ↓AtL, ↓fAdd, ↓fSub, ↓fMul, ↓fDiv, ↓fMod, ↓fPow, ↓fCmp, ↓fIn, ↓fEq_ii, ↓fEq_ss, ↓fEq_bb, ↓fEq_tt, ↓fEq_ll, ↓fNe_ii, ↓fNe_ss, ↓fNe_bb, ↓fNe_tt, ↓fNe_ll, ↓fIx_l, ↓fIx_t, ↓fIx_k, ↓fIx_f, ↓GetS_some, ↓NatS_some, ↓fSl, ↓fIsN, ↓fNotN, ↓D.knN, ↓dNot, ↓dAnd, ↓dOr, ↓dAndV_w, ↓dOrV_w, ↓dNotV, ↓dIf, ↓dNeg, ↓dChain_w, ↓BlS_bl, ↓dCall_w, ↓dCallJ_w, ↓anyAl, ↓frozs, ↓froz, ↓gSet, ↓gTupD, ↓gsCons, ↓gsNil, ↓dSeq, ↓seqD_tup, ↓seqD_elst, ↓seqD_lst, ↓seqD_al, ↓dRange1, ↓dRange2, ↓dZip, ↓dCB, ↓dLc, ↓dYes, ↓dNoPart, ↓dPart, ↓dSl, ↓fLen, ↓fMin, ↓fMax, ↓fSum, ↓fAll, ↓fAny, ↓fSorted, ↓fTuple, ↓fList, ↓dRg1, ↓dRg2, ↓dLstRg, ↓dTupRg, ↓dIndex, ↓fIdx, ↓dAppend_w, ↓dExtend_w, ↓extD_lst, ↓dPopAt_w, ↓popD_int, ↓dPop_w, ↓mutD_w, ↓sSetItem_w, ↓setD_int, ↓dSortSet, ↓dTable_w, ↓wipeE, finals1, finals2, finals3, finals4, finals5, finals6, fin1_ext, fin1_lst, List.getElem?_cons_zero, List.getElem?_cons_succ, List.getElem?_nil, List.set_cons_zero, List.set_cons_succ, List.cons_append, List.nil_append, List.append_nil, List.replicate_succ, List.replicate_zero, List.map_cons, List.map_nil, List.length_cons, List.length_nil, true_and, and_true, ite_true, ite_false, if_true, if_false, Bool.false_eq_true, decide_eq_true_eq, Sl.plain, D.isSq, eq_self_iff_true, forall_const, reduceIte, true_or, or_true, atI_0, atI_1, atI_2, atI_3, ixN_0, ixN_1, ixN_2, AtS_ext, AtS_lst, FzS_lst, FzS_ext, GetS_some, NatS_some, ↓fIsi1, ↓fIsi2, BoolS_some, HD.kb_non_tuple, HD.kb_non_list, HD.kb_non_bool, HD.kb_non_int, HD.kb_non_str, HD.kb_bl_tuple, HD.kb_bl_list, HD.kb_bl_bool, HD.kb_bl_int, HD.kb_bl_str, HD.kb_int_tuple, HD.kb_int_list, HD.kb_int_bool, HD.kb_int_int, HD.kb_int_str, HD.kb_str_tuple, HD.kb_str_list, HD.kb_str_bool, HD.kb_str_int, HD.kb_str_str, HD.kb_lst_tuple, HD.kb_lst_list, HD.kb_lst_bool, HD.kb_lst_int, HD.kb_lst_str, HD.kb_tup_tuple, HD.kb_tup_list, HD.kb_tup_bool, HD.kb_tup_int, HD.kb_tup_str, ↓sFz_w, ↓FzS_lst, ↓FzS_ext, ↓dSortSetL, ↓fAbs, ↓fInt, ↓fRepr, ↓fLtT, ↓sRaise, ↓sTryKeep, ↓dCallV_w, ↓dMeth, ↓fCount, ↓fSplit, ↓seq_setE, ↓seq_set, ↓seq_drop, ↓seq_asg, ↓seq_if, ↓seq_for, ↓dStep, ↓fStep, ↓fMulT, ↓fIsB, ↓fNotB, ↓sPar, ↓dEnum, ↓dListZip, ↓dNest, ↓sSeal, ↓dNApp, ↓retD_reg, ↓dLenSet, ↓fSum2, ↓seq_putD, ↓seq_sealD, ↓dDIn, ↓dDGet, ↓sPutD, ↓dDNew, ↓dDOne, ↓sSealD, ↓dKeys, ↓keyS_dk, ↓dExtT, ↓fSortT, ↓fMinP, ↓dRemove, ↓dDInT, ↓dDGetT, ↓sPutDT, ↓dDNewT, ↓sSealDT, ↓dKeysT, ↓keyST_dt, ↓fSortK, ↓seq_putDT, ↓seq_sealDT, ↓dVarR_w, ↓dAttr, ↓dAppR, ↓dExtR_w, ↓dExtTR_w, ↓dClrR, ↓dPopR_w, ↓dIxR_w, ↓dDGetR, ↓dDInR, ↓dGet2R, ↓dPop1R, ↓dPop2R, ↓dDGetTR, ↓dDInTR, ↓dPop1TR, ↓dCallM, ↓dMethO, ↓dMake, ↓dMoveR, ↓dPtr, ↓sAttr, ↓sSetR, ↓sPutR, ↓sPutTR, ↓sSetA_w, ↓sSetG_w, ↓seq_setG, ↓seq_setA, ↓seq_attr, ↓seq_setR, ↓seq_putR, ↓seq_putTR, ↓RegS_reg, ↓CellS_some, ↓RefS_reg, ↓RefS_ar, ↓cellS_ar, ↓wd_ar, ↓seqD_ar, ↓lstO_lst, ↓insO_ins, ↓dkO_dk, ↓dkO_lk, ↓dtO_dt, ↓dtO_lk, ↓dkW_dk, ↓dtW_dt, ↓stoS_ext, ↓stoS_reg, ↓stoS_lstT, ↓stoS_lstF, ↓stoS_al, ↓ptrD_ref, ↓ptrD_int, ↓ptrD_str, ↓ptrD_bl, ↓ptrD_non, ↓ptrD_tup, ↓ptrD_tk, ↓ptrD_lst, ↓ptrD_fz, ↓setGS_lst, ↓setGS_reg, ↓setAS_ar, ↓setAS_ext, ↓intS_int, ↓tupS_tup, ↓lstS_lst, ↓lstK, ↓dkK, ↓dtK, ↓retD_reg, ↓dSortSetB, ↓fSortD, ↓fInD, ↓dCallD, ↓regC_reg, ↓dMoveL, ↓dMoveR_w, ↓dDictP, ↓froz_lst, ↓froz_ext, ↓dUpdTR, ↓dUpdKR, ↓dDictZipK, ↓dDictC, ↓gLstD, ↓dClear, ↓fStr, ↓dListItems, ↓dLenK, ↓dSortKI, ↓dInC, ↓fMinT, ↓fMaxT, ↓dListKT, ↓seq_parO, ↓sParO, ↓dDisp, ↓dispF, ↓dv0, ↓dw0, ↓dv1, ↓dw1, ↓dv2, ↓dw2, ↓dv3, ↓dw3, ↓dv4, ↓dw4, ↓dv5, ↓dw5, ↓dv6, ↓dw6, ↓dv7, ↓dw7, ↓dv8, ↓dw8, ↓dv9, ↓dw9, ↓dv10, ↓dw10, ↓dv11, ↓dw11, ↓dv12, ↓dw12, ↓dv13, ↓dw13, ↓dv14, ↓dw14, ↓dv15, ↓dw15, ↓dv16, ↓dw16, ↓dv17, ↓dw17, ↓dv18, ↓dw18, ↓dv19, ↓dw19])
abbrev sp_is_tie := BT.sp_is_tie
abbrev t_is_tie := BT.t_is_tie
theorem m_is_tie : Meets t_is_tie 2 0 sp_is_tie := BT.m_is_tie
abbrev sp_are_bags := BT.sp_are_bags
abbrev t_are_bags := BT.t_are_bags
theorem m_are_bags : Meets t_are_bags 2 1 sp_are_bags := BT.m_are_bags
abbrev sp_is_tree := BT.sp_is_tree
abbrev t_is_tree := BT.t_is_tree
theorem m_is_tree : Meets t_is_tree 3 2 sp_is_tree := BT.m_is_tree
abbrev sp_is_bag_tree := BT.sp_is_bag_tree
abbrev t_is_bag_tree := BT.t_is_bag_tree
theorem m_is_bag_tree : Meets t_is_bag_tree 2 8 sp_is_bag_tree := BT.m_is_bag_tree
def sp_Keeper_init : DSpec := fun args Q X => (∃ (a dx : Addr) (w : Wd) (S : List Nat) (ps : List Part) (d : D) (k : Nat), args = [newS "Keeper" a dx, dW w, .ext (dSh S ps), .ext d] ∧ a ≠ dx ∧ NsOk S ps ∧ D.pl k d = true ∧ ¬ BtD S ps d ∧ X "NoTree" [newS "Keeper" a dx, dW w, .ext (dSh S ps), .ext d]) ∨ LS.sp_Keeper_init args Q X
def e1_Keeper_init : DT :=
    (dCall sp_near_of (dCons (dOp fIx (dVar 3) (dC (.int 1))) (dCons (dVar 4) dNil)))
def e2_Keeper_init : DT :=
    (dCall sp_bag_of (dCons (dVar 3) (dCons (dOp fIx (dVar 5) (dC (.int 0))) dNil)))
def t_Keeper_init : DTS :=
    (sSeq (sIf (dNot (dTest (dCall sp_is_bag_tree (dCons (dVar 2) (dCons (dVar 3) dNil))))) (sRaise "NoTree") sNext)
    (sSeq (sAttr "Keeper" "word" true (dVarR 0) (dVar 1))
    (sSeq (sAttr "Keeper" "sizes" true (dVarR 0) (dOp fIx (dVar 2) (dC (.int 0))))
    (sSeq (sAttr "Keeper" "parts" false (dVarR 0) (dCB fList (dCons (dOp fIx (dVar 2) (dC (.int 1))) dNil)))
    (sSeq (sAttr "Keeper" "bags" true (dVarR 0) (dOp fIx (dVar 3) (dC (.int 0))))
    (sSeq (sAttr "Keeper" "near" true (dVarR 0) (dLc (dRange1 (dCons (dCB fLen (dCons (dOp fIx (dVar 3) (dC (.int 0))) dNil)) dNil)) (gSet 4) dYes e1_Keeper_init [4]))
    (sSeq (sAttr "Keeper" "laid" true (dVarR 0) (dLc (dSeq (dOp fIx (dVar 2) (dC (.int 1)))) (gSet 5) dYes e2_Keeper_init [5]))
    (sSeq (sAttr "Keeper" "worths" false (dVarR 0) dDNew)
    (sSeq (sAttr "Keeper" "known" false (dVarR 0) dDNewT)
    (sSeq (sAttr "Keeper" "many" true (dVarR 0) (dC (.int 0)))
    (sAttr "Keeper" "changes" false (dVarR 0) (dLst dNil))))))))))))
theorem m_Keeper_init : Meets t_Keeper_init 4 2 sp_Keeper_init := by
  rintro args Qd Xd (⟨a, dx, w, S, ps, d, k, rfl, nad, hns, hpl, hbd, hX⟩ | ⟨a, dx, w, S, ps, Bs, ts, root, up, rk, b, rfl, nad, hns, hbt, hP, htl, hb, hok, b0, bl, hbd, hQ⟩)
  · show t_Keeper_init _ _ [_, _, _, _, .un, .un]
    unfold t_Keeper_init
    and_intros
    refine ⟨S, ps, d, k, rfl, hns, hpl, fun b fin hb => ?_⟩
    and_intros
    have eb : b = false := by
      rw [Bool.eq_false_iff]
      exact fun z => hbd (hb.1 z)
    rw [eb, if_pos (by decide)]
    show Xd _ [fin1 (newS "Keeper" a dx) (some (newS "Keeper" a dx)), _, _, _]
    rw [show fin1 (newS "Keeper" a dx) (some (newS "Keeper" a dx)) = newS "Keeper" a dx from if_pos ⟨rfl, rfl⟩]
    exact hX
  show t_Keeper_init _ _ [_, _, _, _, .un, .un]
  unfold t_Keeper_init
  and_intros
  refine ⟨S, ps, dTree Bs ts, 3, rfl, hns, pl_tree Bs ts (by omega) (fun B hb => Nat.le_trans (hbt.bag B hb).2.1 (by decide)) (by omega), fun bb fin hbb => ?_⟩
  and_intros
  rw [hbb.2 ⟨Bs, ts, rfl, hbt⟩, if_neg (by decide)]
  unfold dTree dSh
  have n1 : a ∉ [dx] := fun z => nad (List.mem_singleton.1 z)
  refine cellS_i (if_pos rfl) ?_
  and_intros
  refine ⟨by decide, fun _ => ?_⟩
  rw [putA n1, putFD_app (by rfl), List.nil_append]
  refine cellS_i (if_pos rfl) ?_
  and_intros
  refine ⟨show (1 : Nat) < 1000 by decide, fun _ => ?_⟩
  rw [putA n1, putFD_app (by rfl)]
  intro pa
  refine cellS_i (if_pos rfl) ?_
  and_intros
  refine ⟨show (2 : Nat) < 1000 by decide, fun hpa => ?_⟩
  have p1 : a ≠ pa := fun z => hpa a List.mem_cons_self (by rw [z]; exact List.mem_cons_self)
  have p2 : dx ≠ pa := fun z => hpa dx (List.mem_cons_of_mem _ List.mem_cons_self) (by rw [z]; exact List.mem_cons_self)
  rw [putA n1, putFD_app (by rfl)]
  have n2 : a ∉ [dx, pa] := fun z => (List.mem_cons.1 z).elim nad fun z => p1 (List.mem_singleton.1 z)
  and_intros
  refine cellS_i (if_pos rfl) ?_
  and_intros
  refine ⟨show (3 : Nat) < 1000 by decide, fun _ => ?_⟩
  rw [putA (by exact n2), putFD_app (by rfl)]
  and_intros
  rw [fD_len, rgD_nat]
  refine ⟨⟨by omega, by omega⟩, ?_⟩
  refine lc_ind (fun k : Nat => D.int (k : Nat)) (fun xs acc env => ∃ nrs : List (List Nat), env = [.reg (.val (.ref a)) [(a, .ins "Keeper" dx (kf4 w S Bs pa)), (dx, .own a), (pa, .lst (ps.map dP))], dW w, .ext (.tup [.tup (nD S), dPs ps]), .ext (.tup [.tup (fD Bs), .tup (ts.map tieD)]), .un, .un] ∧ acc = nrs.map (fun l => D.lst (nD l)) ∧ List.range Bs.length = List.range nrs.length ++ xs ∧ ∀ i, i < nrs.length → (nrs.getD i []).Perm (nearN ts i)) ?_ ?_ (List.range Bs.length) [] _ ⟨[], rfl, rfl, rfl, fun i hi => absurd hi (Nat.not_lt_zero _)⟩
  rotate_left
  · rintro i xs acc env N ⟨nrs, rfl, rfl, hr, hp⟩ hN
    have hlen := congrArg List.length hr
    rw [List.length_append, List.length_range, List.length_range, List.length_cons] at hlen
    have ei : i = nrs.length := by
      have h1 : (List.range Bs.length)[nrs.length]? = some i := by rw [hr, List.getElem?_append_right (by rw [List.length_range]; exact Nat.le_refl _), List.length_range, Nat.sub_self]; rfl
      rw [List.getElem?_range (by omega)] at h1
      exact (Option.some.inj h1).symm
    refine ⟨True.intro, by rw [List.length_map]; exact Nat.lt_of_le_of_lt (by omega : _ ≤ 100) (by decide), ?_⟩
    unfold e1_Keeper_init
    and_intros
    refine ⟨ts, i, rfl, htl, fun l b fin hl _ => ?_⟩
    and_intros
    refine hN _ _ ⟨nrs ++ [l], rfl, by rw [List.map_append]; rfl, ?_, fun k hk => ?_⟩
    · rw [List.length_append, List.length_singleton, List.range_succ, List.append_assoc, hr, ei]
      rfl
    · rw [List.length_append, List.length_singleton] at hk
      by_cases e : k < nrs.length
      · rw [List.getD_eq_getElem?_getD, List.getElem?_append_left e, ← List.getD_eq_getElem?_getD]
        exact hp k e
      · have ek : k = nrs.length := by omega
        rw [List.getD_eq_getElem?_getD, List.getElem?_append_right (by omega), ek, Nat.sub_self]
        rw [ei] at hl
        exact hl
  rintro acc env ⟨nrs, rfl, rfl, hr, hp⟩
  refine ⟨True.intro, fun b1 => ?_⟩
  have hnl : nrs.length = Bs.length := by
    have := congrArg List.length hr
    rw [List.length_append, List.length_range, List.length_range, List.length_nil] at this
    omega
  have P := hP nrs hnl fun i hi => hp i (by omega)
  and_intros
  refine cellS_i (if_pos rfl) ?_
  and_intros
  refine ⟨show (4 : Nat) < 1000 by decide, fun _ => ?_⟩
  rw [putA (by exact n2), putFD_app (by rfl)]
  unfold dPs
  and_intros
  refine lc_map dP (fun p => D.int (layN Bs p.ns : Nat)) True.intro ps (Nat.le_trans P.bd.many (by decide)) (fun p hpp R hR => ?_) fun b2 => ?_
  · have hl := P.la.lay p hpp
    have ok := hok p hpp
    have hns' := nd_sub_len (b := List.range S.length) (ok.rise.imp fun h => Nat.ne_of_lt h) fun x hx => List.mem_range.2 (ok.lt x hx)
    rw [List.length_range] at hns'
    have := hns.few
    unfold e2_Keeper_init dP
    and_intros
    refine ⟨Bs, _, p.ns, rfl, by omega, by omega, ⟨_, bg_mem hl.1, hl.2⟩, fun fin => ?_⟩
    and_intros
    exact hR
  and_intros
  refine cellS_i (if_pos rfl) ?_
  and_intros
  refine ⟨show (5 : Nat) < 1000 by decide, fun _ => ?_⟩
  rw [putA (by exact n2), putFD_app (by rfl)]
  and_intros
  intro wa
  refine cellS_i (if_pos rfl) ?_
  and_intros
  refine ⟨show (6 : Nat) < 1000 by decide, fun hwa => ?_⟩
  have w1 : a ≠ wa := fun z => hwa a (by simp) (by rw [z]; exact List.mem_cons_self)
  have w2 : dx ≠ wa := fun z => hwa dx (by simp) (by rw [z]; exact List.mem_cons_self)
  have w3 : pa ≠ wa := fun z => hwa pa (by simp) (by rw [z]; exact List.mem_cons_self)
  rw [putA (by exact n2), putFD_app (by rfl)]
  have n3 : a ∉ [dx, pa, wa] := fun z => by
    simp only [List.mem_cons, List.not_mem_nil, or_false] at z
    rcases z with z | z | z
    · exact nad z
    · exact p1 z
    · exact w1 z
  simp only [List.cons_append, List.nil_append]
  intro ka
  refine cellS_i (if_pos rfl) ?_
  and_intros
  refine ⟨show (7 : Nat) < 1000 by decide, fun hka => ?_⟩
  have k1 : a ≠ ka := fun z => hka a (by simp) (by rw [z]; exact List.mem_cons_self)
  have k2 : dx ≠ ka := fun z => hka dx (by simp) (by rw [z]; exact List.mem_cons_self)
  have k3 : pa ≠ ka := fun z => hka pa (by simp) (by rw [z]; exact List.mem_cons_self)
  have k4 : wa ≠ ka := fun z => hka wa (by simp) (by rw [z]; exact List.mem_cons_self)
  rw [putA (by exact n3), putFD_app (by rfl)]
  have n4 : a ∉ [dx, pa, wa, ka] := fun z => by
    simp only [List.mem_cons, List.not_mem_nil, or_false] at z
    rcases z with z | z | z | z
    · exact nad z
    · exact p1 z
    · exact w1 z
    · exact k1 z
  simp only [List.cons_append, List.nil_append]
  and_intros
  refine cellS_i (if_pos rfl) ?_
  and_intros
  refine ⟨show (8 : Nat) < 1000 by decide, fun _ => ?_⟩
  rw [putA (by exact n4), putFD_app (by rfl)]
  refine ⟨Nat.zero_le _, fun ca => ?_⟩
  refine cellS_i (if_pos rfl) ⟨rfl, show (9 : Nat) < 1000 by decide, fun hca => ?_⟩
  have c1 : a ≠ ca := fun z => hca a (by simp) (by rw [z]; exact List.mem_cons_self)
  have c2 : dx ≠ ca := fun z => hca dx (by simp) (by rw [z]; exact List.mem_cons_self)
  have c3 : pa ≠ ca := fun z => hca pa (by simp) (by rw [z]; exact List.mem_cons_self)
  have c4 : wa ≠ ca := fun z => hca wa (by simp) (by rw [z]; exact List.mem_cons_self)
  have c5 : ka ≠ ca := fun z => hca ka (by simp) (by rw [z]; exact List.mem_cons_self)
  rw [putA (by exact n4), putFD_app (by rfl)]
  have hnd : (⟨a, dx, pa, wa, ka, ca⟩ : KA).l.Nodup := by
    simp [KA.l, nad, p1, p2, w1, w2, w3, k1, k2, k3, k4, c1, c2, c3, c4, c5]
  have hI := kInv0 (w := w) P hok b0 bl hbd
  have hQ' := hQ ⟨a, dx, pa, wa, ka, ca⟩ nrs rfl rfl hnd P hI
  have ec : ∀ fs : List (Str × D), fs = keepF ⟨a, dx, pa, wa, ka, ca⟩ (kC0 w S ps Bs ts nrs root up rk b) 0 → (a, OC.ins "Keeper" dx fs) :: [(dx, OC.own a), (pa, OC.lst (ps.map dP)), (wa, OC.dk []), (ka, OC.dt [])] ++ [(ca, OC.lst [])] = keepC ⟨a, dx, pa, wa, ka, ca⟩ (kC0 w S ps Bs ts nrs root up rk b) ps [] (kvL ((kC0 w S ps Bs ts nrs root up rk b).lt ps []) []) 0 [] := fun fs e => by rw [e]; rfl
  rw [ec _ (by unfold keepF kf4 nD; simp only [List.cons_append, List.nil_append, List.map_map]; rfl)]
  show Qd _ [fin1 (newS "Keeper" a dx) (some (keepS ⟨a, dx, pa, wa, ka, ca⟩ (kC0 w S ps Bs ts nrs root up rk b) (kM0 ps))), _, _, _]
  rw [show fin1 (newS "Keeper" a dx) (some (keepS ⟨a, dx, pa, wa, ka, ca⟩ (kC0 w S ps Bs ts nrs root up rk b) (kM0 ps))) = keepS ⟨a, dx, pa, wa, ka, ca⟩ (kC0 w S ps Bs ts nrs root up rk b) (kM0 ps) from if_pos ⟨rfl, rfl⟩]
  exact hQ'
theorem giveN3 {env : Env'} {a b c : D} {k : Env' → Prop} (h : k env) : giveM [.no, .no, .no] env [.ext a, .ext b, .ext c] k := h
end Y5
end V2
end LS
namespace HD
open PySem PyProof.Rows L2
section
variable {X : Cx} {a b c d : Expr} {ta tb tc td : TE} {pos : Pos}
theorem pt_chain3 {op op' op'' : CmpOp} {r r' r'' : R2} (ho : OpR X (compareOp op) r) (ho' : OpR X (compareOp op') r') (ho'' : OpR X (compareOp op'') r'') (ha : PE X a ta) (hb : PE X b tb) (hc : PE X c tc) (hd : PE X d td)
    (hm : lastMarks [op, op', op''] [b, c, d] = false := by with_unfolding_all rfl) : PT X (.Compare a [op, op', op''] [b, c, d] pos) (tTest (tChain3 r r' r'' ta tb tc td)) := by
  refine ⟨fun pins s σ H Q I h => ?_⟩
  refine isTrue_chain (thn (ha.run pins s σ H _ I h) fun v s1 ⟨x, H1, I1, r1, q1⟩ => test_link (thn (hb.run pins s1 σ H1 _ I1 q1) fun u s2 ⟨y, H2, I2, r2, q2⟩ =>
    thn (ho pins s2 σ H2 x y v u _ I2 r1 r2 q2) fun d s3 ⟨z, H3, I3, r3, k, e, q3⟩ => ?_)) hm
  subst e
  cases r3
  refine wpAny_truthy_bool ?_
  cases k with
  | false =>
    obtain ⟨k', e', q'⟩ := q3
    cases e'
    exact ite_ff ⟨H3, I3, q'⟩
  | true =>
    refine ite_tt (test_link (thn (hc.run pins s3 σ H3 _ I3 q3) fun w' s4 ⟨z', H4, I4, r4, q4⟩ => thn (ho' pins s4 σ H4 y z' u w' _ I4 r2 r4 q4) fun d' s5 ⟨z2, H5, I5, r5, k2, e2, q5⟩ => ?_))
    subst e2
    cases r5
    refine wpAny_truthy_bool ?_
    cases k2 with
    | false =>
      obtain ⟨k', e', q'⟩ := q5
      cases e'
      exact ite_ff ⟨H5, I5, q'⟩
    | true =>
      refine ite_tt (test_last (thn (hd.run pins s5 σ H5 _ I5 q5) fun w2 s6 ⟨z3, H6, I6, r6, q6⟩ => thn (ho'' pins s6 σ H6 z' z3 w' w2 _ I6 r4 r6 q6) fun d'' s7 ⟨z4, H7, I7, r7, k3, e3, q7⟩ => ?_))
      subst e3
      cases r7
      exact wpAny_truthy_bool ⟨H7, I7, q7⟩
end
section
variable {G : GG} {N : List Str} {sc : SC} {k : Nat} {a b c d : Expr} {ta tb tc td : DT} {pos : Pos}
theorem dt_chain3 {op op' op'' : CmpOp} {f f' f'' : D → D → (Sl → Prop) → Prop} (hr : CmpR op f) (hr' : CmpR op' f') (hr'' : CmpR op'' f'') (ha : DE G N sc k a ta) (hb : DE G N sc k b tb) (hc : DE G N sc k c tc) (hd : DE G N sc k d td)
    (hm : lastMarks [op, op', op''] [b, c, d] = false := by with_unfolding_all rfl) : DTe G N sc k (.Compare a [op, op', op''] [b, c, d] pos) (dTest (dChain3 f f' f'' ta tb tc td)) :=
  ⟨fun W => by
    obtain ⟨r, h1, h2⟩ := hr
    obtain ⟨r', h1', h2'⟩ := hr'
    obtain ⟨r'', h1'', h2''⟩ := hr''
    obtain ⟨te, p1, i1⟩ := ha.ex W
    obtain ⟨tf, p2, i2⟩ := hb.ex W
    obtain ⟨tg, p3, i3⟩ := hc.ex W
    obtain ⟨tw, p4, i4⟩ := hd.ex W
    refine ⟨tTest (tChain3 (r G.K) (r' G.K) (r'' G.K) te tf tg tw), fun X S => pt_chain3 (by rw [← S.K]; exact h2 X S.units) (by rw [← S.K]; exact h2' X S.units) (by rw [← S.K]; exact h2'' X S.units) (p1 X S) (p2 X S) (p3 X S) (p4 X S) hm, imT_of (te := tChain3 (r G.K) (r' G.K) (r'' G.K) te tf tg tw) (fun e Ex hl env T F σ H Q R hh ht hR => ?_) fun _ _ _ h => h⟩
    refine i1 e Ex hl env T F σ H _ _ hh ht fun v H1 F1 env1 x hh1 q1 => ?_
    refine i2 e Ex hl env1 _ F1 σ H1 _ _ hh1 q1 fun u H2 F2 env2 y hh2 q2 => ?_
    obtain ⟨d, rd, q3⟩ := hh2.wd (v := v) (sl := x) (List.mem_cons_of_mem _ List.mem_cons_self) q2
    obtain ⟨d', rd', q4⟩ := hh2.wd (v := u) (sl := y) List.mem_cons_self q3
    refine h1 _ F2 H2 v u d d' _ _ hh2.fh rd rd' q4 fun z F3 H3 sl g ok own q5 => ?_
    obtain ⟨bb, e5, q5'⟩ := bls q5
    subst e5
    clear q5
    have hh3 := hh2.push g ok own
    refine ⟨bb, hh3.temps (z, .ext (.bl bb)) List.mem_cons_self, ?_⟩
    cases bb with
    | false =>
      rw [if_neg Bool.false_ne_true] at q5' ⊢
      exact hR (.bl false) H3 F3 env2 (.ext (.bl false)) (hh3.pop.pop.pop.pushE rfl) q5'
    | true =>
      rw [if_pos rfl] at q5' ⊢
      refine i3 e Ex hl env2 _ F3 σ H3 _ _ hh3.pop q5' fun w H4 F4 env4 x4 hh4 q6 => ?_
      obtain ⟨d1, rd1, q7⟩ := hh4.wd (v := u) (sl := y) (List.mem_cons_of_mem _ List.mem_cons_self) q6
      obtain ⟨d2, rd2, q8⟩ := hh4.wd (v := w) (sl := x4) List.mem_cons_self q7
      refine h1' _ F4 H4 u w d1 d2 _ _ hh4.fh rd1 rd2 q8 fun z' F5 H5 sl' g' ok' own' q9 => ?_
      obtain ⟨b2, e9, q9'⟩ := bls q9
      subst e9
      clear q9
      have hh5 := hh4.push g' ok' own'
      refine ⟨b2, hh5.temps (z', .ext (.bl b2)) List.mem_cons_self, ?_⟩
      cases b2 with
      | false =>
        rw [if_neg Bool.false_ne_true] at q9' ⊢
        exact hR (.bl false) H5 F5 env4 (.ext (.bl false)) (hh5.pop.pop.pop.pop.pushE rfl) q9'
      | true =>
        rw [if_pos rfl] at q9' ⊢
        refine i4 e Ex hl env4 _ F5 σ H5 _ _ hh5.pop q9' fun t H6 F6 env6 x6 hh6 q10 => ?_
        obtain ⟨d3, rd3, q11⟩ := hh6.wd (v := w) (sl := x4) (List.mem_cons_of_mem _ List.mem_cons_self) q10
        obtain ⟨d4, rd4, q12⟩ := hh6.wd (v := t) (sl := x6) List.mem_cons_self q11
        exact h1'' _ F6 H6 w t d3 d4 _ R hh6.fh rd3 rd4 q12 (hh6.pop.pop.pop.pop.done hR)⟩
end
end HD
namespace L2
open PySem PyProof.Rows
section
variable {P : Program} {w : World} {A : Around} {E : Value → Shared → Prop} {s : Shared}
set_option maxHeartbeats 3200000 in
theorem set_of_tuple {t : Addr} {its : Array Value} (ks : List (Addr × List Int)) {Q : Value → Shared → Prop} (noH : A.handled = none) (isT : s.heap.IsTuple t its) (refs : its.toList = ks.map fun p => Value.ref p.1) (tups : ∀ p ∈ ks, IsT P w s.heap p.2 p.1) (few : ks.length < 64) (un : A.units + 3 < cLine)
    (fin : ∀ (h' : Heap) (tk : Nat) L es ep tb, SetTR P w h' s.heap.objs.size L es ep tb → Got ks ks.length L → (∀ b o, s.heap.get? b = some o → h'.get? b = some o) → Q (.ref s.heap.objs.size) { s with heap := h', toks := tk }) :
    wpAny (model P w) A (call (.type "set") [.ref t]) Q E s := by
  have size : its.size = ks.length := by
    rw [← Array.length_toList, refs, List.length_map]
  obtain ⟨c0, tl0, mro0⟩ := F.called_set.mro
  have made0 := F.called_set.made
  have sub0 := F.called_set.sub
  have no0 := F.called_set.notType
  have can0 := F.called_set.canCreate
  have ty0 := F.typeCall_set_1 (.ref t)
  refine wpAny_call (codeAny_of_tree (show wpAny _ _ (callAny (.type "set") _) _ _ _ from wpAny_pure ⟨Code.quiet_builtin _ (by decide +kernel), codeAny_builtin F.entry_type_call ?_⟩))
  rw [Around.under_plain (weight_type_call_type "set" [.ref t] []) rfl]
  repeat (any_goals (first | assumption | wp_step))
  refine codeAny_mono (code_set_led1 (.ref t) (E := E) (Q₁ := fun ob z => ob = .ref s.heap.objs.size ∧ z = { s with heap := s.heap.push { cls := .type "set", dict := none, data := .set #[] 0 (.fresh 0 0 (!w.params.followText "set-order")) } }) ⟨rfl, rfl⟩) fun r z hr => ?_
  match r, hr with
  | .error e, hr => exact hr
  | .ok (.ret ob), hr =>
    obtain ⟨rfl, rfl⟩ := hr
    have at0 : (s.heap.push { cls := .type "set", dict := none, data := .set #[] 0 (.fresh 0 0 (!w.params.followText "set-order")) }).get? s.heap.objs.size = some { cls := .type "set", dict := none, data := .set #[] 0 (.fresh 0 0 (!w.params.followText "set-order")) } := Heap.get?_push_size _ rfl
    have isS : Shared.TypeIs { s with heap := s.heap.push { cls := .type "set", dict := none, data := .set #[] 0 (.fresh 0 0 (!w.params.followText "set-order")) } } (.ref s.heap.objs.size) "set" := ⟨_, at0, rfl⟩
    have look0 := F.called_set.init.lookup
    have bind0 := F.called_set.init.bind (.ref s.heap.objs.size)
    repeat (any_goals (first | assumption | wp_step))
    refine codeAny_mono (codeAny_call_builtin (R := wants (fun r z => r = .none ∧ ∃ h' tk L es ep tb, z = { s with heap := h', toks := tk } ∧ SetTR P w h' s.heap.objs.size L es ep tb ∧ Got ks ks.length L ∧ (∀ b o, s.heap.get? b = some o → h'.get? b = some o)) E) F.called_set.init.plain F.entry_set_init (check_set_init_1 isS ?_)) fun r z hr => ?_
    · obtain ⟨⟨oc, od, oD, os⟩, ho, hc, n0, hd⟩ := isT
      simp only at hc hd
      subst hc hd
      have ho' : (s.heap.push { cls := .type "set", dict := none, data := .set #[] 0 (.fresh 0 0 (!w.params.followText "set-order")) }).get? t = some { cls := .type "tuple", dict := od, data := .seq its n0, slots := os } := Heap.get?_push_of_some _ ho
      have s1 := F.sub_tuple_set
      have s2 := F.sub_tuple_frozenset
      have ne0 : (Value.type "tuple" == Value.type "dict") = false := by decide
      have tu : (s.heap.push { cls := .type "set", dict := none, data := .set #[] 0 (.fresh 0 0 (!w.params.followText "set-order")) }).IsTuple t its := ⟨_, ho', rfl, n0, rfl⟩
      unfold Builtin.«set.__init__» noKeywords Builtin.Frozenset.updateFrom
      generalize hIt : pyIter = IT
      wp_walk
      subst hIt
      refine wpAny_pyIter_tuple tu (wpAny_bind (wpAny_runValue ?_))
      have tl : t < s.heap.objs.size := Heap.lt_size ho
      have sz : (s.heap.push { cls := .type "set", dict := none, data := .set #[] 0 (.fresh 0 0 (!w.params.followText "set-order")) }).objs.size = s.heap.objs.size + 1 := Heap.size_push ..
      have apart : t ≠ (s.heap.push { cls := .type "set", dict := none, data := .set #[] 0 (.fresh 0 0 (!w.params.followText "set-order")) }).objs.size := sz ▸ Nat.ne_of_lt (Nat.lt_succ_of_lt tl)
      have outS : s.heap.objs.size ∉ [(s.heap.push { cls := .type "set", dict := none, data := .set #[] 0 (.fresh 0 0 (!w.params.followText "set-order")) }).objs.size, t] := fun z => (List.mem_cons.1 z).elim (fun e => absurd (e.trans sz) (Nat.ne_of_lt (Nat.lt_succ_self _))) fun z => absurd (List.mem_singleton.1 z) (Nat.ne_of_gt tl)
      have old : ∀ b, s.heap.objs.size ≤ b → s.heap.get? b = none := fun b hb => Option.eq_none_iff_forall_ne_some.2 fun o q => absurd (Heap.lt_size q) (Nat.not_lt_of_le hb)
      refine set_update_tups ((Walks.tuple (by simp [noH]) _ t apart its).toS) s.heap.objs.size outS ks size few (fun i v hi => ?_) s.heap tups (old _ (Nat.le_refl _)) (fun b hb => old b (by rw [List.mem_singleton.mp hb, sz]; omega)) un (its.size - 0) 0 _ (by omega) (Nat.zero_le _)
        ⟨⟨_, Heap.get?_push_size _ rfl, rfl, rfl⟩, tu.push _⟩ (fun b o q => Heap.get?_push_of_some _ (Heap.get?_push_of_some _ q)) ⟨[], #[], 0, _, setTR_fresh (Heap.get?_push_of_some _ at0), Got.zero ks⟩ fun z L es ep tb mv R g kp => ?_
      · have hi' : its.toList[i]? = some v := by rw [Array.getElem?_toList]; exact hi
        rw [refs, List.getElem?_map] at hi'
        obtain ⟨p, hp, e⟩ := Option.map_eq_some_iff.1 hi'
        exact ⟨p, hp, e.symm⟩
      · obtain ⟨h', g2, d2, tk, o2⟩ := z
        have e1 : g2 = s.gens := mv.gens
        have e2 : d2 = s.drawn := mv.drawn
        have e3 : o2 = s.os := mv.os
        subst e1 e2 e3
        rw [size] at g
        exact wpAny_pure (show wpAny _ _ (ret Value.none) _ _ _ from wpAny_pure ⟨rfl, h', tk, L, es, ep, tb, rfl, R, g, kp⟩)
    · match r, hr with
      | .error e, hr => exact hr
      | .ok (.ret r), hr =>
        obtain ⟨rfl, h', tk, L, es, ep, tb, rfl, R, g, kp⟩ := hr
        repeat (any_goals (first | assumption | wp_step))
        exact fin _ _ _ _ _ _ R g kp
end
end L2
namespace HD
open PySem PyProof.Rows L2
def rSetTT (K : PySem.W.Frag) (P : Program) (w : World) : List V → Hp → VK → Prop := fun xs H Q => ∃ (t : Addr) (ks : List (Addr × List Int)), xs = [V.ref t] ∧ SqT K H t (ks.map fun p => V.ref p.1) ∧ (∀ p ∈ ks, SqT K H p.1 (p.2.map V.int)) ∧ ks.length < 64 ∧ ∀ a L, H a = none → (∀ p ∈ L, p ∈ ks) → (∀ p ∈ ks, p.2 ∈ L.map (·.2)) → Q (.ref a) (upd H a (SetTO P w a L))
theorem cr_setTT {X : Cx} (hc : X.calm = true) (hu : X.A.units + 64 < cLine) : CallR X (.type "set") (rSetTT X.K X.prog X.w) := by
  intro pins s σ H xs us Q I r h
  obtain ⟨t, ks, rfl, ht, hk, few, q⟩ := h
  rw [Vals.ref1 r]
  obtain ⟨its, rv, pl, _⟩ := I.tuple ht
  have new : H s.heap.objs.size = none := I.hok.fresh (Nat.le_refl _)
  refine set_of_tuple (P := X.prog) (w := X.w) ks (I.ok.hd hc) (show s.heap.IsTuple t its.toArray from pl) (by rw [List.toList_toArray]; exact refs_of_vals rv) (fun p hp => I.isT (hk p hp)) few (by omega) fun h' tk L es ep tb R g kp => ?_
  refine ⟨.ref s.heap.objs.size, upd H s.heap.objs.size (SetTO X.prog X.w s.heap.objs.size L), I.laid (t' := tk) kp (Nat.le_refl _) (setTO_new R.t0), rfl, q _ L new (fun p hp => List.mem_of_mem_take (g.sub p hp)) fun p hp => g.all p (by rw [List.take_length]; exact hp)⟩
abbrev pairZ (p : Int × Int) : D := .tup [.int p.1, .int p.2]
abbrev zLt (p q : Int × Int) : Prop := p.1 < q.1 ∨ (p.1 = q.1 ∧ p.2 < q.2)
section
variable {K : PySem.W.Frag} {F H : Hp}
theorem pairz_at (fh : Same F H) : ∀ {ps : List (Int × Int)} {vs : List V}, Reps K F (ps.map pairZ) vs → ∃ ks : List (Addr × List Int), vs = ks.map (fun q => V.ref q.1) ∧ ks.map (·.2) = ps.map (fun p => [p.1, p.2]) ∧ ∀ q ∈ ks, SqT K H q.1 (q.2.map V.int) ∧ ∀ x y, q.2 = [x, y] → Rep K F (pairZ (x, y)) (.ref q.1)
  | [], vs, h => ⟨[], (show vs = [] from h), rfl, fun q hq => nomatch hq⟩
  | p :: ps, vs, h => by
    obtain ⟨v, us, rfl, hv, hr⟩ := h
    obtain ⟨ks, rfl, e2, hk⟩ := pairz_at fh hr
    have hv' := hv
    obtain ⟨b, zs, rfl, td, r1⟩ := hv'
    have z : zs = [p.1, p.2].map V.int := Reps.ints (ns := [p.1, p.2]) r1
    subst z
    have e1 : SqT K H b ([p.1, p.2].map V.int) := SqT.same fh (TupD.sq td)
    refine ⟨(b, [p.1, p.2]) :: ks, rfl, by rw [List.map_cons, List.map_cons, e2], fun q hq => ?_⟩
    rcases List.mem_cons.1 hq with rfl | hq
    · exact ⟨e1, fun x y e => by
        have e : [p.1, p.2] = [x, y] := e
        cases e
        exact hv⟩
    · exact hk q hq
theorem reps_pairz : ∀ {ps : List (Int × Int)} {L : List (Addr × List Int)}, L.map (·.2) = ps.map (fun p => [p.1, p.2]) → (∀ q ∈ L, ∀ x y, q.2 = [x, y] → Rep K F (pairZ (x, y)) (.ref q.1)) → Reps K F (ps.map pairZ) (L.map fun q => V.ref q.1)
  | [], [], _, _ => rfl
  | [], q :: L, e, _ => by cases e
  | p :: ps, [], e, _ => by cases e
  | p :: ps, q :: L, e, h => by
    obtain ⟨e1, e2⟩ := List.cons.inj e
    exact ⟨_, _, rfl, h q List.mem_cons_self p.1 p.2 e1, reps_pairz e2 fun q hq => h q (List.mem_cons_of_mem _ hq)⟩
end
section
variable {G : GG} {N : List Str} {sc : SC} {k : Nat} {a : Expr} {ta : DT} {p p2 pos pos2 : Pos}
def dSortSetP (t : DT) : DT := fun Ex env Q => t Ex env fun x env1 => wd env1 x fun d => match d with
  | .tup ds => ∃ ps : List (Int × Int), ds = ps.map pairZ ∧ ps.length < 64 ∧ (∀ p ∈ ps, (0 ≤ p.1 ∧ p.1 < 64) ∧ 0 ≤ p.2 ∧ p.2 < 64) ∧ ∀ (ps' : List (Int × Int)) (b : Addr), ps'.Pairwise zLt → (∀ p, p ∈ ps' ↔ p ∈ ps) → Q (.lst b (ps'.map pairZ)) env1
  | _ => False
theorem de_sortsetP (ha : DE G N sc k a ta) (hm : G.mg "sorted" = none) (hm2 : G.mg "set" = none) (hg : GlS sc "sorted" := by rfl) (hg2 : GlS sc "set" := by rfl) (n1 : NoStar a [] := by intro _; rfl) (n2 : NoStar (.Call (.Name "set" p2) [a] [] pos2) [] := by intro _; rfl) (hp1 : ∀ env, (backTo pos (starEach [] env)).any (·.1) = false := by intro _; rfl) (hp2 : ∀ env, (backTo pos2 (starEach [] env)).any (·.1) = false := by intro _; rfl) :
    DE G N sc k (.Call (.Name "sorted" p) [.Call (.Name "set" p2) [a] [] pos2] [] pos) (dSortSetP ta) := ⟨fun W => by
  obtain ⟨te, p1, i1⟩ := ha.ex W
  refine ⟨tCB (rSortedT G.K G.P G.w) (tCons (tCB (rSetTT G.K G.P G.w) (tCons te tNil)) tNil), fun X S => ?_, fun e Ex hl env T F σ H Q R hh ht hR => ?_⟩
  · have c1 := cr_sortedT (X := X) S.calm
    have c2 := cr_setTT (X := X) S.calm S.units
    rw [S.w, S.K, S.prog] at c1
    rw [S.w, S.K, S.prog] at c2
    exact pe_callB c1 (S.gl hg) (by rw [S.mg]; exact hm) (by decide +kernel) (pa_cons (pe_callTy c2 (S.gl hg2) (by rw [S.mg]; exact hm2) (by decide +kernel) (pa_cons (p1 X S) pa_nil (n1 _)) (by decide) (by decide) (n1 _) (hp2 _)) pa_nil (n2 _)) (by decide) (by decide) (n2 _) (hp1 _)
  · refine i1 e Ex hl env T F σ H _ _ hh ht fun v H1 F1 env1 x hh1 q1 => ?_
    obtain ⟨d, rd, q2⟩ := hh1.wd (v := v) (sl := x) List.mem_cons_self q1
    cases d with
    | tup ds =>
      obtain ⟨ps, rfl, few, bd, q⟩ := q2
      obtain ⟨c, vs, rfl, e1, _, r1⟩ := rd.tup hh1.fh
      obtain ⟨ks, rfl, ek, hk⟩ := pairz_at hh1.fh r1
      have elen : ks.length = ps.length := by
        have := congrArg List.length ek
        rwa [List.length_map, List.length_map] at this
      have two : ∀ q ∈ ks, ∃ x y, q.2 = [x, y] ∧ (x, y) ∈ ps := fun q hq => by
        have : q.2 ∈ ps.map fun p => [p.1, p.2] := by rw [← ek]; exact List.mem_map_of_mem hq
        obtain ⟨p, hp, e⟩ := List.mem_map.1 this
        exact ⟨p.1, p.2, e.symm, hp⟩
      refine ⟨c, ks, rfl, e1, fun q hq => (hk q hq).1, by omega, fun p' L hn hsub hall => ?_⟩
      have sm : Same H1 (upd H1 p' (SetTO G.P G.w p' L)) := (Grow.loose hh1.fh hn).hh
      refine ⟨p', L, 2, 64, rfl, upd_same, fun q hq => SqT.same sm (hk q (hsub q hq)).1, by decide, fun q hq => ?_, fun L' p'' pm nd l64 pw hn2 => ?_⟩
      · obtain ⟨x, y, e, hp⟩ := two q (hsub q hq)
        obtain ⟨b1, b2⟩ := bd _ hp
        rw [e]
        refine ⟨rfl, fun m hm => ?_⟩
        rcases List.mem_cons.1 hm with rfl | hm
        · exact b1
        · rw [List.mem_singleton.1 hm]; exact b2
      · have two' : ∀ q ∈ L', ∃ x y, q.2 = [x, y] ∧ (x, y) ∈ ps := fun q hq => two q (hsub q (pm.mem_iff.1 hq))
        have e2 : L'.map (·.2) = (L'.map fun q => (q.2.getD 0 0, q.2.getD 1 0)).map fun p => [p.1, p.2] := by
          rw [List.map_map]
          refine List.map_congr_left fun q hq => ?_
          obtain ⟨x, y, e, _⟩ := two' q hq
          show q.2 = [q.2.getD 0 0, q.2.getD 1 0]
          rw [e]
          rfl
        have aft := (hh1.pop.done hR).more (o := SetTO G.P G.w p' L) hh1.fh hn
        refine aft.lst (Grow.loose hh1.fh hn).fh hn2 (reps_pairz e2 fun q hq => (hk q (hsub q (pm.mem_iff.1 hq))).2) (q _ p'' ?_ fun p => ?_)
        · rw [List.pairwise_map]
          have nd' := List.pairwise_map.1 nd
          refine List.Pairwise.imp_of_mem (fun {q r} hq hr hab => ?_) (pw.and nd')
          obtain ⟨x, y, e, hp⟩ := two' q hq
          obtain ⟨x', y', e', hp'⟩ := two' r hr
          obtain ⟨h1, h2⟩ := hab
          rw [e, e'] at h1 h2
          show zLt (q.2.getD 0 0, q.2.getD 1 0) (r.2.getD 0 0, r.2.getD 1 0)
          rw [e, e']
          obtain ⟨b1, b2⟩ := bd _ hp
          obtain ⟨b3, b4⟩ := bd _ hp'
          exact pair_lt h1 h2 b1 b2 b3 b4
        · rw [List.mem_map]
          constructor
          · rintro ⟨q, hq, rfl⟩
            obtain ⟨x, y, e, hp⟩ := two' q hq
            rw [e]
            exact hp
          · intro hp
            have : [p.1, p.2] ∈ ks.map (·.2) := by rw [ek]; exact List.mem_map.2 ⟨p, hp, rfl⟩
            obtain ⟨q, hq, e⟩ := List.mem_map.1 this
            obtain ⟨r, hr, er⟩ := List.mem_map.1 (hall q hq)
            refine ⟨r, pm.mem_iff.2 hr, ?_⟩
            rw [er, e]
            rfl
    | _ => exact q2.elim⟩
end
end HD
namespace LS
open PM PM.Tr Classical
theorem sub_len {α : Type} [DecidableEq α] : ∀ {a b : List α}, a.Nodup → (∀ x ∈ a, x ∈ b) → a.length ≤ b.length
  | [], _, _, _ => Nat.zero_le _
  | x :: a, b, hn, hs => by
    obtain ⟨h1, h2⟩ := List.nodup_cons.1 hn
    have hx := hs x List.mem_cons_self
    have := sub_len (a := a) (b := b.erase x) h2 fun y hy => (List.mem_erase_of_ne (fun e : y = x => h1 (e ▸ hy))).2 (hs y (List.mem_cons_of_mem _ hy))
    rw [List.length_erase_of_mem hx] at this
    have := List.length_pos_of_mem hx
    rw [List.length_cons]
    omega
def Rch (ts : List NP) : Nat → Nat → Prop
  | 0, x => x = 0
  | k + 1, x => ∃ y, Rch ts k y ∧ x ∈ nearN ts y
theorem tr_of {m : Nat} {ts : List NP} (hlen : ts.length + 1 = m) (hlt : ∀ t ∈ ts, t.1 < t.2 ∧ t.2 < m) (nd : ts.Nodup) (hang : HangN ts (List.range m)) : ∃ root up rk, TR m ts root up rk := by
  have hm : 0 < m := by omega
  have hr : ∀ x, x < m → ∃ k, Rch ts k x := fun x hx => by
    have h0 : (0 : Nat) ∈ (List.range m).head? := by
      cases m with
      | zero => omega
      | succ m => rw [List.range_succ_eq_map]; rfl
    have := hang 0 h0 x (List.mem_range.2 hx)
    induction this with
    | base => exact ⟨0, rfl⟩
    | step _ hz hs ih =>
      rename_i y z hl
      have hy : y < m := by
        rcases mem_near.1 hz with w | w
        · have := hlt _ w; simp only at this; omega
        · have := hlt _ w; simp only at this; omega
      obtain ⟨k, hk⟩ := ih hy
      exact ⟨k + 1, _, hk, hz⟩
  have hleast : ∀ x, ∃ k, x < m → Rch ts k x ∧ ∀ j, Rch ts j x → k ≤ j := fun x => by
    by_cases hx : x < m
    · obtain ⟨k, hk⟩ := hr x hx
      have : ∀ n, ∀ k, k ≤ n → Rch ts k x → ∃ k, Rch ts k x ∧ ∀ j, Rch ts j x → k ≤ j := by
        intro n
        induction n with
        | zero => intro k hk h; exact ⟨k, h, fun j _ => by omega⟩
        | succ n ih =>
          intro k hk h
          by_cases c : ∃ j, j < k ∧ Rch ts j x
          · obtain ⟨j, h1, h2⟩ := c
            exact ih j (by omega) h2
          · exact ⟨k, h, fun j hj => Nat.le_of_not_lt fun z => c ⟨j, z, hj⟩⟩
      obtain ⟨k, hk⟩ := this k k (Nat.le_refl _) hk
      exact ⟨k, fun _ => hk⟩
    · exact ⟨0, fun z => absurd z hx⟩
  obtain ⟨rk, hrk⟩ := Classical.skolem.1 hleast
  have hup : ∀ x, ∃ y, x < m → x ≠ 0 → y < m ∧ rk y < rk x ∧ x ∈ nearN ts y := fun x => by
    by_cases hx : x < m ∧ x ≠ 0
    · obtain ⟨h1, h2⟩ := hrk x hx.1
      cases hk : rk x with
      | zero =>
        rw [hk] at h1
        exact absurd h1 hx.2
      | succ k =>
        rw [hk] at h1
        obtain ⟨y, hy, hn⟩ := h1
        have hym : y < m := by
          rcases mem_near.1 hn with w | w
          · have := hlt _ w; simp only at this; omega
          · have := hlt _ w; simp only at this; omega
        exact ⟨y, fun _ _ => ⟨hym, by have := (hrk y hym).2 k hy; omega, hn⟩⟩
    · exact ⟨0, fun a b => absurd ⟨a, b⟩ hx⟩
  obtain ⟨up, hup⟩ := Classical.skolem.1 hup
  have htie : ∀ x, x < m → x ≠ 0 → (min x (up x), max x (up x)) ∈ ts := fun x hx h0 => by
    rcases mem_near.1 (hup x hx h0).2.2 with w | w
    · have := (hlt _ w).1
      simp only at this
      rw [show min x (up x) = up x by omega, show max x (up x) = x by omega]
      exact w
    · have := (hlt _ w).1
      simp only at this
      rw [show min x (up x) = x by omega, show max x (up x) = up x by omega]
      exact w
  have hLn : (((List.range (m - 1)).map (· + 1)).map fun x => (min x (up x), max x (up x))).Nodup := by
    unfold List.Nodup
    rw [List.pairwise_map, List.pairwise_map]
    refine List.Pairwise.imp_of_mem (fun {a b} ha hb hab e => ?_) (List.pairwise_lt_range (n := m - 1))
    have ha := List.mem_range.1 ha
    have hb := List.mem_range.1 hb
    have e1 : min (a + 1) (up (a + 1)) = min (b + 1) (up (b + 1)) := congrArg Prod.fst e
    have e2 : max (a + 1) (up (a + 1)) = max (b + 1) (up (b + 1)) := congrArg Prod.snd e
    have r1 := (hup (a + 1) (by omega) (by omega)).2.1
    have r2 := (hup (b + 1) (by omega) (by omega)).2.1
    have e3 : up (a + 1) = b + 1 := by omega
    have e4 : up (b + 1) = a + 1 := by omega
    rw [e3] at r1
    rw [e4] at r2
    omega
  have hall : ∀ t ∈ ts, ∃ x, x < m ∧ x ≠ 0 ∧ t = (min x (up x), max x (up x)) := fun t ht => by
    by_cases c : t ∈ (((List.range (m - 1)).map (· + 1)).map fun x => (min x (up x), max x (up x)))
    · obtain ⟨x, hx, e⟩ := List.mem_map.1 c
      obtain ⟨i, hi, rfl⟩ := List.mem_map.1 hx
      have := List.mem_range.1 hi
      exact ⟨i + 1, by omega, by omega, e.symm⟩
    · exfalso
      have := sub_len (a := t :: (((List.range (m - 1)).map (· + 1)).map fun x => (min x (up x), max x (up x)))) (b := ts) (List.nodup_cons.2 ⟨c, hLn⟩) fun z hz => by
        rcases List.mem_cons.1 hz with rfl | hz
        · exact ht
        · obtain ⟨x, hx, rfl⟩ := List.mem_map.1 hz
          obtain ⟨i, hi, rfl⟩ := List.mem_map.1 hx
          have := List.mem_range.1 hi
          exact htie _ (by omega) (by omega)
      rw [List.length_cons, List.length_map, List.length_map, List.length_range] at this
      omega
  refine ⟨0, up, rk, hm, fun x hx h0 => ⟨(hup x hx h0).1, (hup x hx h0).2.1⟩, fun i j => ⟨fun h => ?_, fun h => ?_⟩, nd, fun t ht h => ?_⟩
  · rcases h with h | h
    · obtain ⟨x, hx, h0, e⟩ := hall _ h
      have e1 : i = min x (up x) := congrArg Prod.fst e
      have e2 : j = max x (up x) := congrArg Prod.snd e
      rcases Nat.lt_or_ge x (up x) with c | c
      · exact .inl ⟨by omega, by omega, by rw [show i = x by omega]; omega⟩
      · exact .inr ⟨by omega, by omega, by rw [show j = x by omega]; omega⟩
    · obtain ⟨x, hx, h0, e⟩ := hall _ h
      have e1 : j = min x (up x) := congrArg Prod.fst e
      have e2 : i = max x (up x) := congrArg Prod.snd e
      rcases Nat.lt_or_ge x (up x) with c | c
      · exact .inr ⟨by omega, by omega, by rw [show j = x by omega]; omega⟩
      · exact .inl ⟨by omega, by omega, by rw [show i = x by omega]; omega⟩
  · rcases h with ⟨h1, h2, h3⟩ | ⟨h1, h2, h3⟩
    · subst h3
      rcases mem_near.1 (hup i h1 h2).2.2 with w | w
      · exact .inr w
      · exact .inl w
    · subst h3
      rcases mem_near.1 (hup j h1 h2).2.2 with w | w
      · exact .inl w
      · exact .inr w
  · have h1 := (hlt t ht).1
    have h2 := (hlt _ h).1
    simp only at h2
    omega
theorem rip_of {m root : Nat} {ts : List NP} {up rk : Nat → Nat} (tr : TR m ts root up rk) {sm : List Nat} (hs : ∀ x ∈ sm, x < m) (hang : HangN ts sm) : ∃ top, ∀ b ∈ sm, b = top ∨ (b ≠ root ∧ up b ∈ sm) := by
  cases sm with
  | nil => exact ⟨0, fun b hb => nomatch hb⟩
  | cons h sm' =>
    generalize e : h :: sm' = sm at *
    have hh : h ∈ sm.head? := by rw [← e]; rfl
    have hhm : h ∈ sm := by rw [← e]; exact List.mem_cons_self
    obtain ⟨top, htop, hmin⟩ := min_ex rk (l := sm) (by rw [← e]; exact List.cons_ne_nil _ _)
    refine ⟨top, fun b hb => ?_⟩
    by_cases c : b = top
    · exact .inl c
    · have hbr : b ≠ root := fun z => c (by
        subst z
        exact (tr.de_eq (tr.de_root (hs top htop)) (hmin _ hb)).symm)
      refine .inr ⟨hbr, Classical.not_not.1 fun hu => c ?_⟩
      have key : ∀ y, Lnk ts sm h y → y ∈ sm ∧ (De m root up b h ↔ De m root up b y) := fun y hy => by
        induction hy with
        | base => exact ⟨hhm, Iff.rfl⟩
        | step _ hz hzm ih =>
          rename_i y z _
          obtain ⟨hy, ih⟩ := ih
          refine ⟨hzm, ih.trans ?_⟩
          rcases tr.near.1 hz with ⟨h1, h2, h3⟩ | ⟨h1, h2, h3⟩
          · subst h3
            refine ⟨fun d => ?_, fun d => .step h1 h2 d⟩
            cases d with
            | self => exact absurd hzm hu
            | step _ _ d => exact d
          · subst h3
            refine ⟨fun d => .step h1 h2 d, fun d => ?_⟩
            cases d with
            | self => exact absurd hy hu
            | step _ _ d => exact d
      have d1 := (key b (hang h hh b hb)).2.2 .self
      have d2 := (key top (hang h hh top htop)).2.1 d1
      exact (tr.de_eq d2 (hmin b hb)).symm
end LS
namespace LS
open PM PM.Tr Classical
section
variable {N : Nat} {gs : List (List Nat)} {o : List Nat}
noncomputable abbrev obag (N : Nat) (gs : List (List Nat)) (o : List Nat) (k : Nat) : List Nat := bagN N gs (o.take k) (o.getD k 0)
def HasO (N : Nat) (gs : List (List Nat)) (o : List Nat) (k j : Nat) : Prop := k < j ∧ j < o.length ∧ ∀ n ∈ obag N gs o k, n ≠ o.getD k 0 → n ∈ obag N gs o j
theorem later_of (nd : o.Nodup) (hall : ∀ m, m < N → m ∈ o) {k n : Nat} (hk : k < o.length) (hn : n ∈ obag N gs o k) (ne : n ≠ o.getD k 0) : ∃ p, p < o.length ∧ k < p ∧ o.getD p 0 = n := by
  have h1 := mem_bag.1 hn
  obtain ⟨p, hp, e⟩ := List.getElem_of_mem (hall n h1.1)
  have ep : o.getD p 0 = n := by rw [List.getD_eq_getElem?_getD, List.getElem?_eq_getElem hp]; exact e
  refine ⟨p, hp, ?_, ep⟩
  have h2 := h1.2.1
  rw [← ep] at h2
  have h3 := mt (getD_take (k := k) nd hp).2 h2
  by_cases c : p = k
  · exact absurd (by rw [← ep, c]) ne
  · omega
theorem has_up (nd : o.Nodup) (hl : ∀ m ∈ o, m < N) (hall : ∀ m, m < N → m ∈ o) {k : Nat} (hk : k + 1 < o.length) : HasO N gs o k (upN o (obag N gs o k) k) := by
  have := up_lt (o := o) (B := obag N gs o k) (k := k) hk
  refine ⟨this.1, this.2, fun n hn ne => ?_⟩
  obtain ⟨p, hp, hkp, e⟩ := later_of nd hall (by omega) hn ne
  rw [← e] at hn
  have r := tree_run nd hl hp hkp hn
  rw [← e]
  exact r.2.2
theorem RTree.anyUp (nd : o.Nodup) (hl : ∀ m ∈ o, m < N) (hall : ∀ m, m < N → m ∈ o) (h0 : 0 < o.length) (hg : ∀ ns ∈ gs, ∀ n ∈ ns, n < N) {f : Nat → Nat} (hf : ∀ k, k + 1 < o.length → HasO N gs o k (f k)) :
    RTree N gs (elimB N gs o) ((List.range (o.length - 1)).map fun k => (k, f k)) (o.length - 1) f fun k => o.length - k := by
  have le := elimB_len N gs o
  have mem : ∀ t : NP, t ∈ (List.range (o.length - 1)).map (fun k => (k, f k)) ↔ t.1 + 1 < o.length ∧ t.2 = f t.1 := fun t => by
    rw [List.mem_map]
    constructor
    · rintro ⟨k, hk, rfl⟩
      have := List.mem_range.1 hk
      exact ⟨by show k + 1 < _; omega, rfl⟩
    · rintro ⟨h1, h2⟩
      exact ⟨t.1, List.mem_range.2 (by omega), Prod.ext rfl h2.symm⟩
  refine ⟨⟨⟨by omega, fun x hx hr => ?_, fun i j => ?_, ?_, fun t ht z => ?_⟩, fun B hB => ?_, fun n => ?_⟩, fun ns hns => ?_, fun n hn => ?_⟩
  · rw [le] at hx ⊢
    have := hf x (by omega)
    refine ⟨this.2.1, ?_⟩
    have := this.1
    show o.length - f x < o.length - x
    omega
  · rw [le, mem, mem]
    constructor
    · rintro (⟨a, b⟩ | ⟨a, b⟩)
      · exact .inl ⟨by simp only at a; omega, by simp only at a; omega, b.symm⟩
      · exact .inr ⟨by simp only at a; omega, by simp only at a; omega, b.symm⟩
    · rintro (⟨a, b, c⟩ | ⟨a, b, c⟩)
      · exact .inl ⟨by simp only; omega, c.symm⟩
      · exact .inr ⟨by simp only; omega, c.symm⟩
  · unfold List.Nodup
    rw [List.pairwise_map]
    exact List.pairwise_lt_range.imp fun h e => by
      have : _ = _ := congrArg Prod.fst e
      simp only at this
      omega
  · have a := (mem t).1 ht
    have b := (mem _).1 z
    have c := (hf _ a.1).1
    have d := (hf _ b.1).1
    simp only at b d
    omega
  · obtain ⟨k, hk, rfl⟩ := List.mem_map.1 hB
    exact ⟨bag_rising _ _ _ _, fun n hn => (mem_bag.1 hn).1⟩
  · by_cases hn : n < N
    · obtain ⟨p, hp, e⟩ := List.getElem_of_mem (hall n hn)
      have ep : o.getD p 0 = n := by rw [List.getD_eq_getElem?_getD, List.getElem?_eq_getElem hp]; exact e
      refine ⟨p, fun b hb hnb => ?_⟩
      rw [le] at hb
      rw [elimB_bg hb] at hnb
      by_cases c : b = p
      · exact .inl c
      · have ne : n ≠ o.getD b 0 := fun z => by
          have h2 := (mem_bag.1 hnb).2.1
          rw [← ep] at h2
          have h3 := mt (getD_take (k := b) nd hp).2 h2
          have h4 : o.getD b 0 ∈ o.take p := (getD_take nd hb).2 (by omega)
          rw [← z, ← ep] at h4
          exact absurd ((getD_take nd hp).1 h4) (Nat.lt_irrefl _)
        obtain ⟨q, hq, hbq, _⟩ := later_of nd hall hb hnb ne
        have r := hf b (by omega)
        exact .inr ⟨by omega, by rw [elimB_bg r.2.1]; exact r.2.2 n hnb ne⟩
    · exact ⟨0, fun b hb hnb => by rw [le] at hb; rw [elimB_bg hb] at hnb; exact absurd (mem_bag.1 hnb).1 hn⟩
  · obtain ⟨k, hk, h⟩ := tree_part nd hl hall hns (hg ns hns) h0
    exact ⟨k, by rw [le]; exact hk, fun n hn => by rw [elimB_bg hk]; exact h n hn⟩
  · obtain ⟨⟨i, hi, h⟩, _⟩ := tree_name (gs := gs) nd hl (hall n hn)
    have hi' := List.mem_range.1 hi
    exact ⟨i, by rw [le]; exact hi', by rw [elimB_bg hi']; exact h⟩
end
end LS
namespace LS
namespace V2
namespace Y5
namespace Y50
open PySem L2 HD PM BT
local macro_rules | `(tactic| and_intros) => `(tactic| try simp -dsimp only [↓sIf, ↓sRet, ↓retD_ext, ↓retD_lst, ↓retD_al, ↓sSet, ↓sSetE, ↓sAsg, ↓sDrop, ↓sNext, ↓sFor, ↓sRetN, ↓sCont, ↓sBreak, ↓dTest, ↓dOp, ↓dC, ↓dCons, ↓dNil, ↓dTup, ↓dLst, ↓frzDs, ↓frzD_ext, ↓frzD_lst, ↓frzD_al, ↓wd_ext, ↓wd_lst, ↓wd_al, ↓wds, ↓AtS_ext, ↓AtS_lst, ↓AtL, ↓fAdd, ↓fSub, ↓fMul, ↓fDiv, ↓fMod, ↓fPow, ↓fCmp, ↓fIn, ↓fEq_ii, ↓fEq_ss, ↓fEq_bb, ↓fEq_tt, ↓fEq_ll, ↓fNe_ii, ↓fNe_ss, ↓fNe_bb, ↓fNe_tt, ↓fNe_ll, ↓fIx_l, ↓fIx_t, ↓fIx_k, ↓fIx_f, ↓GetS_some, ↓NatS_some, ↓fSl, ↓fIsN, ↓fNotN, ↓D.knN, ↓dNot, ↓dAnd, ↓dOr, ↓dAndV_w, ↓dOrV_w, ↓dNotV, ↓dIf, ↓dNeg, ↓dChain_w, ↓BlS_bl, ↓dCall_w, ↓dCallJ_w, ↓anyAl, ↓frozs, ↓froz, ↓gSet, ↓gTupD, ↓gsCons, ↓gsNil, ↓dSeq, ↓seqD_tup, ↓seqD_elst, ↓seqD_lst, ↓seqD_al, ↓dRange1, ↓dRange2, ↓dZip, ↓dCB, ↓dLc, ↓dYes, ↓dNoPart, ↓dPart, ↓dSl, ↓fLen, ↓fMin, ↓fMax, ↓fSum, ↓fAll, ↓fAny, ↓fSorted, ↓fTuple, ↓fList, ↓dRg1, ↓dRg2, ↓dLstRg, ↓dTupRg, ↓dIndex, ↓fIdx, ↓dAppend_w, ↓dExtend_w, ↓extD_lst, ↓dPopAt_w, ↓popD_int, ↓dPop_w, ↓mutD_w, ↓sSetItem_w, ↓setD_int, ↓dSortSet, ↓dTable_w, ↓wipeE, finals1, finals2, finals3, finals4, finals5, finals6, fin1_ext, fin1_lst, List.getElem?_cons_zero, List.getElem?_cons_succ, List.getElem?_nil, List.set_cons_zero, List.set_cons_succ, List.cons_append, List.nil_append, List.append_nil, List.replicate_succ, List.replicate_zero, List.map_cons, List.map_nil, List.length_cons, List.length_nil, true_and, and_true, ite_true, ite_false, if_true, if_false, Bool.false_eq_true, decide_eq_true_eq, Sl.plain, D.isSq, eq_self_iff_true, forall_const, reduceIte, true_or, or_true, atI_0, atI_1, atI_2, atI_3, ixN_0, ixN_1, ixN_2, AtS_ext, AtS_lst, FzS_lst, FzS_ext, GetS_some, NatS_some, ↓fIsi1, ↓fIsi2, BoolS_some, HD.kb_non_tuple, HD.kb_non_list, HD.kb_non_bool, HD.kb_non_int, HD.kb_non_str, HD.kb_bl_tuple, HD.kb_bl_list, HD.kb_bl_bool, HD.kb_bl_int, HD.kb_bl_str, HD.kb_int_tuple, HD.kb_int_list, HD.kb_int_bool, HD.kb_int_int, HD.kb_int_str, HD.kb_str_tuple, HD.kb_str_list, HD.kb_str_bool, HD.kb_str_int, HD.kb_str_str, HD.kb_lst_tuple, HD.kb_lst_list, HD.kb_lst_bool, HD.kb_lst_int, HD.kb_lst_str, HD.kb_tup_tuple, HD.kb_tup_list, HD.kb_tup_bool, HD.kb_tup_int, HD.kb_tup_str, ↓sFz_w, ↓FzS_lst, ↓FzS_ext, ↓dSortSetL, ↓fAbs, ↓fInt, ↓fRepr, ↓fLtT, ↓sRaise, ↓sTryKeep, ↓dCallV_w, ↓dMeth, ↓fCount, ↓fSplit, ↓seq_setE, ↓seq_set, ↓seq_drop, ↓seq_asg, ↓seq_if, ↓seq_for, ↓dStep, ↓fStep, ↓fMulT, ↓fIsB, ↓fNotB, ↓sPar, ↓dEnum, ↓dListZip, ↓dNest, ↓sSeal, ↓dNApp, ↓retD_reg, ↓dLenSet, ↓fSum2, ↓seq_putD, ↓seq_sealD, ↓dDIn, ↓dDGet, ↓sPutD, ↓dDNew, ↓dDOne, ↓sSealD, ↓dKeys, ↓keyS_dk, ↓dExtT, ↓fSortT, ↓fMinP, ↓dRemove, ↓dDInT, ↓dDGetT, ↓sPutDT, ↓dDNewT, ↓sSealDT, ↓dKeysT, ↓keyST_dt, ↓fSortK, ↓seq_putDT, ↓seq_sealDT, ↓dVarR_w, ↓dAttr, ↓dAppR, ↓dExtR_w, ↓dExtTR_w, ↓dClrR, ↓dPopR_w, ↓dIxR_w, ↓dDGetR, ↓dDInR, ↓dGet2R, ↓dPop1R, ↓dPop2R, ↓dDGetTR, ↓dDInTR, ↓dPop1TR, ↓dCallM, ↓dMethO, ↓dMake, ↓dMoveR, ↓dPtr, ↓sAttr, ↓sSetR, ↓sPutR, ↓sPutTR, ↓sSetA_w, ↓sSetG_w, ↓seq_setG, ↓seq_setA, ↓seq_attr, ↓seq_setR, ↓seq_putR, ↓seq_putTR, ↓RegS_reg, ↓CellS_some, ↓RefS_reg, ↓RefS_ar, ↓cellS_ar, ↓wd_ar, ↓seqD_ar, ↓lstO_lst, ↓insO_ins, ↓dkO_dk, ↓dkO_lk, ↓dtO_dt, ↓dtO_lk, ↓dkW_dk, ↓dtW_dt, ↓stoS_ext, ↓stoS_reg, ↓stoS_lstT, ↓stoS_lstF, ↓stoS_al, ↓ptrD_ref, ↓ptrD_int, ↓ptrD_str, ↓ptrD_bl, ↓ptrD_non, ↓ptrD_tup, ↓ptrD_tk, ↓ptrD_lst, ↓ptrD_fz, ↓setGS_lst, ↓setGS_reg, ↓setAS_ar, ↓setAS_ext, ↓intS_int, ↓tupS_tup, ↓lstS_lst, ↓lstK, ↓dkK, ↓dtK, ↓retD_reg, ↓dSortSetB, ↓fSortD, ↓fInD, ↓dCallD, ↓regC_reg, ↓dMoveL, ↓dMoveR_w, ↓dDictP, ↓froz_lst, ↓froz_ext, ↓dUpdTR, ↓dUpdKR, ↓dDictZipK, ↓dDictC, ↓gLstD, ↓dClear, ↓fStr, ↓dListItems, ↓dLenK, ↓dSortKI, ↓dInC, ↓fMinT, ↓fMaxT, ↓dListKT, ↓seq_parO, ↓sParO, ↓dSortSetP, ↓HD.dStep, ↓dChain3, ↓dDisp, ↓dispF, ↓dv0, ↓dw0, ↓dv1, ↓dw1, ↓dv2, ↓dw2, ↓dv3, ↓dw3, ↓dv4, ↓dw4, ↓dv5, ↓dw5, ↓dv6, ↓dw6, ↓dv7, ↓dw7, ↓dv8, ↓dw8, ↓dv9, ↓dw9, ↓dv10, ↓dw10, ↓dv11, ↓dw11, ↓dv12, ↓dw12, ↓dv13, ↓dw13, ↓dv14, ↓dw14, ↓dv15, ↓dw15, ↓dv16, ↓dw16, ↓dv17, ↓dw17, ↓dv18, ↓dw18, ↓dv19, ↓dw19])
def sp_law_hang : DSpec := fun args Q _ => ∃ (ts : List NP) (sm : List Nat), args = [.ext (.lst (ts.map tieD)), .ext (.lst (nD sm))] ∧ ts.length ≤ 100 ∧ sm.length ≤ 100 ∧ (∀ t ∈ ts, t.1 < t.2) ∧ sm.Nodup ∧ ∀ (b : Bool) fin, (b = true ↔ HangN ts sm) → Q (.ext (.bl b)) fin
def b1_law_hang : DTS :=
    (sIf (dAnd (dTest (dOp (fIn false) (dOp fIx (dVar 2) (dVar 3)) (dTup (dCons (dVar 4) (dCons (dVar 5) dNil))))) (dAnd (dTest (dOp (fIn false) (dVar 4) (dVar 1))) (dTest (dOp (fIn false) (dVar 5) (dVar 1))))) (sSeq (sSetE 6 (dOp fSub (dOp fAdd (dVar 4) (dVar 5)) (dOp fIx (dVar 2) (dVar 3))))
    (sSetE 2 (dOp fAdd (dVar 2) (dOp fMul (dLst (dCons (dVar 6) dNil)) (dCB fInt (dCons (dOp (fIn true) (dVar 6) (dVar 2)) dNil)))))) sNext)
def k2_law_hang : DTS :=
    (sSetE 3 (dOp fAdd (dVar 3) (dC (.int 1))))
def b3_law_hang : DTS :=
    (sSeq (sFor (dSeq (dVar 0)) (gTupD 2 (gsCons (gSet 4) (gsCons (gSet 5) gsNil))) b1_law_hang)
    k2_law_hang)
def k4_law_hang : DTS :=
    (sRet (dOp fEq (dCB fLen (dCons (dVar 2) dNil)) (dCB fLen (dCons (dVar 1) dNil))))
def t_law_hang : DTS :=
    (sSeq (sSetE 2 (dSl (dVar 1) dNoPart (dPart (dC (.int 1)))))
    (sSeq (sSetE 3 (dC (.int 0)))
    (sSeq (sWhile (dTest (dOp (fCmp fun i j => decide (i < j)) (dVar 3) (dCB fLen (dCons (dVar 2) dNil)))) b3_law_hang)
    k4_law_hang)))
structure HgS (ts : List NP) (sm : List Nat) (h : Nat) (seen : List Nat) (at' : Nat) : Prop where
  nd : seen.Nodup
  sub : ∀ x ∈ seen, x ∈ sm
  hin : h ∈ seen
  lk : ∀ x ∈ seen, Lnk ts sm h x
  cl : ∀ k, k < at' → ∀ z ∈ nearN ts (seen.getD k 0), z ∈ sm → z ∈ seen
theorem getD_app {l m : List Nat} {k : Nat} (h : k < l.length) : (l ++ m).getD k 0 = l.getD k 0 := by
  rw [List.getD_eq_getElem?_getD, List.getD_eq_getElem?_getD, List.getElem?_append_left h]
theorem q3_hang {Ex : DX} {E : DEnds} {ts : List NP} {sm : List Nat} {h : Nat} {at' : Nat} {u6 : Sl} (hl : ts.length ≤ 100) (hsl : sm.length ≤ 100) (hlt : ∀ t ∈ ts, t.1 < t.2)
    (hE : ∀ seen' u4 u5 u6, HgS ts sm h seen' (at' + 1) → at' < seen'.length → E.nx [.ext (.lst (ts.map tieD)), .ext (.lst (nD sm)), .ext (.lst (nD seen')), dI ((at' + 1 : Nat) : Nat), u4, u5, u6]) {seen : List Nat} {u4 u5 : Sl} (hs : HgS ts sm h seen at') (ha : at' < seen.length) :
    b3_law_hang Ex E [.ext (.lst (ts.map tieD)), .ext (.lst (nD sm)), .ext (.lst (nD seen)), dI (at' : Nat), u4, u5, u6] := by
  unfold b3_law_hang
  and_intros
  refine for_ind tieD (fun xs env => ∃ (seen2 pre : List Nat) (seenp : List NP) (u4 u5 u6 : Sl), env = [.ext (.lst (ts.map tieD)), .ext (.lst (nD sm)), .ext (.lst (nD seen2)), dI (at' : Nat), u4, u5, u6] ∧ HgS ts sm h seen2 at' ∧ at' < seen2.length ∧ ts = seenp ++ xs ∧ seen2.getD at' 0 = seen.getD at' 0 ∧ ∀ z, ((seen.getD at' 0, z) ∈ seenp ∨ (z, seen.getD at' 0) ∈ seenp) → z ∈ sm → z ∈ seen2) ?_ ?_ ts _ ⟨seen, [], [], _, _, _, rfl, hs, ha, rfl, rfl, fun z hz => by rcases hz with y | y <;> cases y⟩
  · rintro env ⟨seen2, pre, seenp, u4, u5, u6, rfl, hs2, ha2, he, heq, hcl⟩
    rw [List.append_nil] at he
    subst he
    refine ⟨True.intro, ?_⟩
    unfold k2_law_hang
    and_intros
    refine hE seen2 u4 u5 u6 ⟨hs2.nd, hs2.sub, hs2.hin, hs2.lk, fun k hk z hz hzm => ?_⟩ ha2
    rcases Nat.lt_or_ge k at' with h1 | h1
    · exact hs2.cl k h1 z hz hzm
    · have e : k = at' := by omega
      subst e
      rw [heq] at hz
      exact hcl z (mem_near.1 hz) hzm
  · rintro t xs env N ⟨seen2, pre, seenp, u4, u5, u6, rfl, hs2, ha2, he, heq, hcl⟩ hN
    refine ⟨True.intro, ?_⟩
    have ht : t ∈ ts := by rw [he]; simp
    have hlt' := hlt t ht
    have goon : ∀ seen3 u4 u5 u6, HgS ts sm h seen3 at' → at' < seen3.length → seen3.getD at' 0 = seen.getD at' 0 → (∀ z, z ∈ seen2 → z ∈ seen3) → (∀ z, (seen.getD at' 0 = t.1 ∧ z = t.2) ∨ (seen.getD at' 0 = t.2 ∧ z = t.1) → z ∈ sm → z ∈ seen3) → N [.ext (.lst (ts.map tieD)), .ext (.lst (nD sm)), .ext (.lst (nD seen3)), dI (at' : Nat), u4, u5, u6] := fun seen3 u4 u5 u6 h1 h2 h3 h4 h5 => by
      refine hN _ ⟨seen3, pre, seenp ++ [t], u4, u5, u6, rfl, h1, h2, by rw [List.append_assoc]; exact he, h3, fun z hz hzm => ?_⟩
      by_cases c : (seen.getD at' 0, z) ∈ seenp ∨ (z, seen.getD at' 0) ∈ seenp
      · exact h4 z (hcl z c hzm)
      · refine h5 z ?_ hzm
        rcases hz with y | y
        · rcases List.mem_append.1 y with y | y
          · exact absurd (.inl y) c
          · have := List.mem_singleton.1 y
            rw [← this]
            exact .inl ⟨rfl, rfl⟩
        · rcases List.mem_append.1 y with y | y
          · exact absurd (.inr y) c
          · have := List.mem_singleton.1 y
            rw [← this]
            exact .inr ⟨rfl, rfl⟩
    unfold b1_law_hang
    rw [show tieD t = D.tup [D.int (t.1 : Nat), D.int (t.2 : Nat)] from rfl]
    and_intros
    refine ⟨_, atN (getD_at ha2), ?_⟩
    and_intros
    rw [heq]
    generalize hx : seen.getD at' 0 = x at *
    rw [show [D.int ((t.1 : Nat) : Int), D.int ((t.2 : Nat) : Int)] = nD [t.1, t.2] from rfl]
    simp only [isIn_nat]
    have ft : ∀ i : Int, (D.int i).flat = true := fun i => rfl
    refine ⟨by decide, rfl, flat_nD _, ?_⟩
    by_cases c1 : x ∈ [t.1, t.2]
    · rw [if_pos (decide_eq_true c1)]
      refine ⟨rfl, flat_nD _, ?_⟩
      by_cases c2 : t.1 ∈ sm
      · rw [if_pos (decide_eq_true c2)]
        refine ⟨rfl, flat_nD _, ?_⟩
        by_cases c3 : t.2 ∈ sm
        · rw [if_pos (decide_eq_true c3)]
          refine ⟨_, atN (getD_at ha2), ?_⟩
          and_intros
          have c1 : x = t.1 ∨ x = t.2 := by simpa using c1
          obtain ⟨y, hy, hy2, hys⟩ : ∃ y : Nat, (x = t.1 ∧ y = t.2 ∨ x = t.2 ∧ y = t.1) ∧ y ∈ nearN ts x ∧ y ∈ sm := by
            rcases c1 with e | e
            · exact ⟨t.2, .inl ⟨e, rfl⟩, mem_near.2 (.inl (by rw [e]; exact ht)), c3⟩
            · exact ⟨t.1, .inr ⟨e, rfl⟩, mem_near.2 (.inr (by rw [e]; exact ht)), c2⟩
          have hone : ∀ z, (x = t.1 ∧ z = t.2) ∨ (x = t.2 ∧ z = t.1) → z = y := fun z hz => by omega
          rw [heq, show ((t.1 : Nat) : Int) + (t.2 : Nat) - (x : Nat) = ((y : Nat) : Int) by omega, isIn_nat]
          have hle := nd_sub_len hs2.nd hs2.sub
          refine ⟨by decide, rfl, flat_nD _, ?_⟩
          by_cases c4 : y ∈ seen2
          · rw [if_neg (by simp [c4])]
            refine ⟨by decide, by decide, by decide, by rw [nD_len]; exact Nat.le_trans (show _ ≤ 100 by simpa using (by omega : seen2.length ≤ 100)) (by decide), ?_⟩
            show N [_, _, .ext (.lst (nD seen2 ++ [])), _, _, _, _]
            rw [List.append_nil]
            exact goon seen2 _ _ _ hs2 ha2 heq (fun z hz => hz) fun z hz _ => by rw [hone z hz]; exact c4
          · rw [if_pos (by simp [c4])]
            refine ⟨by decide, by decide, by decide, by rw [nD_len]; exact Nat.le_trans (show seen2.length + 1 ≤ 101 by omega) (by decide), ?_⟩
            show N [_, _, .ext (.lst (nD seen2 ++ [D.int (y : Nat)])), _, _, _, _]
            rw [show nD seen2 ++ [D.int (y : Nat)] = nD (seen2 ++ [y]) by rw [nD_app]; rfl]
            have hxm : x ∈ seen2 := by
              rw [← heq]
              exact getD_mem ha2
            refine goon (seen2 ++ [y]) _ _ _ ⟨?_, fun z hz => ?_, List.mem_append_left _ hs2.hin, fun z hz => ?_, fun k hk z hz hzm => ?_⟩ (by rw [List.length_append]; omega) (by rw [getD_app ha2]; exact heq) (fun z hz => List.mem_append_left _ hz) fun z hz _ => by rw [hone z hz]; exact List.mem_append_right _ List.mem_cons_self
            · exact List.nodup_append.2 ⟨hs2.nd, List.pairwise_singleton _ _, fun p hp q hq e => c4 (by rw [← List.mem_singleton.1 hq, ← e]; exact hp)⟩
            · exact (List.mem_append.1 hz).elim (hs2.sub z) fun w => by rw [List.mem_singleton.1 w]; exact hys
            · exact (List.mem_append.1 hz).elim (hs2.lk z) fun w => by rw [List.mem_singleton.1 w]; exact .step (hs2.lk x hxm) hy2 hys
            · rw [getD_app (by omega)] at hz
              exact List.mem_append_left _ (hs2.cl k hk z hz hzm)
        · rw [if_neg (by simp [c3])]
          refine goon seen2 _ _ _ hs2 ha2 heq (fun z hz => hz) fun z hz hzm => ?_
          have hxm : x ∈ sm := hs2.sub x (by rw [← heq]; exact getD_mem ha2)
          rcases hz with ⟨e1, e2⟩ | ⟨e1, e2⟩
          · exact absurd (e2 ▸ hzm) c3
          · exact absurd (e1 ▸ hxm) c3
      · rw [if_neg (by simp [c2])]
        refine goon seen2 _ _ _ hs2 ha2 heq (fun z hz => hz) fun z hz hzm => ?_
        have hxm : x ∈ sm := hs2.sub x (by rw [← heq]; exact getD_mem ha2)
        rcases hz with ⟨e1, e2⟩ | ⟨e1, e2⟩
        · exact absurd (e1 ▸ hxm) c2
        · exact absurd (e2 ▸ hzm) c2
    · rw [if_neg (by simpa using c1)]
      have c1 : ¬ (x = t.1 ∨ x = t.2) := by simpa using c1
      exact goon seen2 _ _ _ hs2 ha2 heq (fun z hz => hz) fun z hz hzm => (c1 (hz.elim (fun y => .inl y.1) fun y => .inr y.1)).elim
theorem m_law_hang : Meets t_law_hang 2 5 sp_law_hang := by
  rintro args Qd Xd ⟨ts, sm, rfl, hl, hsl, hlt, nds, hQ⟩
  show t_law_hang _ _ [_, _, .un, .un, .un, .un, .un]
  unfold t_law_hang
  and_intros
  rw [seq_while]
  cases sm with
  | nil =>
    refine ⟨fun m env => env = [.ext (.lst (ts.map tieD)), .ext (.lst (nD [])), .ext (.lst (nD [])), dI (0 : Nat), .un, .un, .un], ⟨0, rfl⟩, ?_⟩
    rintro m env rfl
    and_intros
    rw [if_neg (by decide)]
    unfold k4_law_hang
    and_intros
    exact hQ _ _ ⟨fun _ h hh => by simp at hh, fun _ => rfl⟩
  | cons h sm' =>
    generalize hsm : h :: sm' = sm at *
    have hhd : sm.head? = some h := by rw [← hsm]; rfl
    have hhm : h ∈ sm := by rw [← hsm]; exact List.mem_cons_self
    rw [show cutD (nD sm) none (some 1) = nD [h] by rw [← hsm]; rfl]
    refine ⟨fun m env => ∃ (seen : List Nat) (at' : Nat) (u4 u5 u6 : Sl), env = [.ext (.lst (ts.map tieD)), .ext (.lst (nD sm)), .ext (.lst (nD seen)), dI (at' : Nat), u4, u5, u6] ∧ m = sm.length - at' ∧ HgS ts sm h seen at' ∧ at' ≤ seen.length, ⟨_, [h], 0, _, _, _, rfl, rfl, ⟨List.pairwise_singleton _ _, fun x hx => by rw [List.mem_singleton.1 hx]; exact hhm, List.mem_cons_self, fun x hx => by rw [List.mem_singleton.1 hx]; exact .base, fun k hk => absurd hk (Nat.not_lt_zero _)⟩, Nat.zero_le _⟩, ?_⟩
    rintro m env ⟨seen, at', u4, u5, u6, rfl, rfl, hs, hat⟩
    have hle := nd_sub_len hs.nd hs.sub
    and_intros
    rw [nD_len]
    by_cases hlt2 : at' < seen.length
    · rw [if_pos (by simpa using hlt2)]
      refine q3_hang hl hsl hlt (fun seen' u4 u5 u6 hs' ha' => ?_) hs hlt2
      exact ⟨sm.length - (at' + 1), by omega, seen', at' + 1, u4, u5, u6, rfl, rfl, hs', ha'⟩
    · rw [if_neg (by simpa using hlt2)]
      have ea : at' = seen.length := by omega
      unfold k4_law_hang
      and_intros
      rw [nD_len, nD_len]
      refine hQ _ _ ?_
      have := seen_iff hhd nds hs.nd hs.sub hs.hin hs.lk fun x hx z hz hzm => by
        obtain ⟨k, hk, e⟩ := List.getElem_of_mem hx
        refine hs.cl k (by omega) z ?_ hzm
        rw [List.getD_eq_getElem?_getD, List.getElem?_eq_getElem hk]
        show z ∈ nearN ts seen[k]
        rw [e]
        exact hz
      rw [← this]
      simp
      omega
def sp_law_whole_number : DSpec := sp_is_whole
abbrev t_law_whole_number := K02.t_law_whole_number
theorem m_law_whole_number : Meets t_law_whole_number 1 0 sp_law_whole_number := K02.m_law_whole_number
def sp_law_are_ties : DSpec := fun args Q _ => ∃ (m : Nat) (d : D) (k : Nat), args = [.ext d, dI (m : Nat)] ∧ 1 ≤ m ∧ m ≤ 12 ∧ D.pl k d = true ∧ ∀ (b : Bool) fin, (b = true ↔ TreeD m d) → Q (.ext (.bl b)) fin
def k1_law_are_ties : DTS :=
    (sIf (dNot (dTest (dChain3 (fCmp fun i j => decide (i ≤ j)) (fCmp fun i j => decide (i < j)) (fCmp fun i j => decide (i < j)) (dC (.int 0)) (dOp fIx (dVar 2) (dC (.int 0))) (dOp fIx (dVar 2) (dC (.int 1))) (dVar 1)))) (sRet (dC (.bl false))) sNext)
def k2_law_are_ties : DTS :=
    (sSeq (sIf (dOr (dNot (dTest (dCall sp_law_whole_number (dCons (dOp fIx (dVar 2) (dC (.int 0))) dNil)))) (dNot (dTest (dCall sp_law_whole_number (dCons (dOp fIx (dVar 2) (dC (.int 1))) dNil))))) (sRet (dC (.bl false))) sNext)
    k1_law_are_ties)
def b3_law_are_ties : DTS :=
    (sSeq (sIf (dOr (dNot (dTest (dCB fIsi (dCons (dVar 2) (dCons (dC (.val (.ty "tuple"))) dNil))))) (dTest (dOp fNe (dCB fLen (dCons (dVar 2) dNil)) (dC (.int 2))))) (sRet (dC (.bl false))) sNext)
    k2_law_are_ties)
def k4_law_are_ties : DTS :=
    (sRet (dAndV (dOp fEq (dCB fList (dCons (dVar 0) dNil)) (dSortSetP (dVar 0))) (dCall sp_law_hang (dCons (dCB fList (dCons (dVar 0) dNil)) (dCons (dLstRg (dRg1 (dVar 1))) dNil)))))
def k5_law_are_ties : DTS :=
    (sSeq (sFor (dSeq (dVar 0)) (gSet 2) b3_law_are_ties)
    k4_law_are_ties)
def t_law_are_ties : DTS :=
    (sSeq (sIf (dOr (dNot (dTest (dCB fIsi (dCons (dVar 0) (dCons (dC (.val (.ty "tuple"))) dNil))))) (dTest (dOp fNe (dCB fLen (dCons (dVar 0) dNil)) (dOp fSub (dVar 1) (dC (.int 1)))))) (sRet (dC (.bl false))) sNext)
    k5_law_are_ties)
theorem b3_ok {Ex : DX} {E : DEnds} {d0 e : D} {m j : Nat} (hp : D.pl j e = true)
    (hE : TieD (m : Nat) e → E.nx [.ext d0, dI (m : Nat), .ext e]) (hF : ¬ TieD (m : Nat) e → ∀ fin, E.rt (.ext (.bl false)) fin) : b3_law_are_ties Ex E [.ext d0, dI (m : Nat), .ext e] := by
  have nv := pl_noVal j e hp
  unfold b3_law_are_ties
  cases e with
  | val _ => cases j <;> simp [D.pl] at hp
  | fz _ => cases j <;> simp [D.pl] at hp
  | tk _ => cases j <;> simp [D.pl] at hp
  | exc _ => cases j <;> simp [D.pl] at hp
  | glo _ => cases j <;> simp [D.pl] at hp
  | dk _ _ => cases j <;> simp [D.pl] at hp
  | dt _ _ => cases j <;> simp [D.pl] at hp
  | tup ds =>
    obtain ⟨q, rfl, hl, hds⟩ := pl_tup hp
    and_intros
    refine ⟨nv, rfl, ?_⟩
    and_intros
    rw [if_neg (by decide)]
    by_cases h2 : ds.length = 2
    · rw [if_neg (by simp [h2])]
      obtain ⟨x, y, rfl⟩ : ∃ x y, ds = [x, y] := by
        match ds, h2 with
        | [x, y], _ => exact ⟨x, y, rfl⟩
      have no : ¬ (∃ i j : Int, x = .int i ∧ y = .int j ∧ 0 ≤ i ∧ i < j ∧ j < m) → ¬ TieD (m : Nat) (.tup [x, y]) := fun h ⟨t, e, h3, h4⟩ => h (by
        have e := D.tup.inj e
        exact ⟨(t.1 : Nat), (t.2 : Nat), (List.cons.inj e).1, (List.cons.inj (List.cons.inj e).2).1, by omega, by omega, by omega⟩)
      unfold k2_law_are_ties
      and_intros
      refine ⟨x, q, rfl, hds x (by simp), fun fin => ?_⟩
      and_intros
      cases x with
      | int i =>
        rw [if_neg (by simp [D.isInt])]
        refine ⟨y, q, rfl, hds y (by simp), fun fin => ?_⟩
        and_intros
        cases y with
        | int i2 =>
          rw [if_neg (by simp [D.isInt])]
          unfold k1_law_are_ties
          and_intros
          have key : TieD (m : Nat) (.tup [.int i, .int i2]) ↔ (0 ≤ i ∧ i < i2 ∧ i2 < m) := by
            constructor
            · rintro ⟨t, e, h1, h2⟩
              have e := D.tup.inj e
              have e1 : i = (t.1 : Int) := D.int.inj (List.cons.inj e).1
              have e2 : i2 = (t.2 : Int) := D.int.inj (List.cons.inj (List.cons.inj e).2).1
              omega
            · rintro ⟨h1, h2, h3⟩
              refine ⟨(i.toNat, i2.toNat), ?_, by show i.toNat < i2.toNat; omega, by show ((i2.toNat : Nat) : Int) < m; omega⟩
              show _ = D.tup [.int ((i.toNat : Nat) : Int), .int ((i2.toNat : Nat) : Int)]
              rw [show ((i.toNat : Nat) : Int) = i by omega, show ((i2.toNat : Nat) : Int) = i2 by omega]
          by_cases c1 : 0 ≤ i
          · rw [if_pos (by simpa using c1)]
            by_cases c2 : i < i2
            · rw [if_pos (by simpa using c2)]
              by_cases c3 : i2 < m
              · rw [if_neg (by simpa using c3)]
                exact hE (key.2 ⟨c1, c2, c3⟩)
              · rw [if_pos (by simpa using c3)]
                exact hF (fun z => c3 (key.1 z).2.2) _
            · rw [if_neg (by simpa using c2)]
              exact hF (fun z => c2 (key.1 z).2.1) _
          · rw [if_neg (by simpa using c1)]
            exact hF (fun z => c1 (key.1 z).1) _
        | _ =>
          rw [if_pos (by simp [D.isInt])]
          exact hF (no fun ⟨i, j, _, e, _⟩ => by cases e) _
      | _ =>
        rw [if_pos (by simp [D.isInt])]
        exact hF (no fun ⟨i, j, e, _⟩ => by cases e) _
    · rw [if_pos (by simp; omega)]
      exact hF (fun ⟨t, e, _⟩ => h2 (by rw [D.tup.inj e]; rfl)) _
  | _ =>
    and_intros
    simp only [nv, D.isFz, true_and, Bool.not_true, Bool.not_false, if_true]
    exact hF (fun ⟨t, e, _⟩ => by cases e) _
abbrev cZ (t : NP) : Int × Int := ((t.1 : Int), (t.2 : Int))
def zLN (a b : NP) : Prop := a.1 < b.1 ∨ (a.1 = b.1 ∧ a.2 < b.2)
theorem cZ_inj {a b : NP} (h : cZ a = cZ b) : a = b := by
  have e1 : (a.1 : Int) = b.1 := congrArg Prod.fst h
  have e2 : (a.2 : Int) = b.2 := congrArg Prod.snd h
  exact Prod.ext (by omega) (by omega)
theorem casts {l : List (Int × Int)} (h : ∀ p ∈ l, ∃ t : NP, p = cZ t) : ∃ us : List NP, l = us.map cZ := by
  induction l with
  | nil => exact ⟨[], rfl⟩
  | cons p l ih =>
    obtain ⟨us, e⟩ := ih fun q hq => h q (List.mem_cons_of_mem _ hq)
    obtain ⟨t, e2⟩ := h p List.mem_cons_self
    exact ⟨t :: us, by rw [e, e2]; rfl⟩
theorem zl_nodup {l : List NP} (h : l.Pairwise zLN) : l.Nodup := h.imp fun {a b} h e => by
  subst e
  unfold zLN at h
  omega
theorem eqv_ties (a b : List NP) : (D.lst (a.map tieD)).eqv (.lst (b.map tieD)) = decide (a = b) := by
  have key : ∀ a b : List NP, PyData.eqvAll (D.pys (a.map tieD)) (D.pys (b.map tieD)) = decide (a = b) := by
    intro a
    induction a with
    | nil => intro b; cases b <;> rfl
    | cons x a ih =>
      intro b
      cases b with
      | nil => rfl
      | cons y b =>
        have e1 : PyData.eqv (tieD x).py (tieD y).py = decide (x = y) := eqv_tie x y
        show (PyData.eqv (tieD x).py (tieD y).py && PyData.eqvAll (D.pys (a.map tieD)) (D.pys (b.map tieD))) = _
        rw [e1, ih, Bool.eq_iff_iff]
        simp
  exact key a b
open Classical in
theorem m_law_are_ties : Meets t_law_are_ties 2 1 sp_law_are_ties := by
  rintro args Qd Xd ⟨m, d, k, rfl, h1, h12, hp, hQ⟩
  have nv := pl_noVal k d hp
  show t_law_are_ties _ _ [_, _, .un]
  unfold t_law_are_ties
  have no : ∀ {d : D}, (∀ ts : List (Nat × Nat), TreeOk m ts → d ≠ .tup (ts.map tieD)) → (false = true ↔ TreeD m d) := fun h => ⟨fun z => (nomatch z), fun ⟨ts, e, h1⟩ => absurd e (h ts h1)⟩
  cases d with
  | val _ => cases k <;> simp [D.pl] at hp
  | fz _ => cases k <;> simp [D.pl] at hp
  | tk _ => cases k <;> simp [D.pl] at hp
  | exc _ => cases k <;> simp [D.pl] at hp
  | glo _ => cases k <;> simp [D.pl] at hp
  | dk _ _ => cases k <;> simp [D.pl] at hp
  | dt _ _ => cases k <;> simp [D.pl] at hp
  | tup ds =>
    obtain ⟨j, rfl, hl, hds⟩ := pl_tup hp
    and_intros
    refine ⟨nv, rfl, ?_⟩
    and_intros
    rw [if_neg (by decide)]
    by_cases c : ds.length + 1 = m
    · rw [if_neg (by simp; omega)]
      unfold k5_law_are_ties
      and_intros
      refine for_indD (fun es env => ∃ (u : Sl) (pre : List D), env = [.ext (.tup ds), dI (m : Nat), u] ∧ ds = pre ++ es ∧ ∀ e ∈ pre, TieD (m : Nat) e) ?_ ?_ ds _ ⟨_, [], rfl, rfl, fun e he => nomatch he⟩
      · rintro env ⟨u, pre, rfl, he, hpre⟩
        rw [List.append_nil] at he
        subst he
        refine ⟨True.intro, ?_⟩
        obtain ⟨ts, rfl, hts⟩ := all_of tieD (P := TieD (m : Nat)) (R := fun t : Nat × Nat => t.1 < t.2 ∧ t.2 < m) (fun d ⟨t, e, h1, h2⟩ => ⟨t, e, h1, by omega⟩) ds hpre
        unfold k4_law_are_ties
        and_intros
        rw [List.length_map] at c
        refine ⟨ts.map cZ, by rw [List.map_map]; rfl, by rw [List.length_map]; omega, fun p hp => ?_, fun ps' hpw hmem => ?_⟩
        · obtain ⟨t, ht, rfl⟩ := List.mem_map.1 hp
          have := hts t ht
          show (0 ≤ ((t.1 : Nat) : Int) ∧ ((t.1 : Nat) : Int) < 64) ∧ 0 ≤ ((t.2 : Nat) : Int) ∧ ((t.2 : Nat) : Int) < 64
          omega
        obtain ⟨us, rfl⟩ := casts (l := ps') fun p hp => by
          obtain ⟨t, _, rfl⟩ := List.mem_map.1 ((hmem p).1 hp)
          exact ⟨t, rfl⟩
        have hus : us.Pairwise zLN := by
          rw [List.pairwise_map] at hpw
          refine hpw.imp fun {a b} h => ?_
          have h : ((a.1 : Nat) : Int) < b.1 ∨ (((a.1 : Nat) : Int) = b.1 ∧ ((a.2 : Nat) : Int) < b.2) := h
          show a.1 < b.1 ∨ (a.1 = b.1 ∧ a.2 < b.2)
          omega
        have hm2 : ∀ t, t ∈ us ↔ t ∈ ts := fun t => by
          have := hmem (cZ t)
          rw [List.mem_map, List.mem_map] at this
          constructor
          · intro h
            obtain ⟨q, hq, e⟩ := this.1 ⟨t, h, rfl⟩
            exact cZ_inj e ▸ hq
          · intro h
            obtain ⟨q, hq, e⟩ := this.2 ⟨t, h, rfl⟩
            exact cZ_inj e ▸ hq
        rw [show (us.map cZ).map pairZ = us.map tieD by rw [List.map_map]; rfl]
        refine ⟨cmp_ties _, cmp_ties _, ?_⟩
        by_cases ceq : ts = us
        · subst ceq
          rw [if_pos (eqv_refl (cmp_ties _))]
          refine fun a1 => ⟨RgOk.of_le (by omega) (by omega) (by omega) (by omega), fun a2 => ?_⟩
          rw [rgD_nat]
          refine ⟨ts, List.range m, rfl, by omega, by rw [List.length_range]; omega, fun t ht => (hts t ht).1, List.nodup_range, fun b fin hb => ?_⟩
          and_intros
          exact hQ _ _ (hb.trans ⟨fun hh => ⟨ts, rfl, c, by omega, hts, hus, hh⟩, fun ⟨ts', e, h⟩ => by rw [tie_inj (D.tup.inj e)]; exact h.hang⟩)
        · rw [if_neg (by rw [eqv_ties, decide_eq_true_eq]; exact ceq)]
          refine hQ _ _ (no fun ts' ht z => ceq ?_)
          rw [← tie_inj (D.tup.inj z)] at ht
          exact sorted_one (r := zLN) (fun a b h h' => by unfold zLN at h h'; omega) ((List.perm_ext_iff_of_nodup (zl_nodup ht.up) (zl_nodup hus)).2 fun t => (hm2 t).symm) ht.up hus
      · rintro e es env N ⟨u, pre, rfl, he, hpre⟩ hN
        refine ⟨True.intro, ?_⟩
        refine b3_ok (hds e (by rw [he]; simp)) (fun ht => hN _ ⟨_, pre ++ [e], rfl, by rw [List.append_assoc]; exact he, fun x hx => ?_⟩) fun hn fin => ?_
        · rcases List.mem_append.1 hx with z | z
          · exact hpre x z
          · rw [List.mem_singleton.1 z]; exact ht
        · and_intros
          refine hQ _ _ (no fun ts ht z => hn ?_)
          have : e ∈ ts.map tieD := by rw [← D.tup.inj z, he]; simp
          obtain ⟨t, htm, rfl⟩ := List.mem_map.1 this
          have := ht.lt t htm
          exact ⟨t, rfl, this.1, by omega⟩
    · rw [if_pos (by simp; omega)]
      refine hQ _ _ (no fun ts' ht z => c ?_)
      rw [D.tup.inj z, List.length_map]
      exact ht.len
  | _ =>
    and_intros
    simp only [nv, D.isFz, true_and, Bool.not_true, Bool.not_false, if_true]
    exact hQ _ _ (no fun ts _ z => by cases z)
abbrev t_law_are_names := K01.t_law_are_names
abbrev sp_law_are_names := K01.sp_law_are_names
theorem m_law_are_names : Meets t_law_are_names 2 2 sp_law_are_names := K01.m_law_are_names
def sp_law_is_tree : DSpec := fun args Q _ => ∃ (S : List Nat) (ps : List Part) (d : D) (k : Nat), args = [.ext (dSh S ps), .ext d] ∧ NsOk S ps ∧ D.pl k d = true ∧ ∀ (b : Bool) fin, (b = true ↔ BtD S ps d) → Q (.ext (.bl b)) fin
def e1_law_is_tree : DT :=
    (dC (.int 1))
def e2_law_is_tree : DT :=
    (dVar 7)
def e3_law_is_tree : DT :=
    (dC (.int 1))
def b4_law_is_tree : DTS :=
    (sIf (dTest (dOp fEq (dCB fLen (dCons (dLc (dSeq (dVar 3)) (gSet 5) (dTest (dOp fEq (dCB fLen (dCons (dLc (dSeq (dOp fIx (dVar 6) (dC (.int 0)))) (gSet 7) (dTest (dOp (fIn true) (dVar 7) (dVar 5))) e2_law_is_tree [7]) dNil)) (dC (.int 0)))) e3_law_is_tree [5]) dNil)) (dC (.int 0)))) (sRet (dC (.bl false))) sNext)
def e5_law_is_tree : DT :=
    (dVar 9)
def b6_law_is_tree : DTS :=
    (sSeq (sSetE 8 (dLc (dRange1 (dCons (dCB fLen (dCons (dVar 3) dNil)) dNil)) (gSet 9) (dTest (dOp (fIn false) (dVar 7) (dOp fIx (dVar 3) (dVar 9)))) e5_law_is_tree [9]))
    (sIf (dOr (dTest (dOp fEq (dCB fLen (dCons (dVar 8) dNil)) (dC (.int 0)))) (dNot (dTest (dCall sp_law_hang (dCons (dCB fList (dCons (dVar 4) dNil)) (dCons (dVar 8) dNil)))))) (sRet (dC (.bl false))) sNext))
def k7_law_is_tree : DTS :=
    (sRet (dC (.bl true)))
def k8_law_is_tree : DTS :=
    (sSeq (sFor (dRange1 (dCons (dVar 2) dNil)) (gSet 7) b6_law_is_tree)
    k7_law_is_tree)
def k9_law_is_tree : DTS :=
    (sSeq (sIf (dNot (dTest (dCall sp_law_are_ties (dCons (dVar 4) (dCons (dCB fLen (dCons (dVar 3) dNil)) dNil))))) (sRet (dC (.bl false))) sNext)
    (sSeq (sFor (dSeq (dOp fIx (dVar 0) (dC (.int 1)))) (gSet 6) b4_law_is_tree)
    k8_law_is_tree))
def k10_law_is_tree : DTS :=
    (sSeq (sAsg (dVar 1) (gTupD 2 (gsCons (gSet 3) (gsCons (gSet 4) gsNil))))
    (sSeq (sIf (dOr (dTest (dOp (fCmp fun i j => decide (i < j)) (dCB fLen (dCons (dVar 3) dNil)) (dC (.int 1)))) (dOr (dTest (dOp (fCmp fun i j => decide (j < i)) (dCB fLen (dCons (dVar 3) dNil)) (dC (.int 12)))) (dTest (dOp (fCmp fun i j => decide (j < i)) (dCB fLen (dCons (dLc (dSeq (dVar 3)) (gSet 5) (dNot (dTest (dCall sp_law_are_names (dCons (dVar 5) (dCons (dVar 2) dNil))))) e1_law_is_tree [5]) dNil)) (dC (.int 0)))))) (sRet (dC (.bl false))) sNext)
    k9_law_is_tree))
def t_law_is_tree : DTS :=
    (sSeq (sSetE 2 (dCB fLen (dCons (dOp fIx (dVar 0) (dC (.int 0))) dNil)))
    (sSeq (sIf (dOr (dNot (dTest (dCB fIsi (dCons (dVar 1) (dCons (dC (.val (.ty "tuple"))) dNil))))) (dOr (dTest (dOp fNe (dCB fLen (dCons (dVar 1) dNil)) (dC (.int 2)))) (dNot (dTest (dCB fIsi (dCons (dOp fIx (dVar 1) (dC (.int 0))) (dCons (dC (.val (.ty "tuple"))) dNil))))))) (sRet (dC (.bl false))) sNext)
    k10_law_is_tree))
section
variable {Ex : DX} {E : DEnds} {S : List Nat} {ps : List Part} {Bs : List (List Nat)} {ts : List NP} {y : D} {j : Nat} {u5 u6 u7 u8 u9 : Sl}
abbrev itE (S : List Nat) (ps : List Part) (Bs : List (List Nat)) (y : D) (u5 u6 u7 u8 u9 : Sl) : Env' := [.ext (dSh S ps), .ext (.tup [.tup (fD Bs), y]), dI (S.length : Nat), .ext (.tup (fD Bs)), .ext y, u5, u6, u7, u8, u9]
theorem k8_ok (hb1 : 1 ≤ Bs.length) (hb : Bs.length ≤ 12) (h24 : S.length ≤ 24) (tk : TreeOk Bs.length ts)
    (hE : (∀ x, x < S.length → (∃ i ∈ List.range Bs.length, x ∈ Bs.getD i []) ∧ HangN ts ((List.range Bs.length).filter fun i => decide (x ∈ Bs.getD i []))) → ∀ fin, E.rt (.ext (.bl true)) fin)
    (hF : ¬ (∀ x, x < S.length → (∃ i ∈ List.range Bs.length, x ∈ Bs.getD i []) ∧ HangN ts ((List.range Bs.length).filter fun i => decide (x ∈ Bs.getD i []))) → ∀ fin, E.rt (.ext (.bl false)) fin) : k8_law_is_tree Ex E (itE S ps Bs (.tup (ts.map tieD)) u5 u6 u7 u8 u9) := by
  have htl := tk.len
  unfold k8_law_is_tree
  and_intros
  refine ⟨⟨by omega, by omega⟩, ?_⟩
  rw [rgD_nat]
  refine for_ind (fun i : Nat => D.int (i : Nat)) (fun xs env => ∃ (u5 u6 u7 u8 u9 : Sl) (pr : List Nat), env = itE S ps Bs (.tup (ts.map tieD)) u5 u6 u7 u8 u9 ∧ List.range S.length = pr ++ xs ∧ ∀ x ∈ pr, (∃ i ∈ List.range Bs.length, x ∈ Bs.getD i []) ∧ HangN ts ((List.range Bs.length).filter fun i => decide (x ∈ Bs.getD i []))) ?_ ?_ (List.range S.length) _ ⟨_, _, _, _, _, [], rfl, rfl, fun x hx => nomatch hx⟩
  · rintro env ⟨u5, u6, u7, u8, u9, pr, rfl, he, hpr⟩
    rw [List.append_nil] at he
    refine ⟨True.intro, ?_⟩
    unfold k7_law_is_tree
    and_intros
    exact hE (fun x hx => hpr x (by rw [← he]; exact List.mem_range.2 hx)) _
  rintro x xs env N ⟨u5, u6, u7, u8, u9, pr, rfl, he, hpr⟩ hN
  have hx : x < S.length := List.mem_range.1 (by rw [he]; simp)
  refine ⟨True.intro, ?_⟩
  unfold b6_law_is_tree
  and_intros
  rw [fD_len, rgD_nat]
  refine ⟨⟨by omega, by omega⟩, ?_⟩
  refine lc_filter (fun i : Nat => D.int (i : Nat)) (fun i : Nat => D.int (i : Nat)) (fun i => decide (x ∈ Bs.getD i [])) True.intro (List.range Bs.length) (by rw [List.length_range]; exact Nat.le_trans (by omega : _ ≤ 100) (by decide)) (fun i hi R hR => ?_) fun b => ?_
  · have hi := List.mem_range.1 hi
    and_intros
    have e1 : (fD Bs)[i]? = some (D.tup (nD (Bs.getD i []))) := by
      unfold fD
      rw [List.getElem?_map, List.getD_eq_getElem?_getD, List.getElem?_eq_getElem hi]
      rfl
    refine ⟨_, atN e1, ?_⟩
    and_intros
    rw [isIn_nat]
    refine ⟨rfl, flat_nD _, ?_⟩
    unfold e5_law_is_tree
    split
    · rename_i h0
      rw [if_pos h0] at hR
      and_intros
      exact hR
    · rename_i h0
      rw [if_neg h0] at hR
      exact hR
  and_intros
  generalize hs : (List.range Bs.length).filter (fun i => decide (x ∈ Bs.getD i [])) = sm
  have hsl : sm.length ≤ 100 := by
    rw [← hs]
    refine Nat.le_trans (List.length_filter_le _ _) ?_
    rw [List.length_range]
    omega
  rw [List.length_map]
  cases hsm : sm with
  | nil =>
    rw [if_pos (by rfl)]
    refine hF (fun bt => ?_) _
    obtain ⟨⟨i, hi, hxi⟩, _⟩ := bt x hx
    have : i ∈ ([] : List Nat) := by rw [← hsm, ← hs]; exact List.mem_filter.2 ⟨hi, decide_eq_true hxi⟩
    cases this
  | cons y sm' =>
    rw [if_neg (by simp only [beq_iff_eq, List.length_cons]; omega)]
    rw [← hsm]
    intro a1
    refine ⟨ts, sm, rfl, by omega, hsl, fun t ht => (tk.lt t ht).1, by rw [← hs]; exact List.nodup_range.filter _, fun b fin hb => ?_⟩
    and_intros
    cases b with
    | false =>
      rw [if_pos (by decide)]
      refine hF (fun bt => ?_) _
      have := (bt x hx).2
      rw [hs] at this
      exact absurd (hb.2 this) (by decide)
    | true =>
      rw [if_neg (by decide)]
      refine hN _ ⟨_, _, _, _, _, pr ++ [x], rfl, by rw [List.append_assoc]; exact he, fun z hz => ?_⟩
      rcases List.mem_append.1 hz with hz | hz
      · exact hpr z hz
      · rw [List.mem_singleton.1 hz]
        refine ⟨?_, by rw [hs]; exact hb.1 rfl⟩
        have hy : y ∈ (List.range Bs.length).filter fun i => decide (x ∈ Bs.getD i []) := by rw [hs, hsm]; exact List.mem_cons_self
        obtain ⟨a1, a2⟩ := List.mem_filter.1 hy
        exact ⟨y, a1, of_decide_eq_true a2⟩
theorem k9_ok (ok : NsOk S ps) (hb1 : 1 ≤ Bs.length) (hb : Bs.length ≤ 12) (hB : ∀ B ∈ Bs, Rising B ∧ ∀ m ∈ B, m < S.length) (py : D.pl j y = true)
    (hQ : ∀ (b : Bool) fin, (b = true ↔ BtD S ps (.tup [.tup (fD Bs), y])) → E.rt (.ext (.bl b)) fin) : k9_law_is_tree Ex E (itE S ps Bs y u5 u6 .un u8 u9) := by
  have h24 := ok.few
  unfold k9_law_is_tree
  and_intros
  rw [fD_len]
  refine ⟨Bs.length, y, j, rfl, hb1, hb, py, fun b fin hb2 => ?_⟩
  and_intros
  have no : (∀ Bs' ts, BTree S.length (gsOf ps) Bs' ts → D.tup [.tup (fD Bs), y] ≠ dTree Bs' ts) → (false = true ↔ BtD S ps (.tup [.tup (fD Bs), y])) := fun h => ⟨fun z => (nomatch z), fun ⟨Bs, ts, e, h1⟩ => absurd e (h Bs ts h1)⟩
  cases b with
  | false =>
    rw [if_pos (by decide)]
    refine hQ _ _ (no fun Bs' ts bt z => ?_)
    have z := D.tup.inj z
    have e : Bs = Bs' := fD_inj (D.tup.inj (List.cons.inj z).1)
    have e2 : y = .tup (ts.map tieD) := (List.cons.inj (List.cons.inj z).2).1
    exact absurd (hb2.2 ⟨ts, e2, by rw [e]; exact bt.tree⟩) (by decide)
  | true =>
    rw [if_neg (by decide)]
    obtain ⟨ts, rfl, tk⟩ := hb2.1 rfl
    have htl := tk.len
    have nob : (¬ BTree S.length (gsOf ps) Bs ts) → (false = true ↔ BtD S ps (.tup [.tup (fD Bs), .tup (ts.map tieD)])) := fun h => no fun Bs' ts' bt z => by
      obtain ⟨e1, e2⟩ := tree_inj (Bs := Bs) (ts := ts) z
      rw [← e1, ← e2] at bt
      exact h bt
    refine for_ind dP (fun qs env => ∃ (u5 u6 : Sl) (pre : List Part), env = itE S ps Bs (.tup (ts.map tieD)) u5 u6 .un u8 u9 ∧ ps = pre ++ qs ∧ ∀ q ∈ pre, ∃ B ∈ Bs, ∀ m ∈ q.ns, m ∈ B) ?_ ?_ ps _ ⟨_, _, [], rfl, rfl, fun q hq => nomatch hq⟩
    · rintro env ⟨u5, u6, pre, rfl, he, hpre⟩
      rw [List.append_nil] at he
      subst he
      refine ⟨True.intro, ?_⟩
      refine k8_ok hb1 hb h24 tk (fun hn fin => hQ _ _ ⟨fun _ => ⟨Bs, ts, rfl, hb, fun B h => ⟨(hB B h).1, ?_, (hB B h).2⟩, tk, fun ns hns => ?_, hn⟩, fun _ => rfl⟩) fun hn fin => hQ _ _ (nob fun bt => hn bt.name)
      · have := rising_len (hB B h).1 (hB B h).2
        omega
      · obtain ⟨q, hq, rfl⟩ := List.mem_map.1 hns
        exact hpre q hq
    · rintro p qs env N ⟨u5, u6, pre, rfl, he, hpre⟩ hN
      have hp : p ∈ ps := by rw [he]; simp
      have hnl := rising_len (ok.ok p hp).1 (ok.ok p hp).2
      refine ⟨True.intro, ?_⟩
      unfold b4_law_is_tree
      and_intros
      rw [show fD Bs = Bs.map (fun B => D.tup (nD B)) from rfl]
      refine lc_filter (fun B : List Nat => D.tup (nD B)) (fun _ => D.int 1) (fun B => p.ns.all fun m => decide (m ∈ B)) True.intro Bs (Nat.le_trans hb (by decide)) (fun C hC R hR => ?_) fun b => ?_
      · unfold dP
        and_intros
        refine lc_filter (fun m : Nat => D.int (m : Nat)) (fun m : Nat => D.int (m : Nat)) (fun m => decide (m ∉ C)) True.intro p.ns (Nat.le_trans (by omega : _ ≤ 100) (by decide)) (fun m hm R2 hR2 => ?_) fun b => ?_
        · and_intros
          rw [isIn_nat]
          refine ⟨rfl, flat_nD _, ?_⟩
          unfold e2_law_is_tree
          by_cases hmC : m ∈ C
          · rw [if_neg (by simp [hmC])]
            rw [if_neg (by simp [hmC])] at hR2
            exact hR2
          · rw [if_pos (by simp [hmC])]
            rw [if_pos (by simp [hmC])] at hR2
            and_intros
            exact hR2
        and_intros
        rw [List.length_map]
        unfold e3_law_is_tree
        by_cases hall : ∀ m ∈ p.ns, m ∈ C
        · have e0 : (p.ns.filter fun m => decide (m ∉ C)) = [] := List.filter_eq_nil_iff.2 fun m hm => by simp [hall m hm]
          rw [e0]
          rw [if_pos (by simpa using hall)] at hR
          rw [if_pos (by rfl)]
          and_intros
          exact hR
        · have e0 : 0 < (p.ns.filter fun m => decide (m ∉ C)).length := List.length_pos_iff.2 fun z => hall fun m hm => by
            have := List.filter_eq_nil_iff.1 z m hm
            simpa using this
          rw [if_neg (by simpa using hall)] at hR
          rw [if_neg (by simp only [beq_iff_eq]; omega)]
          exact hR
      and_intros
      rw [List.length_map]
      by_cases hex : ∃ B ∈ Bs, ∀ m ∈ p.ns, m ∈ B
      · have e0 : 0 < (Bs.filter fun B => p.ns.all fun m => decide (m ∈ B)).length := by
          obtain ⟨B, hB1, hB2⟩ := hex
          exact List.length_pos_of_mem (List.mem_filter.2 ⟨hB1, by simpa using hB2⟩)
        rw [if_neg (by simp only [beq_iff_eq]; omega)]
        refine hN _ ⟨_, _, pre ++ [p], rfl, by rw [List.append_assoc]; exact he, fun z hz => ?_⟩
        rcases List.mem_append.1 hz with hz | hz
        · exact hpre z hz
        · rw [List.mem_singleton.1 hz]; exact hex
      · have e0 : (Bs.filter fun B => p.ns.all fun m => decide (m ∈ B)) = [] := List.filter_eq_nil_iff.2 fun B hB1 hB2 => hex ⟨B, hB1, by simpa using hB2⟩
        rw [e0, if_pos (by rfl)]
        exact hQ _ _ (nob fun bt => hex (bt.part p.ns (List.mem_map.2 ⟨p, hp, rfl⟩)))
end
open Classical in
theorem m_law_is_tree : Meets t_law_is_tree 2 8 sp_law_is_tree := by
  rintro args Qd Xd ⟨S, ps, d, k, rfl, ok, hp, hQ⟩
  have h24 := ok.few
  have nv := pl_noVal k d hp
  show t_law_is_tree _ _ [_, _, .un, .un, .un, .un, .un, .un, .un, .un]
  unfold t_law_is_tree
  have no : ∀ {d : D}, (∀ Bs ts, BTree S.length (gsOf ps) Bs ts → d ≠ dTree Bs ts) → (false = true ↔ BtD S ps d) := fun h => ⟨fun z => (nomatch z), fun ⟨Bs, ts, e, h1⟩ => absurd e (h Bs ts h1)⟩
  cases d with
  | val _ => cases k <;> simp [D.pl] at hp
  | fz _ => cases k <;> simp [D.pl] at hp
  | tk _ => cases k <;> simp [D.pl] at hp
  | exc _ => cases k <;> simp [D.pl] at hp
  | glo _ => cases k <;> simp [D.pl] at hp
  | dk _ _ => cases k <;> simp [D.pl] at hp
  | dt _ _ => cases k <;> simp [D.pl] at hp
  | tup ds =>
    obtain ⟨j, rfl, hl, hds⟩ := pl_tup hp
    and_intros
    refine ⟨nv, rfl, ?_⟩
    and_intros
    rw [if_neg (by decide)]
    by_cases h2 : ds.length = 2
    · obtain ⟨x, y, rfl⟩ : ∃ x y, ds = [x, y] := by
        match ds, h2 with
        | [x, y], _ => exact ⟨x, y, rfl⟩
      rw [if_neg (by simp)]
      and_intros
      have px := hds x (by simp)
      have nx := pl_noVal j x px
      cases x with
      | val _ => cases j <;> simp [D.pl] at px
      | fz _ => cases j <;> simp [D.pl] at px
      | tk _ => cases j <;> simp [D.pl] at px
      | exc _ => cases j <;> simp [D.pl] at px
      | glo _ => cases j <;> simp [D.pl] at px
      | dk _ _ => cases j <;> simp [D.pl] at px
      | dt _ _ => cases j <;> simp [D.pl] at px
      | tup bs =>
        have px' := px
        have py := hds y (by simp)
        obtain ⟨j2, ej, hbl, hbs⟩ := pl_tup px'
        and_intros
        refine ⟨nx, rfl, ?_⟩
        and_intros
        rw [if_neg (by decide)]
        have bgs : ∀ {Bs ts}, D.tup [D.tup bs, y] = dTree Bs ts → bs = fD Bs := fun {Bs ts} z => D.tup.inj (List.cons.inj (D.tup.inj z)).1
        unfold k10_law_is_tree
        and_intros
        rw [nD_len]
        by_cases c1 : ((bs.length : Nat) : Int) < 1
        · rw [if_pos c1]
          exact hQ _ _ (no fun Bs ts bt z => by
            have e := congrArg List.length (bgs z)
            rw [fD_len] at e
            have := bt.tree.len
            omega)
        rw [if_neg c1]
        by_cases c2 : 12 < ((bs.length : Nat) : Int)
        · rw [if_pos c2]
          exact hQ _ _ (no fun Bs ts bt z => by
            have e := congrArg List.length (bgs z)
            rw [fD_len] at e
            have := bt.few
            omega)
        rw [if_neg c2]
        refine K02.lc_filterD (fun _ => .int 1) (fun e => !decide (NamesD (S.length : Nat) e)) True.intro bs (Nat.le_trans (by omega : bs.length ≤ 100) (by decide)) (fun e he R hR => ?_) fun b8 => ?_
        · and_intros
          refine ⟨_, e, j2, rfl, hbs e he, fun b fin hb => ?_⟩
          and_intros
          rw [show b = decide (NamesD (S.length : Nat) e) by rw [Bool.eq_iff_iff, decide_eq_true_eq]; exact hb]
          unfold e1_law_is_tree
          split
          · rename_i h0
            rw [if_pos h0] at hR
            and_intros
            exact hR
          · rename_i h0
            rw [if_neg h0] at hR
            exact hR
        and_intros
        rw [List.length_map]
        by_cases c3 : ∀ e ∈ bs, NamesD (S.length : Nat) e
        · rw [if_neg (by
            rw [List.filter_eq_nil_iff.2 fun e he => by rw [decide_eq_true (c3 e he)]; decide]
            decide)]
          obtain ⟨Bs, rfl, hB⟩ := all_of (fun B : List Nat => D.tup (nD B)) (P := NamesD (S.length : Nat)) (R := fun B => Rising B ∧ ∀ m ∈ B, m < S.length) (fun d ⟨ns, e, h1, h2⟩ => ⟨ns, e, h1, fun m hm => by have := h2 m hm; omega⟩) bs c3
          rw [List.length_map] at c1 c2
          exact k9_ok ok (by omega) (by omega) hB py (fun b fin h => by
            and_intros
            exact hQ b _ h)
        · rw [if_pos (by
            refine Int.ofNat_lt.2 (List.length_pos_iff.2 fun z => c3 fun e he => ?_)
            have := List.filter_eq_nil_iff.1 z e he
            simpa using this)]
          exact hQ _ _ (no fun Bs ts bt z => c3 fun e he => by
            rw [bgs z] at he
            obtain ⟨B, hB, rfl⟩ := List.mem_map.1 he
            obtain ⟨b1, _, b3⟩ := bt.bag B hB
            exact ⟨B, rfl, b1, fun m hm => by have := b3 m hm; omega⟩)
      | _ =>
        and_intros
        simp only [nx, D.isFz, true_and, Bool.not_true, Bool.not_false, if_true]
        exact hQ _ _ (no fun Bs ts _ z => by
          have := (List.cons.inj (D.tup.inj z)).1
          cases this)
    · rw [if_pos (by simp; omega)]
      refine hQ _ _ (no fun Bs ts _ z => h2 ?_)
      unfold dTree at z
      rw [D.tup.inj z]
      rfl
  | _ =>
    and_intros
    simp only [nv, D.isFz, true_and, Bool.not_true, Bool.not_false, if_true]
    exact hQ _ _ (no fun Bs ts _ z => by unfold dTree at z; cases z)
theorem rtree_of {n : Nat} {gs Bs : List (List Nat)} {ts : List NP} (bt : BTree n gs Bs ts) : ∃ root up rk, RTree n gs Bs ts root up rk := by
  obtain ⟨root, up, rk, tr⟩ := tr_of bt.tree.len bt.tree.lt bt.tree.nd bt.tree.hang
  refine ⟨root, up, rk, ⟨tr, fun B hB => ⟨(bt.bag B hB).1, (bt.bag B hB).2.2⟩, fun x => ?_⟩, fun ns hns => ?_, fun x hx => ?_⟩
  · by_cases hx : x < n
    · obtain ⟨top, ht⟩ := rip_of tr (sm := (List.range Bs.length).filter fun i => decide (x ∈ Bs.getD i [])) (fun i hi => List.mem_range.1 (List.mem_filter.1 hi).1) (bt.name x hx).2
      refine ⟨top, fun b hb hxb => ?_⟩
      rcases ht b (List.mem_filter.2 ⟨List.mem_range.2 hb, decide_eq_true hxb⟩) with z | ⟨z1, z2⟩
      · exact .inl z
      · exact .inr ⟨z1, of_decide_eq_true (List.mem_filter.1 z2).2⟩
    · refine ⟨0, fun b hb hxb => absurd ((bt.bag _ (bg_mem hb)).2.2 x hxb) hx⟩
  · obtain ⟨B, hB, h⟩ := bt.part ns hns
    obtain ⟨i, hi, rfl⟩ := List.getElem_of_mem hB
    refine ⟨i, hi, fun m hm => ?_⟩
    show m ∈ Bs.getD i []
    rw [List.getD_eq_getElem?_getD, List.getElem?_eq_getElem hi]
    exact h m hm
  · obtain ⟨⟨i, hi, h⟩, _⟩ := bt.name x hx
    exact ⟨i, List.mem_range.1 hi, h⟩
def sp_law_kept : DSpec := fun args Q _ => ∃ (S : List Nat) (ps : List Part) (d : D) (k : Nat), args = [.ext (dSh S ps), .ext d] ∧ NsOk S ps ∧ SzOk S ∧ (∀ p ∈ ps, p.Ok S) ∧ (∀ p ∈ ps, Bd 40 p) ∧ ps.length ≤ 60 ∧ D.pl k d = true ∧ ∀ (b : Bool) fin, (b = true ↔ BtD S ps d) → Q (.ext (.bl b)) fin
def cs50 : List Str := ["NoTree"]
def t_law_kept : DTS :=
    (sSeq (sSetE 2 (dC .non))
    (sSeq (sTryKeep cs50 3 2 (sDrop (dMake "Keeper" sp_Keeper_init [0, 0, 0] (dCons (dC (.str (Str.ofString "sum"))) (dCons (dVar 0) (dCons (dVar 1) dNil))))))
    (sRet (dOp fIsN (dVar 2) (dC .non)))))
theorem m_law_kept : Meets t_law_kept 2 2 sp_law_kept := by
  rintro args Qd Xd ⟨S, ps, d, k, rfl, nok, hS, ok, bd, hl, hp, hQ⟩
  show t_law_kept _ _ [_, _, .un, .un]
  by_cases hb : BtD S ps d
  · obtain ⟨Bs, ts, rfl, bt⟩ := hb
    obtain ⟨root, up, rk, hR⟩ := rtree_of bt
    have htl : ts.length ≤ 100 := by have := bt.tree.len; have := bt.few; omega
    have pa : PostAll S ps Bs ts root up rk := post_all hR hS ok bd hl (by have := bt.few; omega) htl fun t ht => (bt.tree.lt t ht).1
    unfold t_law_kept
    and_intros
    show sTryKeep cs50 3 2 _ _ _ _
    unfold sTryKeep
    and_intros
    intro ka kdx kne
    refine .inr ⟨ka, kdx, .sum, S, ps, Bs, ts, root, up, rk, 40, rfl, kne, nok, bt, pa, htl, by have := bt.few; omega, ok, by decide, by omega, bd, fun A nrs e _ nd hP I => ?_⟩
    refine ⟨rfl, ?_⟩
    refine giveN3 ?_
    and_intros
    exact hQ _ _ ⟨fun _ => ⟨Bs, ts, rfl, bt⟩, fun _ => rfl⟩
  · unfold t_law_kept
    and_intros
    show sTryKeep cs50 3 2 _ _ _ _
    unfold sTryKeep
    and_intros
    intro ka kdx kne
    refine .inl ⟨ka, kdx, .sum, S, ps, d, k, rfl, kne, nok, hp, hb, ?_⟩
    refine giveN3 ?_
    refine ⟨by decide, show (3 : Nat) < 4 by decide, ?_⟩
    and_intros
    exact hQ _ _ ⟨fun z => (nomatch z), fun z => absurd z hb⟩
def sp_law_built : DSpec := fun args Q _ => ∃ (n : Nat) (a : Addr) (ds : List D) (S : List Nat) (ps : List Part), args = [.lst a ds, .ext (dSh S ps)] ∧ JarOk n ds ∧ n + 4000 < 4294967296 ∧ WebOk S ps ∧ S.length ≤ 12 ∧
  ∀ Bs ts ds' fin, TrSt S ps Bs ts → Bs.length ≤ S.length + 5 → (∀ t ∈ ts, t.1 < t.2) → ts.Pairwise pLe → JarOk (n + 4000) ds' → Q (.ext (dTree Bs ts)) (.lst a ds' :: fin)
def e1_law_built : DT :=
    (dCall sp_law_bag (dCons (dVar 2) (dCons (dSl (dVar 3) dNoPart (dPart (dVar 5))) (dCons (dOp fIx (dVar 3) (dVar 5)) dNil))))
def e2_law_built : DT :=
    (dVar 9)
def b3_law_built : DTS :=
    (sIf (dTest (dOp fEq (dCB fLen (dCons (dLc (dSeq (dOp fIx (dVar 4) (dVar 5))) (gSet 9) (dAnd (dTest (dOp fNe (dVar 9) (dOp fIx (dVar 3) (dVar 5)))) (dTest (dOp (fIn true) (dVar 9) (dOp fIx (dVar 4) (dVar 8))))) e2_law_built [9]) dNil)) (dC (.int 0)))) (sDrop (dAppend 7 (dVar 8))) sNext)
def k4_law_built : DTS :=
    (sDrop (dAppend 6 (dTup (dCons (dVar 5) (dCons (dOp fIx (dVar 7) (dCallJ sp_law_dip 0 (dCons (dCB fLen (dCons (dVar 7) dNil)) dNil))) dNil)))))
def b5_law_built : DTS :=
    (sSeq (sSet 7 (dLst dNil))
    (sSeq (sFor (dRange2 (dCons (dOp fAdd (dVar 5) (dC (.int 1))) (dCons (dCB fLen (dCons (dVar 3) dNil)) dNil))) (gSet 8) b3_law_built)
    k4_law_built))
def e6_law_built : DT :=
    (dVar 12)
def b7_law_built : DTS :=
    (sSeq (sSetE 11 (dCallJ sp_law_dip 0 (dCons (dCB fLen (dCons (dVar 4) dNil)) dNil)))
    (sSeq (sDrop (dAppend 4 (dCB fTuple (dCons (dLc (dSeq (dOp fIx (dVar 4) (dVar 11))) (gSet 12) (dTest (dOp fEq (dCallJ sp_law_dip 0 (dCons (dC (.int 2)) dNil)) (dC (.int 0)))) e6_law_built [12]) dNil))))
    (sDrop (dAppend 6 (dTup (dCons (dVar 11) (dCons (dOp fSub (dCB fLen (dCons (dVar 4) dNil)) (dC (.int 1))) dNil)))))))
def k8_law_built : DTS :=
    (sRet (dTup (dCons (dCB fTuple (dCons (dVar 4) dNil)) (dCons (dCB fTuple (dCons (dCB fSortD (dCons (dVar 6) dNil)) dNil)) dNil))))
def k9_law_built : DTS :=
    (sSeq (sFor (dRange1 (dCons (dCallJ sp_law_dip 0 (dCons (dOp fIx (dLst (dCons (dC (.int 3)) (dCons (dC (.int 6)) dNil))) (dCB fInt (dCons (dOp (fCmp fun i j => decide (j < i)) (dCB fLen (dCons (dVar 4) dNil)) (dC (.int 7))) dNil))) dNil)) dNil)) (gSet 10) b7_law_built)
    k8_law_built)
def t_law_built : DTS :=
    (sSeq (sSetE 2 (dCall sp_law_tied (dCons (dVar 1) dNil)))
    (sSeq (sSetE 3 (dCallJ sp_law_order 0 (dCons (dLstRg (dRg1 (dCB fLen (dCons (dVar 2) dNil)))) dNil)))
    (sSeq (sSet 4 (dLc (dRange1 (dCons (dCB fLen (dCons (dVar 3) dNil)) dNil)) (gSet 5) dYes e1_law_built [5]))
    (sSeq (sSet 6 (dLst dNil))
    (sSeq (sFor (dRange1 (dCons (dOp fSub (dCB fLen (dCons (dVar 3) dNil)) (dC (.int 1))) dNil)) (gSet 5) b5_law_built)
    k9_law_built)))))
theorem cut_take (l : List Nat) (k : Nat) : cutD (nD l) none (some (k : Int)) = nD (l.take k) := by
  unfold cutD
  rw [HT.sIx_none, HT.sIx_nat, List.drop_zero, Nat.sub_zero, show nD (l.take k) = (nD l).take k from List.map_take]
  by_cases hk : k ≤ (nD l).length
  · rw [Nat.min_eq_left hk]
  · rw [Nat.min_eq_right (by omega), List.take_of_length_le (Nat.le_refl _), List.take_of_length_le (by omega)]
section
variable {Ex : DX} {E : DEnds} {n k : Nat} {a b4 a6 a7 : Addr} {ds Tl : List D} {S : List Nat} {ps : List Part} {o : List Nat} {u7 u8 u10 u11 u12 : Sl}
theorem hs100 {k : Nat} (h : k ≤ 100) : k ≤ sizeLine := Nat.le_trans h (by decide)
noncomputable abbrev bE (a : Addr) (ds : List D) (S : List Nat) (ps : List Part) (o : List Nat) (b4 : Addr) (u5 : Sl) (a6 : Addr) (Tl : List D) (u7 u8 u10 u11 u12 : Sl) : Env' := [.lst a ds, .ext (dSh S ps), .ext (.lst (tiDs S.length (gsOf ps))), .ext (.tup (nD o)), .lst b4 ((List.range S.length).map fun k => D.tup (nD (obag S.length (gsOf ps) o k))), u5, .lst a6 Tl, u7, u8, .un, u10, u11, u12]
theorem bag_at (hk : k < S.length) : ((List.range S.length).map fun k => D.tup (nD (obag S.length (gsOf ps) o k)))[k]? = some (D.tup (nD (obag S.length (gsOf ps) o k))) := by
  rw [List.getElem?_map, List.getElem?_range hk]
  rfl
theorem obag_len (h12 : S.length ≤ 12) : (obag S.length (gsOf ps) o k).length ≤ 12 := by
  exact Nat.le_trans (rising_len (m := S.length) (bag_rising S.length (gsOf ps) (o.take k) (o.getD k 0)) fun n hn => (mem_bag.1 hn).1) h12
open Classical in
theorem b5_ok (hj : JarOk n ds) (hn : n + 4 < 4294967296) (h12 : S.length ≤ 12) (nd : o.Nodup) (hol : o.length = S.length) (hmem : ∀ x, x ∈ o ↔ x < S.length) (hk : k + 1 < S.length) (hT : Tl.length ≤ 40)
    (hE : ∀ j ds' u7 u8, HasO S.length (gsOf ps) o k j → JarOk (n + 1) ds' → E.nx (bE a ds' S ps o b4 (dI (k : Nat)) a6 (Tl ++ [tieD (k, j)]) u7 u8 u10 u11 u12)) : b5_law_built Ex E (bE a ds S ps o b4 (dI (k : Nat)) a6 Tl u7 u8 u10 u11 u12) := by
  unfold b5_law_built bE
  and_intros
  refine ⟨by decide, fun a7 => ?_⟩
  rw [nD_len, hol]
  rw [show rgD (((k : Nat) : Int) + 1) ((S.length : Nat) : Int) = ((List.range (S.length - (k + 1))).map fun i => k + 1 + i).map fun i : Nat => D.int (i : Nat) from rgD_later k S.length]
  refine ⟨⟨by omega, by omega⟩, ⟨by omega, by omega⟩, ?_⟩
  refine for_ind (fun j : Nat => D.int (j : Nat)) (fun xs env => ∃ (pre : List Nat) (u8 : Sl), env = bE a ds S ps o b4 (dI (k : Nat)) a6 Tl (.lst a7 (nD (pre.filter fun j => decide (HasO S.length (gsOf ps) o k j)))) u8 u10 u11 u12 ∧ (List.range (S.length - (k + 1))).map (fun i => k + 1 + i) = pre ++ xs) ?_ ?_ _ _ ⟨[], _, rfl, rfl⟩
  · rintro env ⟨pre, u8, rfl, he⟩
    rw [List.append_nil] at he
    subst he
    refine ⟨True.intro, ?_⟩
    unfold k4_law_built
    and_intros
    have hup := has_up (N := S.length) (gs := gsOf ps) (k := k) nd (fun m hm => (hmem m).1 hm) (fun m hm => (hmem m).2 hm) (by omega)
    have hin : upN o (obag S.length (gsOf ps) o k) k ∈ ((List.range (S.length - (k + 1))).map (fun i => k + 1 + i)).filter fun j => decide (HasO S.length (gsOf ps) o k j) := List.mem_filter.2 ⟨List.mem_map.2 ⟨upN o (obag S.length (gsOf ps) o k) k - (k + 1), List.mem_range.2 (by have := hup.1; have := hup.2.1; omega), by have := hup.1; omega⟩, decide_eq_true hup⟩
    have hall : ∀ j ∈ ((List.range (S.length - (k + 1))).map (fun i => k + 1 + i)).filter (fun j => decide (HasO S.length (gsOf ps) o k j)), HasO S.length (gsOf ps) o k j := fun j hj => of_decide_eq_true (List.mem_filter.1 hj).2
    have hLl : (((List.range (S.length - (k + 1))).map (fun i => k + 1 + i)).filter fun j => decide (HasO S.length (gsOf ps) o k j)).length ≤ 12 := Nat.le_trans (List.length_filter_le _ _) (by rw [List.length_map, List.length_range]; omega)
    generalize ((List.range (S.length - (k + 1))).map (fun i => k + 1 + i)).filter (fun j => decide (HasO S.length (gsOf ps) o k j)) = L at hin hall hLl ⊢
    have hL0 := List.length_pos_of_mem hin
    rw [nD_len]
    refine ⟨n, a, ds, _, rfl, hj, by omega, by omega, by omega, fun r ds1 fin r0 r1 hj1 => ?_⟩
    and_intros
    obtain ⟨r, rfl⟩ := Int.eq_ofNat_of_zero_le r0
    have hr : r < L.length := by omega
    refine ⟨_, atN (getD_at hr), ?_⟩
    and_intros
    refine ⟨by decide, Nat.lt_of_le_of_lt hT (by decide), ?_⟩
    exact hE (L.getD r 0) ds1 _ _ (hall _ (getD_mem hr)) hj1
  · rintro j xs env N ⟨pre, u8, rfl, he⟩ hN
    have hj' : k + 1 ≤ j ∧ j < S.length := by
      have : j ∈ (List.range (S.length - (k + 1))).map (fun i => k + 1 + i) := by rw [he]; simp
      obtain ⟨i, hi, rfl⟩ := List.mem_map.1 this
      have := List.mem_range.1 hi
      omega
    refine ⟨True.intro, ?_⟩
    unfold b3_law_built
    and_intros
    refine ⟨_, atN (bag_at (by omega : k < S.length)), ?_⟩
    and_intros
    refine lc_filter (fun x : Nat => D.int (x : Nat)) (fun x : Nat => D.int (x : Nat)) (fun x => decide (x ≠ o.getD k 0) && decide (x ∉ obag S.length (gsOf ps) o j)) True.intro (obag S.length (gsOf ps) o k) (hs100 (Nat.le_trans (obag_len h12) (by decide))) (fun x hx R hR => ?_) fun b => ?_
    · refine ⟨_, atN (getD_at (by omega : k < o.length)), ?_⟩
      and_intros
      by_cases h1 : x = o.getD k 0
      · rw [if_neg (by rw [← h1]; simp)]
        rw [if_neg (by rw [decide_eq_false (show ¬ (x ≠ o.getD k 0) from fun z => z h1), Bool.false_and]; decide)] at hR
        exact hR
      · rw [if_pos (by rw [Bool.not_eq_true', beq_eq_false_iff_ne]; omega)]
        refine ⟨_, atN (bag_at (by omega : j < S.length)), ?_⟩
        and_intros
        rw [isIn_nat]
        refine ⟨rfl, flat_nD _, ?_⟩
        unfold e2_law_built
        by_cases h2 : x ∈ obag S.length (gsOf ps) o j
        · rw [if_neg (by rw [decide_eq_true h2]; decide)]
          rw [if_neg (by rw [decide_eq_false (show ¬ (x ∉ obag S.length (gsOf ps) o j) from fun z => z h2), Bool.and_false]; decide)] at hR
          exact hR
        · rw [if_pos (by rw [decide_eq_false h2]; rfl)]
          rw [if_pos (by rw [decide_eq_true h1, decide_eq_true h2]; rfl)] at hR
          and_intros
          exact hR
    and_intros
    rw [List.length_map]
    have hiff : HasO S.length (gsOf ps) o k j ↔ ((obag S.length (gsOf ps) o k).filter fun x => decide (x ≠ o.getD k 0) && decide (x ∉ obag S.length (gsOf ps) o j)).length = 0 := by
      rw [List.length_eq_zero_iff, List.filter_eq_nil_iff]
      constructor
      · rintro ⟨_, _, h⟩ x hx z
        have z : x ≠ o.getD k 0 ∧ x ∉ obag S.length (gsOf ps) o j := by simpa using z
        exact z.2 (h x hx z.1)
      · intro h
        refine ⟨by omega, by omega, fun x hx ne => Classical.not_not.1 fun z => h x hx (by simpa using ⟨ne, z⟩)⟩
    have hpl : (pre.filter fun j => decide (HasO S.length (gsOf ps) o k j)).length ≤ 100 := by
      refine Nat.le_trans (List.length_filter_le _ _) ?_
      have := congrArg List.length he
      rw [List.length_map, List.length_range, List.length_append] at this
      omega
    by_cases c : HasO S.length (gsOf ps) o k j
    · rw [if_pos (by rw [hiff.1 c]; rfl)]
      and_intros
      refine ⟨by rw [nD_len]; exact Nat.lt_of_le_of_lt hpl (by decide), ?_⟩
      refine hN _ ⟨pre ++ [j], dI (j : Nat), ?_, by rw [List.append_assoc]; exact he⟩
      rw [List.filter_append, show [j].filter (fun j => decide (HasO S.length (gsOf ps) o k j)) = [j] from List.filter_eq_self.2 fun x hx => by rw [List.mem_singleton.1 hx]; exact decide_eq_true c, nD_app]
      rfl
    · rw [if_neg (by
        have := mt hiff.2 c
        simp only [beq_iff_eq]
        omega)]
      refine hN _ ⟨pre ++ [j], dI (j : Nat), ?_, by rw [List.append_assoc]; exact he⟩
      rw [List.filter_append, show [j].filter (fun j => decide (HasO S.length (gsOf ps) o k j)) = [] from List.filter_eq_nil_iff.2 fun x hx => by rw [List.mem_singleton.1 hx]; simpa using c, List.append_nil]
end
theorem trst_perm {S : List Nat} {ps : List Part} {Bs : List (List Nat)} {ts us : List NP} (h : TrSt S ps Bs ts) (hlt : ∀ t ∈ ts, t.1 < t.2) (hp : us.Perm ts) : TrSt S ps Bs us := by
  obtain ⟨root, up, rk, hR⟩ := h
  have tr := hR.rt.tr
  refine ⟨root, up, rk, ⟨⟨⟨tr.rt, tr.hup, fun i j => ?_, hp.nodup_iff.2 tr.nd, fun t ht z => ?_⟩, hR.rt.bags, hR.rt.rip⟩, hR.part, hR.name⟩⟩
  · rw [hp.mem_iff, hp.mem_iff]
    exact tr.ed i j
  · exact tr.one t (hp.mem_iff.1 ht) (hp.mem_iff.1 z)
section
variable {Ex : DX} {E : DEnds} {n : Nat} {a b4 a6 : Addr} {ds : List D} {S : List Nat} {ps : List Part} {Bs : List (List Nat)} {ts : List NP} {d2 d3 u5 u7 u8 u9 u10 u11 u12 : Sl}
theorem k8_ok' (hl : ts.length ≤ 40) (hb : Bs.length ≤ 40) (hT : TrSt S ps Bs ts) (hlt : ∀ t ∈ ts, t.1 < t.2)
    (hE : ∀ us fin, TrSt S ps Bs us → (∀ t ∈ us, t.1 < t.2) → us.Pairwise pLe → E.rt (.ext (dTree Bs us)) (.lst a ds :: fin)) : k8_law_built Ex E [.lst a ds, .ext (dSh S ps), d2, d3, .lst b4 (fD Bs), u5, .lst a6 (ts.map tieD), u7, u8, u9, u10, u11, u12] := by
  unfold k8_law_built
  and_intros
  refine ⟨srt_ties _, fun ds2 hp2 hs2 => ?_⟩
  obtain ⟨us, hus, rfl⟩ := perm_map_inv hp2
  refine ⟨by decide, ?_⟩
  exact hE us _ (trst_perm hT hlt hus) (fun t ht => hlt t (hus.mem_iff.1 ht)) ((List.pairwise_map.1 hs2).imp fun h => lt_tie _ _ h)
theorem k9_ok' (h12 : S.length ≤ 12) (hj : JarOk n ds) (hn : n + 2000 < 4294967296) (hb0 : 0 < Bs.length) (hb : Bs.length ≤ 12) (hl : ts.length ≤ 12) (hT : TrSt S ps Bs ts) (hlt : ∀ t ∈ ts, t.1 < t.2)
    (hE : ∀ Cs us ds' fin, TrSt S ps Cs us → Cs.length ≤ Bs.length + 5 → (∀ t ∈ us, t.1 < t.2) → us.Pairwise pLe → JarOk (n + 1000) ds' → E.rt (.ext (dTree Cs us)) (.lst a ds' :: fin)) : k9_law_built Ex E [.lst a ds, .ext (dSh S ps), d2, d3, .lst b4 (fD Bs), u5, .lst a6 (ts.map tieD), u7, u8, u9, .un, .un, .un] := by
  unfold k9_law_built
  and_intros
  rw [fD_len]
  obtain ⟨M, eM, hM⟩ : ∃ M : Nat, atI [D.int 3, D.int 6] (if (7 : Int) < ((Bs.length : Nat) : Int) then 1 else 0) = some (.int (M : Nat)) ∧ (M = 3 ∨ M = 6) := by
    split
    · exact ⟨6, rfl, .inr rfl⟩
    · exact ⟨3, rfl, .inl rfl⟩
  rw [eM]
  refine ⟨by decide, ?_⟩
  and_intros
  refine ⟨n, a, ds, _, rfl, hj, by omega, by omega, by omega, fun r ds1 fin r0 r1 hj1 => ?_⟩
  and_intros
  obtain ⟨r, rfl⟩ := Int.eq_ofNat_of_zero_le r0
  refine ⟨⟨by omega, by omega⟩, ?_⟩
  rw [rgD_nat]
  refine for_ind (fun k : Nat => D.int (k : Nat)) (fun xs env => ∃ (m : Nat) (ds' : List D) (Cs : List (List Nat)) (us : List NP) (u10 u11 : Sl), env = [.lst a ds', .ext (dSh S ps), d2, d3, .lst b4 (fD Cs), u5, .lst a6 (us.map tieD), u7, u8, u9, u10, u11, .un] ∧ JarOk m ds' ∧ m + 20 * xs.length ≤ n + 200 ∧ TrSt S ps Cs us ∧ (∀ t ∈ us, t.1 < t.2) ∧ Cs.length + xs.length = Bs.length + r ∧ us.length + xs.length = ts.length + r ∧ xs.length ≤ r) ?_ ?_ (List.range r) _ ⟨n + 1, ds1, Bs, ts, _, _, rfl, hj1, by rw [List.length_range]; omega, hT, hlt, by rw [List.length_range], by rw [List.length_range], by rw [List.length_range]; exact Nat.le_refl _⟩
  · rintro env ⟨m, ds2, Cs, us, u10, u11, rfl, hj2, hm, hT2, hlt2, e1, e2, e3⟩
    rw [List.length_nil] at hm e1 e2 e3
    refine ⟨True.intro, ?_⟩
    exact k8_ok' (by omega) (by omega) hT2 hlt2 fun vs fin h1 h2 h3 => hE Cs vs ds2 fin h1 (by omega) h2 h3 (hj2.up (by omega))
  · rintro k xs env N ⟨m, ds2, Cs, us, u10, u11, rfl, hj2, hm, hT2, hlt2, e1, e2, e3⟩ hN
    rw [List.length_cons] at hm e1 e2 e3
    refine ⟨True.intro, ?_⟩
    unfold b7_law_built
    and_intros
    rw [fD_len]
    refine ⟨m, a, ds2, _, rfl, hj2, by omega, by omega, by omega, fun q ds3 fin q0 q1 hj3 => ?_⟩
    and_intros
    obtain ⟨q, rfl⟩ := Int.eq_ofNat_of_zero_le q0
    have hq : q < Cs.length := by omega
    obtain ⟨b1, b2, b3⟩ := hT2.bag q
    refine ⟨_, atN (getD_bg hq), ?_⟩
    and_intros
    refine lc_ind (fun k : Nat => D.int (k : Nat)) (fun xs acc env => ∃ (m2 : Nat) (ds : List D) (C pre : List Nat), env = [.lst a ds, .ext (dSh S ps), d2, d3, .lst b4 (fD Cs), u5, .lst a6 (us.map tieD), u7, u8, u9, dI (k : Nat), dI (q : Nat), .un] ∧ acc = nD C ∧ JarOk m2 ds ∧ m2 + xs.length ≤ m + 13 ∧ C.Sublist pre ∧ bg Cs q = pre ++ xs) ?_ ?_ (bg Cs q) [] _
      ⟨m + 1, ds3, [], [], rfl, rfl, hj3, by omega, List.Sublist.refl _, rfl⟩
    · rintro acc env ⟨m2, ds4, C, pre, rfl, rfl, hj4, hm4, hsub, he⟩
      rw [List.append_nil] at he
      subst he
      refine ⟨True.intro, fun b => ?_⟩
      and_intros
      refine ⟨by rw [fD_len]; exact Nat.lt_of_le_of_lt (by omega : _ ≤ 100) (by decide), ?_⟩
      rw [show fD Cs ++ [D.tup (nD C)] = fD (Cs ++ [C]) by rw [fD_app]; rfl]
      and_intros
      rw [fD_len, List.length_append, List.length_singleton]
      rw [show (((Cs.length + 1 : Nat) : Int)) - 1 = ((Cs.length : Nat) : Int) by omega]
      rw [List.length_nil] at hm4
      refine ⟨by decide, by rw [List.length_map]; exact Nat.lt_of_le_of_lt (by omega : _ ≤ 100) (by decide), ?_⟩
      refine hN _ ⟨m2, ds4, Cs ++ [C], us ++ [(q, Cs.length)], dI (k : Nat), dI (q : Nat), by rw [List.map_append]; rfl, hj4, by omega, hT2.hang hq hsub, fun t ht => ?_, by rw [List.length_append]; simp only [List.length_cons, List.length_nil]; omega, by rw [List.length_append]; simp only [List.length_cons, List.length_nil]; omega, by omega⟩
      rcases List.mem_append.1 ht with z | z
      · exact hlt2 t z
      · rw [List.mem_singleton.1 z]
        exact hq
    · rintro y ys acc env N2 ⟨m2, ds4, C, pre, rfl, rfl, hj4, hm4, hsub, he⟩ hN2
      rw [List.length_cons] at hm4
      have hC : C.length ≤ S.length := by
        have h1 := hsub.length_le
        have h2 := congrArg List.length he
        rw [List.length_append] at h2
        omega
      refine ⟨True.intro, by rw [nD_len]; exact Nat.lt_of_le_of_lt (by omega : _ ≤ 100) (by decide), ?_⟩
      and_intros
      refine ⟨m2, a, ds4, _, rfl, hj4, by omega, by decide, by decide, fun r2 ds5 fin r20 r21 hj5 => ?_⟩
      and_intros
      split
      · unfold e6_law_built
        and_intros
        rw [show nD C ++ [D.int (y : Nat)] = nD (C ++ [y]) by rw [nD_app]; rfl]
        exact hN2 _ _ ⟨m2 + 1, ds5, C ++ [y], pre ++ [y], rfl, rfl, hj5, by omega, hsub.append (List.Sublist.refl _), by rw [he, List.append_assoc]; rfl⟩
      · exact hN2 _ _ ⟨m2 + 1, ds5, C, pre ++ [y], rfl, rfl, hj5, by omega, hsub.trans (List.sublist_append_left _ _), by rw [he, List.append_assoc]; rfl⟩
end
theorem m_law_built : Meets t_law_built 2 11 sp_law_built := by
  rintro args Qd Xd ⟨n, a, ds, S, ps, rfl, hj, hn, hW, h12, hQ⟩
  show t_law_built _ _ [_, _, .un, .un, .un, .un, .un, .un, .un, .un, .un, .un, .un]
  have ok := hW.ns
  unfold t_law_built
  and_intros
  refine ⟨S, ps, rfl, ok, fun a2 fin => ?_⟩
  and_intros
  have htl : (tiDs S.length (gsOf ps)).length = S.length := by unfold tiDs; rw [List.length_map, List.length_range]
  rw [htl, rgD_nat]
  refine ⟨RgOk.of_le (by omega) (by omega) (by omega) (by omega), n, a, ds, List.range S.length, _, rfl, .inr rfl, hj, by omega, by rw [List.length_range]; omega, fun o ds1 fin hp hj1 => ?_⟩
  and_intros
  have hol := hp.length_eq
  rw [List.length_range] at hol
  have nd : o.Nodup := hp.nodup_iff.2 List.nodup_range
  have hmem : ∀ x, x ∈ o ↔ x < S.length := fun x => by rw [hp.mem_iff, List.mem_range]
  rw [nD_len, hol, rgD_nat]
  refine ⟨⟨by omega, by omega⟩, ?_⟩
  refine lc_map (fun k : Nat => D.int (k : Nat)) (fun k => D.tup (nD (obag S.length (gsOf ps) o k))) True.intro (List.range S.length) (by rw [List.length_range]; exact Nat.le_trans (by omega : _ ≤ 100) (by decide)) (fun k hk R hR => ?_) fun b4 => ?_
  · have hk := List.mem_range.1 hk
    unfold e1_law_built
    and_intros
    refine ⟨_, atN (getD_at (by omega : k < o.length)), ?_⟩
    and_intros
    refine ⟨S.length, gsOf ps, o.take k, _, o.getD k 0, rfl, .inl ?_, ok.few, ?_, ?_, fun fin => ?_⟩
    · rw [cut_take]
    · exact (hmem _).1 (getD_mem (by omega))
    · exact fun z => Nat.lt_irrefl _ ((getD_take nd (by omega : k < o.length)).1 z)
    · and_intros
      exact hR
  and_intros
  refine ⟨by decide, fun a6 => ?_⟩
  rw [nD_len, hol, show ((S.length : Nat) : Int) - 1 = ((S.length - 1 : Nat) : Int) by have := hW.pos; omega, rgD_nat]
  refine ⟨⟨by omega, by omega⟩, ?_⟩
  refine for_ind (fun k : Nat => D.int (k : Nat)) (fun xs env => ∃ (m : Nat) (ds' : List D) (f : Nat → Nat) (pre : List Nat) (u5 u7 u8 : Sl), env = bE a ds' S ps o b4 u5 a6 ((pre.map fun k => (k, f k)).map tieD) u7 u8 .un .un .un ∧ JarOk m ds' ∧ m + xs.length ≤ n + 100 ∧ List.range (S.length - 1) = pre ++ xs ∧ ∀ k ∈ pre, HasO S.length (gsOf ps) o k (f k)) ?_ ?_ (List.range (S.length - 1)) _ ⟨n + 64, ds1, id, [], _, _, _, rfl, hj1, by rw [List.length_range]; omega, rfl, fun k hk => nomatch hk⟩
  · rintro env ⟨m, ds2, f, pre, u5, u7, u8, rfl, hj2, hm, he, hf⟩
    rw [List.append_nil] at he
    subst he
    refine ⟨True.intro, ?_⟩
    rw [List.length_nil] at hm
    have hol2 : (List.range (S.length - 1)).map (fun k => (k, f k)) = (List.range (o.length - 1)).map fun k => (k, f k) := by rw [hol]
    have hT : TrSt S ps (elimB S.length (gsOf ps) o) ((List.range (S.length - 1)).map fun k => (k, f k)) := by
      rw [hol2]
      refine ⟨_, _, _, RTree.anyUp nd (fun m hm => (hmem m).1 hm) (fun m hm => (hmem m).2 hm) (by have := hW.pos; omega) (fun ns hns m hm => ?_) fun k hk => hf k (List.mem_range.2 (by omega))⟩
      obtain ⟨p, hp, rfl⟩ := List.mem_map.1 hns
      exact (ok.ok p hp).2 m hm
    have eB : (List.range S.length).map (fun k => D.tup (nD (obag S.length (gsOf ps) o k))) = fD (elimB S.length (gsOf ps) o) := by
      unfold fD elimB
      rw [List.map_map, hol]
      rfl
    show k9_law_built _ _ [.lst a ds2, _, _, _, .lst b4 ((List.range S.length).map fun k => D.tup (nD (obag S.length (gsOf ps) o k))), _, _, _, _, _, _, _, _]
    rw [eB]
    refine k9_ok' h12 hj2 (by omega) (by rw [elimB_len]; have := hW.pos; omega) (by rw [elimB_len]; omega) (by rw [List.length_map, List.length_range]; omega) hT (fun t ht => ?_) fun Cs us ds' fin h1 h2 h3 h4 h5 => ?_
    · obtain ⟨k, hk, rfl⟩ := List.mem_map.1 ht
      exact (hf k hk).1
    · and_intros
      exact hQ Cs us ds' _ h1 (by rw [elimB_len] at h2; omega) h3 h4 (h5.up (by omega))
  · rintro k xs env N ⟨m, ds2, f, pre, u5, u7, u8, rfl, hj2, hm, he, hf⟩ hN
    rw [List.length_cons] at hm
    have hk : k < S.length - 1 := List.mem_range.1 (by rw [he]; simp)
    have hpl : pre.length ≤ 12 := by
      have := congrArg List.length he
      rw [List.length_range, List.length_append, List.length_cons] at this
      omega
    have hkp : k ∉ pre := fun z => by
      have := List.nodup_range (n := S.length - 1)
      rw [he, List.nodup_append] at this
      exact this.2.2 k z k List.mem_cons_self rfl
    refine ⟨True.intro, ?_⟩
    refine b5_ok hj2 (by omega) h12 nd hol hmem (by omega) (by rw [List.length_map, List.length_map]; omega) fun j ds' u7 u8 hj' hjar => ?_
    refine hN _ ⟨m + 1, ds', fun x => if x = k then j else f x, pre ++ [k], dI (k : Nat), u7, u8, ?_, hjar, by omega, by rw [List.append_assoc]; exact he, fun x hx => ?_⟩
    · have e : (pre ++ [k]).map (fun x => (x, if x = k then j else f x)) = pre.map (fun x => (x, f x)) ++ [(k, j)] := by
        rw [List.map_append]
        congr 1
        · refine List.map_congr_left fun x hx => ?_
          rw [if_neg fun z : x = k => hkp (z ▸ hx)]
        · show [(k, if k = k then j else f k)] = _
          rw [if_pos rfl]
      rw [e, List.map_append (l₂ := [(k, j)])]
      rfl
    · show HasO S.length (gsOf ps) o x (if x = k then j else f x)
      by_cases c : x = k
      · rw [if_pos c, c]; exact hj'
      · rw [if_neg c]
        exact hf x ((List.mem_append.1 hx).resolve_right fun z => c (List.mem_singleton.1 z))
def BR (d : D) : Prop := Dc 8 6000 d
def sp_law_bent : DSpec := fun args Q _ => ∃ (n : Nat) (a : Addr) (ds : List D) (Bs : List (List Nat)) (ts : List NP) (many : Nat), args = [.lst a ds, .ext (dTree Bs ts), dI (many : Nat)] ∧ JarOk n ds ∧ n + 40 < 4294967296 ∧ 0 < Bs.length ∧ Bs.length ≤ 17 ∧ ts.length ≤ 17 ∧ (∀ B ∈ Bs, B.length ≤ 12 ∧ ∀ m ∈ B, m < 100) ∧ (∀ t ∈ ts, t.1 < 100 ∧ t.2 < 100) ∧ 0 < many ∧ many ≤ 12 ∧
  ∀ d ds' fin, BR d → JarOk (n + 30) ds' → Q (.ext d) (.lst a ds' :: fin)
def k1_law_bent : DTS :=
    (sSetE 7 (dOp fAdd (dSl (dOp fIx (dVar 4) (dVar 6)) dNoPart (dPart (dVar 8))) (dSl (dOp fIx (dVar 4) (dVar 6)) (dPart (dOp fAdd (dVar 8) (dC (.int 1)))) dNoPart)))
def k2_law_bent : DTS :=
    (sRet (dTup (dCons (dOp fAdd (dOp fAdd (dSl (dVar 4) dNoPart (dPart (dVar 6))) (dTup (dCons (dVar 7) dNil))) (dSl (dVar 4) (dPart (dOp fAdd (dVar 6) (dC (.int 1)))) dNoPart)) (dCons (dVar 5) dNil))))
def k3_law_bent : DTS :=
    (sSeq (sIf (dAnd (dTest (dOp fEq (dVar 3) (dC (.int 3)))) (dTest (dOp (fCmp fun i j => decide (j < i)) (dCB fLen (dCons (dOp fIx (dVar 4) (dVar 6)) dNil)) (dC (.int 0))))) (sSeq (sSetE 8 (dCallJ sp_law_dip 0 (dCons (dCB fLen (dCons (dOp fIx (dVar 4) (dVar 6)) dNil)) dNil)))
    k1_law_bent) sNext)
    k2_law_bent)
def i4_law_bent : DTS :=
    (sSeq (sSetE 7 (dIf (dTest (dOp (fCmp fun i j => decide (i < j)) (dVar 3) (dC (.int 2)))) (dCallJ sp_law_odd_names 0 (dCons (dOp fIx (dVar 4) (dVar 6)) (dCons (dVar 2) dNil))) (dCB fTuple (dCons (dCB fSortT (dCons (dOp fAdd (dOp fIx (dVar 4) (dVar 6)) (dTup (dCons (dCallJ sp_law_dip 0 (dCons (dVar 2) dNil)) dNil))) dNil)) dNil))))
    k3_law_bent)
def k5_law_bent : DTS :=
    (sRet (dTup (dCons (dOp fIx (dVar 9) (dCallJ sp_law_dip 0 (dCons (dC (.int 6)) dNil))) (dCons (dVar 5) dNil))))
def k6_law_bent : DTS :=
    (sRet (dTup (dCons (dVar 4) (dCons (dOp fIx (dLst (dCons (dOp fAdd (dOp fAdd (dSl (dVar 5) dNoPart (dPart (dVar 10))) (dTup (dCons (dVar 13) dNil))) (dSl (dVar 5) (dPart (dOp fAdd (dVar 10) (dC (.int 1)))) dNoPart)) (dCons (dCB fTuple (dCons (dCB fSortD (dCons (dVar 9) dNil)) dNil)) dNil))) (dOp fMod (dVar 3) (dC (.int 2)))) dNil))))
def e7_law_bent : DT :=
    (dTup (dCons (dVar 4) (dCons (dVar 11) dNil)))
def k8_law_bent : DTS :=
    (sRet (dOp fIx (dVar 15) (dCallJ sp_law_dip 0 (dCons (dC (.int 12)) dNil))))
def k9_law_bent : DTS :=
    (sSeq (sSetE 15 (dOp fAdd (dLc (dSeq (dVar 14)) (gSet 11) dYes e7_law_bent [11]) (dLst (dCons (dCB fList (dCons (dVar 1) dNil)) (dCons (dTup (dCons (dVar 4) dNil)) (dCons (dTup (dCons (dVar 4) (dCons (dVar 5) (dCons (dVar 5) dNil)))) (dCons (dTup (dCons (dVar 5) (dCons (dVar 4) dNil))) (dCons (dC .non) (dCons (dC (.int 5)) dNil)))))))))
    k8_law_bent)
def k10_law_bent : DTS :=
    (sSeq (sSetE 14 (dLst (dCons (dOp fAdd (dSl (dVar 5) dNoPart (dPart (dVar 10))) (dSl (dVar 5) (dPart (dOp fAdd (dVar 10) (dC (.int 1)))) dNoPart)) (dCons (dOp fAdd (dVar 5) (dSl (dVar 5) (dPart (dVar 10)) (dPart (dOp fAdd (dVar 10) (dC (.int 1)))))) (dCons (HD.dStep (dVar 5) (dPart (dNeg (dC (.int 1))))) (dCons (dCB fList (dCons (dVar 5) dNil)) (dCons (dC .non) (dCons (dOp fAdd (dVar 5) (dTup (dCons (dTup (dCons (dVar 11) (dCons (dVar 6) dNil))) dNil))) dNil))))))))
    k9_law_bent)
def k11_law_bent : DTS :=
    (sSeq (sIf (dTest (dOp (fCmp fun i j => decide (i < j)) (dVar 3) (dC (.int 8)))) (sSeq (sSetE 9 (dOp fAdd (dOp fAdd (dSl (dVar 5) dNoPart (dPart (dVar 10))) (dSl (dVar 5) (dPart (dOp fAdd (dVar 10) (dC (.int 1)))) dNoPart)) (dTup (dCons (dTup (dCons (dCB fMin (dCons (dVar 11) (dCons (dVar 6) dNil))) (dCons (dCB fMax (dCons (dVar 11) (dCons (dVar 6) dNil))) dNil))) dNil))))
    k6_law_bent) sNext)
    k10_law_bent)
def k12_law_bent : DTS :=
    (sSeq (sSetE 13 (dOp fIx (dVar 12) (dCallJ sp_law_dip 0 (dCons (dC (.int 16)) dNil))))
    k11_law_bent)
def k13_law_bent : DTS :=
    (sSeq (sSetE 12 (dOp fAdd (dVar 12) (dLst (dCons (dTup (dCons (dVar 6) (dCons (dVar 11) dNil))) (dCons (dTup (dCons (dC (.int 0)) (dCons (dC (.bl true)) dNil))) (dCons (dTup (dCons (dC .non) (dCons (dVar 6) dNil))) (dCons (dTup (dCons (dVar 6) (dCons (dC (.str (Str.ofString "1"))) dNil))) (dCons (dTup (dCons (dVar 11) (dCons (dC .non) dNil))) (dCons (dTup (dCons (dLst (dCons (dVar 11) dNil)) (dCons (dVar 6) dNil))) (dCons (dTup (dCons (dVar 11) (dCons (dLst (dCons (dVar 6) dNil)) dNil))) dNil))))))))))
    k12_law_bent)
def k14_law_bent : DTS :=
    (sSeq (sSetE 12 (dLst (dCons (dTup (dCons (dVar 11) (dCons (dVar 6) dNil))) (dCons (dTup (dCons (dVar 6) (dCons (dVar 6) dNil))) (dCons (dTup (dCons (dVar 6) (dCons (dCB fLen (dCons (dVar 4) dNil)) dNil))) (dCons (dTup (dCons (dNeg (dC (.int 1))) (dCons (dVar 6) dNil))) (dCons (dTup (dCons (dC (.bl true)) (dCons (dVar 6) dNil))) (dCons (dLst (dCons (dVar 11) (dCons (dVar 6) dNil))) (dCons (dTup (dCons (dVar 11) dNil)) (dCons (dTup (dCons (dVar 11) (dCons (dVar 6) (dCons (dC (.int 0)) dNil)))) (dCons (dC .non) dNil)))))))))))
    k13_law_bent)
def k15_law_bent : DTS :=
    (sSeq (sSetE 11 (dCallJ sp_law_dip 0 (dCons (dCB fLen (dCons (dVar 4) dNil)) dNil)))
    k14_law_bent)
def k16_law_bent : DTS :=
    (sSeq (sSetE 10 (dCallJ sp_law_dip 0 (dCons (dCB fMax (dCons (dC (.int 1)) (dCons (dCB fLen (dCons (dVar 5) dNil)) dNil))) dNil)))
    k15_law_bent)
def k17_law_bent : DTS :=
    (sSeq (sIf (dTest (dOp fEq (dVar 3) (dC (.int 4)))) (sSeq (sSetE 9 (dLst (dCons (dOp fAdd (dSl (dVar 4) dNoPart (dPart (dVar 6))) (dSl (dVar 4) (dPart (dOp fAdd (dVar 6) (dC (.int 1)))) dNoPart)) (dCons (dOp fAdd (dVar 4) (dSl (dVar 4) (dPart (dVar 6)) (dPart (dOp fAdd (dVar 6) (dC (.int 1)))))) (dCons (dCB fList (dCons (dVar 4) dNil)) (dCons (HD.dStep (dVar 4) (dPart (dNeg (dC (.int 1))))) (dCons (dTup dNil) (dCons (dC .non) dNil))))))))
    k5_law_bent) sNext)
    k16_law_bent)
def k18_law_bent : DTS :=
    (sSeq (sIf (dTest (dOp (fCmp fun i j => decide (i < j)) (dVar 3) (dC (.int 4)))) i4_law_bent sNext)
    k17_law_bent)
def k19_law_bent : DTS :=
    (sSeq (sSetE 6 (dCallJ sp_law_dip 0 (dCons (dCB fLen (dCons (dVar 4) dNil)) dNil)))
    k18_law_bent)
def k20_law_bent : DTS :=
    (sSeq (sAsg (dVar 1) (gTupD 2 (gsCons (gSet 4) (gsCons (gSet 5) gsNil))))
    k19_law_bent)
def t_law_bent : DTS :=
    (sSeq (sSetE 3 (dCallJ sp_law_dip 0 (dCons (dC (.int 10)) dNil)))
    k20_law_bent)
theorem tD_dc {k : Nat} {ts : List NP} (h : ∀ t ∈ ts, t.1 < 100 ∧ t.2 < 100) (hl : ts.length ≤ 17) : Dcs (k + 1) 51 (ts.map tieD) := by
  refine Dcs.mono (n := ts.length * 3) ?_ (by omega)
  clear hl
  induction ts with
  | nil => exact Dcs.nil
  | cons t ts ih =>
    obtain ⟨h1, h2⟩ := h t List.mem_cons_self
    exact (Dcs.cons (Dc.t2 (n := 0) (n' := 0) (m := 2) (Dc.nat (by omega)) (Dc.nat (by omega))) (ih fun q hq => h q (List.mem_cons_of_mem _ hq))).mono (by rw [List.length_cons]; omega)
theorem bD_dc {k : Nat} {Bs : List (List Nat)} (h : ∀ B ∈ Bs, B.length ≤ 12 ∧ ∀ m ∈ B, m < 100) (hl : Bs.length ≤ 17) : Dcs (k + 1) 221 (fD Bs) := by
  refine Dcs.mono (n := Bs.length * 13) ?_ (by omega)
  clear hl
  induction Bs with
  | nil => exact Dcs.nil
  | cons B Bs ih =>
    obtain ⟨h1, h2⟩ := h B List.mem_cons_self
    exact (Dcs.cons (Dc.tup (n := 12) ((Dcs.nats fun m hm => by have := h2 m hm; omega).mono h1)) (ih fun q hq => h q (List.mem_cons_of_mem _ hq))).mono (by rw [List.length_cons]; omega)
section
variable {Ex : DX} {E : DEnds} {n : Nat} {a : Addr} {ds : List D} {u1 u2 u3 u4 u5 u6 u7 u8 u9 u10 u11 u12 u13 u14 u15 : Sl} {L : List D}
theorem k8_bt (hj : JarOk n ds) (hn : n + 4 < 4294967296) (hl : L.length = 12) (hL : ∀ d ∈ L, BR d)
    (hE : ∀ d ds' fin, BR d → JarOk (n + 1) ds' → E.rt (.ext d) (.lst a ds' :: fin)) : k8_law_bent Ex E [.lst a ds, u1, u2, u3, u4, u5, u6, u7, u8, u9, u10, u11, u12, u13, u14, .ext (.lst L)] := by
  unfold k8_law_bent
  and_intros
  refine ⟨n, a, ds, _, rfl, hj, by omega, by decide, by decide, fun r ds1 fin r0 r1 hj1 => ?_⟩
  and_intros
  obtain ⟨o, ho, hm⟩ := atI_mem (xs := L) r0 (by rw [hl]; omega)
  refine ⟨o, ho, ?_⟩
  and_intros
  exact hE o ds1 _ (hL o hm) hj1
structure BtIn (Bs : List (List Nat)) (ts : List NP) : Prop where
  b0 : 0 < Bs.length
  bl : Bs.length ≤ 17
  tl : ts.length ≤ 17
  bs : ∀ B ∈ Bs, B.length ≤ 12 ∧ ∀ m ∈ B, m < 100
  ts : ∀ t ∈ ts, t.1 < 100 ∧ t.2 < 100
theorem BtIn.db {Bs : List (List Nat)} {ts : List NP} (h : BtIn Bs ts) {k : Nat} : Dcs (k + 1) 221 (fD Bs) := bD_dc h.bs h.bl
theorem BtIn.dt {Bs : List (List Nat)} {ts : List NP} (h : BtIn Bs ts) {k : Nat} : Dcs (k + 1) 51 (ts.map tieD) := tD_dc h.ts h.tl
theorem k9_bt {Bs : List (List Nat)} {ts : List NP} (h : BtIn Bs ts) (hj : JarOk n ds) (hn : n + 4 < 4294967296) (hl : L.length = 6) (hL : ∀ d ∈ L, Dc 6 400 d)
    (hE : ∀ d ds' fin, BR d → JarOk (n + 1) ds' → E.rt (.ext d) (.lst a ds' :: fin)) : k9_law_bent Ex E [.lst a ds, .ext (dTree Bs ts), u2, u3, .ext (.tup (fD Bs)), .ext (.tup (ts.map tieD)), u6, u7, u8, u9, u10, u11, u12, u13, .ext (.lst L), u15] := by
  unfold k9_law_bent dTree
  and_intros
  refine K01.lc_mapD (fun d => D.tup [D.tup (fD Bs), d]) True.intro L (Nat.le_trans (by omega : L.length ≤ 10) (by decide)) (fun d hd R hR => ?_) fun b8 => ?_
  · unfold e7_law_bent
    and_intros
    exact ⟨by decide, hR⟩
  and_intros
  rw [List.length_map, hl]
  refine ⟨by decide, by decide, by decide, by decide, by decide, ?_⟩
  have dB : Dc 6 221 (.tup (fD Bs)) := Dc.tup (h.db (k := 4))
  have dT : Dc 6 51 (.tup (ts.map tieD)) := Dc.tup (h.dt (k := 4))
  refine k8_bt hj hn (by rw [List.length_append, List.length_map, hl]; rfl) (fun d hd => ?_) hE
  rcases List.mem_append.1 hd with z | z
  · obtain ⟨e, he, rfl⟩ := List.mem_map.1 z
    exact Dc.up (Dc.t2 (n := 221) (n' := 400) (m := 6000) dB (hL e he))
  · revert d
    exact fun d _ z => (allMem (Dc.up (Dc.l2 (n := 221) (n' := 51) (m := 6000) dB dT)) <| allMem (Dc.up (Dc.t1 (n := 221) (m := 6000) dB)) <| allMem (Dc.up (Dc.t3 (n := 221) (n' := 51) (n3 := 51) (m := 6000) dB dT dT)) <| allMem (Dc.up (Dc.t2 (n := 51) (n' := 221) (m := 6000) dT dB)) <| allMem Dc.non <| allMem (Dc.int (by decide)) allNil : ∀ d ∈ _, BR d) d z
theorem k10_bt {Bs : List (List Nat)} {ts : List NP} {at' kk one : Nat} (h : BtIn Bs ts) (ha : at' < 100) (ho : one < 100) (hj : JarOk n ds) (hn : n + 4 < 4294967296)
    (hE : ∀ d ds' fin, BR d → JarOk (n + 1) ds' → E.rt (.ext d) (.lst a ds' :: fin)) : k10_law_bent Ex E [.lst a ds, .ext (dTree Bs ts), u2, u3, .ext (.tup (fD Bs)), .ext (.tup (ts.map tieD)), dI (at' : Nat), u7, u8, u9, dI (kk : Nat), dI (one : Nat), u12, u13, u14, u15] := by
  have hT := h.dt (k := 4)
  have htl := h.tl
  have c : ∀ lo hi, (cutD (ts.map tieD) lo hi).length ≤ 51 := fun lo hi => (h.dt (k := 4)).cut lo hi |>.len
  unfold k10_law_bent dTree
  and_intros
  rw [List.length_map]
  have s1 := c none (some ((kk : Nat) : Int))
  have s2 := c (some (((kk : Nat) : Int) + 1)) none
  have s3 := c (some ((kk : Nat) : Int)) (some (((kk : Nat) : Int) + 1))
  have hs : ∀ k : Nat, k ≤ 200 → k ≤ sizeLine := fun k hk => Nat.le_trans hk (by decide)
  have dp : Dc 5 2 (.tup [.int (one : Nat), .int (at' : Nat)]) := Dc.t2 (n := 0) (n' := 0) (Dc.nat (by omega)) (Dc.nat (by omega))
  refine ⟨hs _ (by omega), hs _ (by omega), by decide, by decide, hs _ (by omega), by decide, ?_⟩
  refine k9_bt h hj hn rfl ?_ hE
  exact allMem (Dc.tup (((hT.cut _ _).app (hT.cut _ _)).mono (by omega))) <| allMem (Dc.tup ((hT.app (hT.cut _ _)).mono (by omega))) <| allMem (Dc.tup (hT.rev.mono (by omega))) <| allMem (Dc.lst (hT.mono (by omega))) <| allMem Dc.non <| allMem (Dc.tup ((hT.app (Dcs.one (n := 2) (m := 3) dp)).mono (by omega))) allNil
end
end Y50
end Y5
end V2
end LS
namespace LS
namespace V2
namespace Y5
namespace Y50
open PySem L2 HD PM BT
local macro_rules | `(tactic| trivial) => `(tactic| try simp -dsimp only [↓sIf, ↓sRet, ↓retD_ext, ↓retD_lst, ↓retD_al, ↓sSet, ↓sSetE, ↓sAsg, ↓sDrop, ↓sNext, ↓sFor, ↓sRetN, ↓sCont, ↓sBreak, ↓dTest, ↓dOp, ↓dVar_w, ↓dC, ↓dCons, ↓dNil, ↓dTup, ↓dLst, ↓frzDs, ↓frzD_ext, ↓frzD_lst, ↓frzD_al, ↓wd_ext, ↓wd_lst, ↓wd_al, ↓wds, ↓AtS_ext, ↓AtS_lst, ↓AtL, ↓fAdd, ↓fSub, ↓fMul, ↓fDiv, ↓fMod, ↓fPow, ↓fCmp, ↓fIn, ↓fEq_ii, ↓fEq_ss, ↓fEq_bb, ↓fEq_tt, ↓fEq_ll, ↓fNe_ii, ↓fNe_ss, ↓fNe_bb, ↓fNe_tt, ↓fNe_ll, ↓fIx_l, ↓fIx_t, ↓fIx_k, ↓fIx_f, ↓GetS_some, ↓NatS_some, ↓fSl, ↓fIsN, ↓fNotN, ↓D.knN, ↓dNot, ↓dAnd, ↓dOr, ↓dAndV_w, ↓dOrV_w, ↓dNotV, ↓dIf, ↓dNeg, ↓dChain_w, ↓BlS_bl, ↓dCall_w, ↓dCallJ_w, ↓anyAl, ↓frozs, ↓froz, ↓gSet, ↓gTupD, ↓gsCons, ↓gsNil, ↓dSeq, ↓seqD_tup, ↓seqD_elst, ↓seqD_lst, ↓seqD_al, ↓dRange1, ↓dRange2, ↓dZip, ↓dCB, ↓dLc, ↓dYes, ↓dNoPart, ↓dPart, ↓dSl, ↓fLen, ↓fMin, ↓fMax, ↓fSum, ↓fAll, ↓fAny, ↓fSorted, ↓fTuple, ↓fList, ↓dRg1, ↓dRg2, ↓dLstRg, ↓dTupRg, ↓dIndex, ↓fIdx, ↓dAppend_w, ↓dExtend_w, ↓extD_lst, ↓dPopAt_w, ↓popD_int, ↓dPop_w, ↓mutD_w, ↓sSetItem_w, ↓setD_int, ↓dSortSet, ↓dTable_w, ↓wipeE, finals1, finals2, finals3, finals4, finals5, finals6, fin1_ext, fin1_lst, List.getElem?_cons_zero, List.getElem?_cons_succ, List.getElem?_nil, List.set_cons_zero, List.set_cons_succ, List.cons_append, List.nil_append, List.append_nil, List.replicate_succ, List.replicate_zero, List.map_cons, List.map_nil, List.length_cons, List.length_nil, true_and, and_true, ite_true, ite_false, if_true, if_false, Bool.false_eq_true, decide_eq_true_eq, Sl.plain, D.isSq, eq_self_iff_true, forall_const, reduceIte, true_or, or_true, atI_0, atI_1, atI_2, atI_3, ixN_0, ixN_1, ixN_2, AtS_ext, AtS_lst, FzS_lst, FzS_ext, GetS_some, NatS_some, ↓fIsi1, ↓fIsi2, BoolS_some, HD.kb_non_tuple, HD.kb_non_list, HD.kb_non_bool, HD.kb_non_int, HD.kb_non_str, HD.kb_bl_tuple, HD.kb_bl_list, HD.kb_bl_bool, HD.kb_bl_int, HD.kb_bl_str, HD.kb_int_tuple, HD.kb_int_list, HD.kb_int_bool, HD.kb_int_int, HD.kb_int_str, HD.kb_str_tuple, HD.kb_str_list, HD.kb_str_bool, HD.kb_str_int, HD.kb_str_str, HD.kb_lst_tuple, HD.kb_lst_list, HD.kb_lst_bool, HD.kb_lst_int, HD.kb_lst_str, HD.kb_tup_tuple, HD.kb_tup_list, HD.kb_tup_bool, HD.kb_tup_int, HD.kb_tup_str, ↓sFz_w, ↓FzS_lst, ↓FzS_ext, ↓dSortSetL, ↓fAbs, ↓fInt, ↓fRepr, ↓fLtT, ↓sRaise, ↓sTryKeep, ↓dCallV_w, ↓dMeth, ↓fCount, ↓fSplit, ↓seq_setE, ↓seq_set, ↓seq_drop, ↓seq_asg, ↓seq_if, ↓seq_for, ↓dStep, ↓fStep, ↓fMulT, ↓fIsB, ↓fNotB, ↓sPar, ↓dEnum, ↓dListZip, ↓dNest, ↓sSeal, ↓dNApp, ↓retD_reg, ↓dLenSet, ↓fSum2, ↓seq_putD, ↓seq_sealD, ↓dDIn, ↓dDGet, ↓sPutD, ↓dDNew, ↓dDOne, ↓sSealD, ↓dKeys, ↓keyS_dk, ↓dExtT, ↓fSortT, ↓fMinP, ↓dRemove, ↓dDInT, ↓dDGetT, ↓sPutDT, ↓dDNewT, ↓sSealDT, ↓dKeysT, ↓keyST_dt, ↓fSortK, ↓seq_putDT, ↓seq_sealDT, ↓dVarR_w, ↓dAttr, ↓dAppR, ↓dExtR_w, ↓dExtTR_w, ↓dClrR, ↓dPopR_w, ↓dIxR_w, ↓dDGetR, ↓dDInR, ↓dGet2R, ↓dPop1R, ↓dPop2R, ↓dDGetTR, ↓dDInTR, ↓dPop1TR, ↓dCallM, ↓dMethO, ↓dMake, ↓dMoveR, ↓dPtr, ↓sAttr, ↓sSetR, ↓sPutR, ↓sPutTR, ↓sSetA_w, ↓sSetG_w, ↓seq_setG, ↓seq_setA, ↓seq_attr, ↓seq_setR, ↓seq_putR, ↓seq_putTR, ↓RegS_reg, ↓CellS_some, ↓RefS_reg, ↓RefS_ar, ↓cellS_ar, ↓wd_ar, ↓seqD_ar, ↓lstO_lst, ↓insO_ins, ↓dkO_dk, ↓dkO_lk, ↓dtO_dt, ↓dtO_lk, ↓dkW_dk, ↓dtW_dt, ↓stoS_ext, ↓stoS_reg, ↓stoS_lstT, ↓stoS_lstF, ↓stoS_al, ↓ptrD_ref, ↓ptrD_int, ↓ptrD_str, ↓ptrD_bl, ↓ptrD_non, ↓ptrD_tup, ↓ptrD_tk, ↓ptrD_lst, ↓ptrD_fz, ↓setGS_lst, ↓setGS_reg, ↓setAS_ar, ↓setAS_ext, ↓intS_int, ↓tupS_tup, ↓lstS_lst, ↓lstK, ↓dkK, ↓dtK, ↓retD_reg, ↓dSortSetB, ↓fSortD, ↓fInD, ↓dCallD, ↓regC_reg, ↓dMoveL, ↓dMoveR_w, ↓dDictP, ↓froz_lst, ↓froz_ext, ↓dUpdTR, ↓dUpdKR, ↓dDictZipK, ↓dDictC, ↓gLstD, ↓dClear, ↓fStr, ↓dListItems, ↓dLenK, ↓dSortKI, ↓dInC, ↓fMinT, ↓fMaxT, ↓dListKT, ↓seq_parO, ↓sParO, ↓dSortSetP, ↓HD.dStep, ↓dChain3, ↓dDisp, ↓dispF])
local macro_rules | `(tactic| and_intros) => `(tactic| try simp -dsimp only [↓sIf, ↓sRet, ↓retD_ext, ↓retD_lst, ↓retD_al, ↓sSet, ↓sSetE, ↓sAsg, ↓sDrop, ↓sNext, ↓sFor, ↓sRetN, ↓sCont, ↓sBreak, ↓dTest, ↓dOp, ↓dC, ↓dCons, ↓dNil, ↓dTup, ↓dLst, ↓frzDs, ↓frzD_ext, ↓frzD_lst, ↓frzD_al, ↓wd_ext, ↓wd_lst, ↓wd_al, ↓wds, ↓AtS_ext, ↓AtS_lst, ↓AtL, ↓fAdd, ↓fSub, ↓fMul, ↓fDiv, ↓fMod, ↓fPow, ↓fCmp, ↓fIn, ↓fEq_ii, ↓fEq_ss, ↓fEq_bb, ↓fEq_tt, ↓fEq_ll, ↓fNe_ii, ↓fNe_ss, ↓fNe_bb, ↓fNe_tt, ↓fNe_ll, ↓fIx_l, ↓fIx_t, ↓fIx_k, ↓fIx_f, ↓GetS_some, ↓NatS_some, ↓fSl, ↓fIsN, ↓fNotN, ↓D.knN, ↓dNot, ↓dAnd, ↓dOr, ↓dAndV_w, ↓dOrV_w, ↓dNotV, ↓dIf, ↓dNeg, ↓dChain_w, ↓BlS_bl, ↓dCall_w, ↓dCallJ_w, ↓anyAl, ↓frozs, ↓froz, ↓gSet, ↓gTupD, ↓gsCons, ↓gsNil, ↓dSeq, ↓seqD_tup, ↓seqD_elst, ↓seqD_lst, ↓seqD_al, ↓dRange1, ↓dRange2, ↓dZip, ↓dCB, ↓dLc, ↓dYes, ↓dNoPart, ↓dPart, ↓dSl, ↓fLen, ↓fMin, ↓fMax, ↓fSum, ↓fAll, ↓fAny, ↓fSorted, ↓fTuple, ↓fList, ↓dRg1, ↓dRg2, ↓dLstRg, ↓dTupRg, ↓dIndex, ↓fIdx, ↓dAppend_w, ↓dExtend_w, ↓extD_lst, ↓dPopAt_w, ↓popD_int, ↓dPop_w, ↓mutD_w, ↓sSetItem_w, ↓setD_int, ↓dSortSet, ↓dTable_w, ↓wipeE, finals1, finals2, finals3, finals4, finals5, finals6, fin1_ext, fin1_lst, List.getElem?_cons_zero, List.getElem?_cons_succ, List.getElem?_nil, List.set_cons_zero, List.set_cons_succ, List.cons_append, List.nil_append, List.append_nil, List.replicate_succ, List.replicate_zero, List.map_cons, List.map_nil, List.length_cons, List.length_nil, true_and, and_true, ite_true, ite_false, if_true, if_false, Bool.false_eq_true, decide_eq_true_eq, Sl.plain, D.isSq, eq_self_iff_true, forall_const, reduceIte, true_or, or_true, atI_0, atI_1, atI_2, atI_3, ixN_0, ixN_1, ixN_2, AtS_ext, AtS_lst, FzS_lst, FzS_ext, GetS_some, NatS_some, ↓fIsi1, ↓fIsi2, BoolS_some, HD.kb_non_tuple, HD.kb_non_list, HD.kb_non_bool, HD.kb_non_int, HD.kb_non_str, HD.kb_bl_tuple, HD.kb_bl_list, HD.kb_bl_bool, HD.kb_bl_int, HD.kb_bl_str, HD.kb_int_tuple, HD.kb_int_list, HD.kb_int_bool, HD.kb_int_int, HD.kb_int_str, HD.kb_str_tuple, HD.kb_str_list, HD.kb_str_bool, HD.kb_str_int, HD.kb_str_str, HD.kb_lst_tuple, HD.kb_lst_list, HD.kb_lst_bool, HD.kb_lst_int, HD.kb_lst_str, HD.kb_tup_tuple, HD.kb_tup_list, HD.kb_tup_bool, HD.kb_tup_int, HD.kb_tup_str, ↓sFz_w, ↓FzS_lst, ↓FzS_ext, ↓dSortSetL, ↓fAbs, ↓fInt, ↓fRepr, ↓fLtT, ↓sRaise, ↓sTryKeep, ↓dCallV_w, ↓dMeth, ↓fCount, ↓fSplit, ↓seq_setE, ↓seq_set, ↓seq_drop, ↓seq_asg, ↓seq_if, ↓seq_for, ↓dStep, ↓fStep, ↓fMulT, ↓fIsB, ↓fNotB, ↓sPar, ↓dEnum, ↓dListZip, ↓dNest, ↓sSeal, ↓dNApp, ↓retD_reg, ↓dLenSet, ↓fSum2, ↓seq_putD, ↓seq_sealD, ↓dDIn, ↓dDGet, ↓sPutD, ↓dDNew, ↓dDOne, ↓sSealD, ↓dKeys, ↓keyS_dk, ↓dExtT, ↓fSortT, ↓fMinP, ↓dRemove, ↓dDInT, ↓dDGetT, ↓sPutDT, ↓dDNewT, ↓sSealDT, ↓dKeysT, ↓keyST_dt, ↓fSortK, ↓seq_putDT, ↓seq_sealDT, ↓dVarR_w, ↓dAttr, ↓dAppR, ↓dExtR_w, ↓dExtTR_w, ↓dClrR, ↓dPopR_w, ↓dIxR_w, ↓dDGetR, ↓dDInR, ↓dGet2R, ↓dPop1R, ↓dPop2R, ↓dDGetTR, ↓dDInTR, ↓dPop1TR, ↓dCallM, ↓dMethO, ↓dMake, ↓dMoveR, ↓dPtr, ↓sAttr, ↓sSetR, ↓sPutR, ↓sPutTR, ↓sSetA_w, ↓sSetG_w, ↓seq_setG, ↓seq_setA, ↓seq_attr, ↓seq_setR, ↓seq_putR, ↓seq_putTR, ↓RegS_reg, ↓CellS_some, ↓RefS_reg, ↓RefS_ar, ↓cellS_ar, ↓wd_ar, ↓seqD_ar, ↓lstO_lst, ↓insO_ins, ↓dkO_dk, ↓dkO_lk, ↓dtO_dt, ↓dtO_lk, ↓dkW_dk, ↓dtW_dt, ↓stoS_ext, ↓stoS_reg, ↓stoS_lstT, ↓stoS_lstF, ↓stoS_al, ↓ptrD_ref, ↓ptrD_int, ↓ptrD_str, ↓ptrD_bl, ↓ptrD_non, ↓ptrD_tup, ↓ptrD_tk, ↓ptrD_lst, ↓ptrD_fz, ↓setGS_lst, ↓setGS_reg, ↓setAS_ar, ↓setAS_ext, ↓intS_int, ↓tupS_tup, ↓lstS_lst, ↓lstK, ↓dkK, ↓dtK, ↓retD_reg, ↓dSortSetB, ↓fSortD, ↓fInD, ↓dCallD, ↓regC_reg, ↓dMoveL, ↓dMoveR_w, ↓dDictP, ↓froz_lst, ↓froz_ext, ↓dUpdTR, ↓dUpdKR, ↓dDictZipK, ↓dDictC, ↓gLstD, ↓dClear, ↓fStr, ↓dListItems, ↓dLenK, ↓dSortKI, ↓dInC, ↓fMinT, ↓fMaxT, ↓dListKT, ↓seq_parO, ↓sParO, ↓dSortSetP, ↓HD.dStep, ↓dChain3, ↓dDisp, ↓dispF, ↓dv0, ↓dw0, ↓dv1, ↓dw1, ↓dv2, ↓dw2, ↓dv3, ↓dw3, ↓dv4, ↓dw4, ↓dv5, ↓dw5, ↓dv6, ↓dw6, ↓dv7, ↓dw7, ↓dv8, ↓dw8, ↓dv9, ↓dw9, ↓dv10, ↓dw10, ↓dv11, ↓dw11, ↓dv12, ↓dw12, ↓dv13, ↓dw13, ↓dv14, ↓dw14, ↓dv15, ↓dw15, ↓dv16, ↓dw16, ↓dv17, ↓dw17, ↓dv18, ↓dw18, ↓dv19, ↓dw19])
section
variable {Ex : DX} {E : DEnds} {n : Nat} {a : Addr} {ds : List D} {u1 u2 u3 u4 u5 u6 u7 u8 u9 u10 u11 u12 u13 u14 u15 : Sl} {L : List D}
theorem pairF {i j : Nat} (hi : i < 100) (hj : j < 100) : ∃ t : NP, D.tup [D.int (if (i : Int) < j then i else j), D.int (if (i : Int) > j then i else j)] = tieD t ∧ (t.1 < 100 ∧ t.2 < 100) := by
  refine ⟨(min i j, max i j), ?_, by show min i j < 100; omega, by show max i j < 100; omega⟩
  unfold tieD
  congr 2
  · congr 1
    split <;> simp only [] <;> omega
  · congr 2
    split <;> simp only [] <;> omega
theorem tD_dc2 {k : Nat} {ts : List NP} (h : ∀ t ∈ ts, t.1 < 100 ∧ t.2 < 100) : Dcs (k + 1) (ts.length * 3) (ts.map tieD) := by
  induction ts with
  | nil => exact Dcs.nil
  | cons t ts ih =>
    obtain ⟨h1, h2⟩ := h t List.mem_cons_self
    exact (Dcs.cons (Dc.t2 (n := 0) (n' := 0) (m := 2) (Dc.nat (by omega)) (Dc.nat (by omega))) (ih fun q hq => h q (List.mem_cons_of_mem _ hq))).mono (by rw [List.length_cons]; omega)
theorem hs200 {k : Nat} (hk : k ≤ 200) : k ≤ sizeLine := Nat.le_trans hk (by decide)
theorem cut_sub (xs : List D) (lo hi : Option Int) : (cutD xs lo hi).Sublist xs := (List.take_sublist _ _).trans (List.drop_sublist _ _)
theorem k11_bt {Bs : List (List Nat)} {ts : List NP} {at' kk one : Nat} {w : Int} {o : D} (h : BtIn Bs ts) (ha : at' < 100) (ho : one < 100) (hk : Dc 3 10 o) (hj : JarOk n ds) (hn : n + 4 < 4294967296)
    (hE : ∀ d ds' fin, BR d → JarOk (n + 1) ds' → E.rt (.ext d) (.lst a ds' :: fin)) : k11_law_bent Ex E [.lst a ds, .ext (dTree Bs ts), u2, dI w, .ext (.tup (fD Bs)), .ext (.tup (ts.map tieD)), dI (at' : Nat), u7, u8, u9, dI (kk : Nat), dI (one : Nat), u12, .ext o, u14, u15] := by
  have hT := h.dt (k := 4)
  have hTl := h.tl
  have dB : Dc 7 221 (.tup (fD Bs)) := Dc.tup (h.db (k := 5))
  unfold k11_law_bent
  and_intros
  by_cases h8 : w < 8
  · rw [if_pos (by simpa using h8)]
    and_intros
    have c : ∀ lo hi, (cutD (ts.map tieD) lo hi).length ≤ 51 := fun lo hi => (hT.cut lo hi).len
    have c1 := c none (some ((kk : Nat) : Int))
    have c2 := c (some (((kk : Nat) : Int) + 1)) none
    refine ⟨hs200 (by omega), by decide, by decide, hs200 (by rw [List.length_append]; omega), ?_⟩
    obtain ⟨t0, e0, b0⟩ := pairF ha ho
    rw [e0]
    obtain ⟨us, e1, hu⟩ := all_of tieD (P := fun d => ∃ t : NP, d = tieD t ∧ (t.1 < 100 ∧ t.2 < 100)) (R := fun t : NP => t.1 < 100 ∧ t.2 < 100) (fun d h => h) (cutD (ts.map tieD) none (some ((kk : Nat) : Int)) ++ cutD (ts.map tieD) (some (((kk : Nat) : Int) + 1)) none ++ [tieD t0]) (fun d hd => by
      have key : ∀ lo hi, d ∈ cutD (ts.map tieD) lo hi → ∃ t : NP, d = tieD t ∧ (t.1 < 100 ∧ t.2 < 100) := fun lo hi hd => by
        obtain ⟨t, ht, rfl⟩ := List.mem_map.1 ((cut_sub _ lo hi).subset hd)
        exact ⟨t, rfl, h.ts t ht⟩
      rcases List.mem_append.1 hd with hd | hd
      · rcases List.mem_append.1 hd with hd | hd
        · exact key _ _ hd
        · exact key _ _ hd
      · rw [List.mem_singleton.1 hd]
        exact ⟨t0, rfl, b0⟩)
    have hul : us.length ≤ 103 := by
      have := congrArg List.length e1
      rw [List.length_map, List.length_append, List.length_append] at this
      simp only [List.length_cons, List.length_nil] at this
      omega
    rw [e1]
    unfold k6_law_bent
    and_intros
    have hTw := hT.cut none (some ((kk : Nat) : Int))
    have hTv := hT.cut (some (((kk : Nat) : Int) + 1)) none
    refine ⟨by decide, hs200 (by omega), hs200 (by rw [List.length_append, List.length_singleton]; omega), srt_ties _, fun ds2 hp2 _ => ?_⟩
    obtain ⟨vs, hvs, rfl⟩ := perm_map_inv hp2
    have hv : ∀ t ∈ vs, t.1 < 100 ∧ t.2 < 100 := fun t ht => hu t (hvs.mem_iff.1 ht)
    have hvl : vs.length ≤ 103 := by rw [hvs.length_eq]; exact hul
    refine ⟨by decide, by decide, ?_⟩
    have hall : ∀ d ∈ [D.tup (cutD (ts.map tieD) none (some ((kk : Nat) : Int)) ++ [o] ++ cutD (ts.map tieD) (some (((kk : Nat) : Int) + 1)) none), D.tup (vs.map tieD)], Dc 7 400 d :=
      allMem (Dc.up (Dc.tup (k := 5) (((hTw.app (Dcs.one (m := 11) (Dc.up (Dc.up hk)))).app hTv).mono (by omega)))) <| allMem (Dc.up (Dc.tup (k := 5) ((tD_dc2 hv).mono (by omega)))) allNil
    obtain ⟨x, hx, hxm⟩ := atI_mem (xs := [D.tup (cutD (ts.map tieD) none (some ((kk : Nat) : Int)) ++ [o] ++ cutD (ts.map tieD) (some (((kk : Nat) : Int) + 1)) none), D.tup (vs.map tieD)]) (r := w % 2) (by omega) (by show w % 2 < 2; omega)
    refine ⟨x, hx, ?_⟩
    and_intros
    refine ⟨by decide, hE _ ds _ ?_ (hj.up (by omega))⟩
    exact Dc.t2 dB (hall x hxm)
  · rw [if_neg (by simpa using h8)]
    exact k10_bt h ha ho hj hn hE
theorem k13_bt {Bs : List (List Nat)} {ts : List NP} {at' kk one : Nat} {w : Int} (h : BtIn Bs ts) (ha : at' < 100) (ho : one < 100) (hj : JarOk n ds) (hn : n + 10 < 4294967296) (hL : L.length = 9) (hd : ∀ d ∈ L, Dc 3 10 d)
    (hE : ∀ d ds' fin, BR d → JarOk (n + 2) ds' → E.rt (.ext d) (.lst a ds' :: fin)) : k13_law_bent Ex E [.lst a ds, .ext (dTree Bs ts), u2, dI w, .ext (.tup (fD Bs)), .ext (.tup (ts.map tieD)), dI (at' : Nat), u7, u8, u9, dI (kk : Nat), dI (one : Nat), .ext (.lst L), u13, u14, u15] := by
  unfold k13_law_bent
  and_intros
  have d0 : ∀ {k : Nat} {m : Nat}, m < 100 → Dc k 0 (.int (m : Nat)) := fun h => Dc.nat (by omega)
  refine ⟨by decide, by decide, by decide, by decide, by decide, by decide, by decide, by decide, by decide, by decide, hs200 (by omega), ?_⟩
  have hall : ∀ d ∈ L ++ [D.tup [.int (at' : Nat), .int (one : Nat)], .tup [.int 0, .bl true], .tup [.non, .int (at' : Nat)], .tup [.int (at' : Nat), .str (Str.ofString "1")], .tup [.int (one : Nat), .non], .tup [.lst [.int (one : Nat)], .int (at' : Nat)], .tup [.int (one : Nat), .lst [.int (at' : Nat)]]], Dc 3 10 d := fun d hdm => by
    rcases List.mem_append.1 hdm with z | z
    · exact hd d z
    · revert d
      exact fun d _ z => (allMem (Dc.t2 (n := 0) (n' := 0) (d0 ha) (d0 ho)) <| allMem (Dc.t2 (n := 0) (n' := 0) (Dc.int (by decide)) Dc.bl) <| allMem (Dc.t2 (n := 0) (n' := 0) Dc.non (d0 ha)) <| allMem (Dc.t2 (n := 0) (n' := 4) (d0 ha) Dc.str) <| allMem (Dc.t2 (n := 0) (n' := 0) (d0 ho) Dc.non) <| allMem (Dc.t2 (n := 1) (n' := 0) (Dc.l1 (n := 0) (d0 ho)) (d0 ha)) <| allMem (Dc.t2 (n := 0) (n' := 1) (d0 ho) (Dc.l1 (n := 0) (d0 ha))) allNil : ∀ d ∈ _, Dc 3 10 d) d z
  have hlen : (L ++ [D.tup [.int (at' : Nat), .int (one : Nat)], .tup [.int 0, .bl true], .tup [.non, .int (at' : Nat)], .tup [.int (at' : Nat), .str (Str.ofString "1")], .tup [.int (one : Nat), .non], .tup [.lst [.int (one : Nat)], .int (at' : Nat)], .tup [.int (one : Nat), .lst [.int (at' : Nat)]]]).length = 16 := by rw [List.length_append, hL]; rfl
  generalize L ++ [D.tup [.int (at' : Nat), .int (one : Nat)], .tup [.int 0, .bl true], .tup [.non, .int (at' : Nat)], .tup [.int (at' : Nat), .str (Str.ofString "1")], .tup [.int (one : Nat), .non], .tup [.lst [.int (one : Nat)], .int (at' : Nat)], .tup [.int (one : Nat), .lst [.int (at' : Nat)]]] = M at hall hlen ⊢
  unfold k12_law_bent
  and_intros
  refine ⟨n, a, ds, _, rfl, hj, by omega, by decide, by decide, fun r ds1 fin r0 r1 hj1 => ?_⟩
  and_intros
  obtain ⟨o, hoo, hm⟩ := atI_mem (xs := M) r0 (by rw [hlen]; omega)
  refine ⟨o, hoo, ?_⟩
  and_intros
  exact k11_bt h ha ho (hall o hm) hj1 (by omega) hE
theorem k14_bt {Bs : List (List Nat)} {ts : List NP} {at' kk one : Nat} {w : Int} (h : BtIn Bs ts) (ha : at' < 100) (ho : one < 100) (hj : JarOk n ds) (hn : n + 10 < 4294967296)
    (hE : ∀ d ds' fin, BR d → JarOk (n + 2) ds' → E.rt (.ext d) (.lst a ds' :: fin)) : k14_law_bent Ex E [.lst a ds, .ext (dTree Bs ts), u2, dI w, .ext (.tup (fD Bs)), .ext (.tup (ts.map tieD)), dI (at' : Nat), u7, u8, u9, dI (kk : Nat), dI (one : Nat), u12, u13, u14, u15] := by
  unfold k14_law_bent
  and_intros
  have d0 : ∀ {k : Nat} {m : Nat}, m < 100 → Dc k 0 (.int (m : Nat)) := fun h => Dc.nat (by omega)
  refine ⟨by decide, by decide, by decide, by decide, by decide, by decide, by decide, by decide, by decide, ?_⟩
  refine k13_bt h ha ho hj hn rfl ?_ hE
  exact allMem (Dc.t2 (n := 0) (n' := 0) (d0 ho) (d0 ha)) <| allMem (Dc.t2 (n := 0) (n' := 0) (d0 ha) (d0 ha)) <| allMem (Dc.t2 (n := 0) (n' := 0) (d0 ha) (by rw [fD_len]; exact d0 (by have := h.bl; omega))) <| allMem (Dc.t2 (n := 0) (n' := 0) (Dc.int (by decide)) (d0 ha)) <| allMem (Dc.t2 (n := 0) (n' := 0) Dc.bl (d0 ha)) <| allMem (Dc.l2 (n := 0) (n' := 0) (d0 ho) (d0 ha)) <| allMem (Dc.t1 (n := 0) (d0 ho)) <| allMem (Dc.t3 (n := 0) (n' := 0) (n3 := 0) (d0 ho) (d0 ha) (Dc.int (by decide))) <| allMem Dc.non allNil
theorem k16_bt {Bs : List (List Nat)} {ts : List NP} {at' : Nat} {w : Int} (h : BtIn Bs ts) (ha : at' < 100) (hj : JarOk n ds) (hn : n + 20 < 4294967296)
    (hE : ∀ d ds' fin, BR d → JarOk (n + 4) ds' → E.rt (.ext d) (.lst a ds' :: fin)) : k16_law_bent Ex E [.lst a ds, .ext (dTree Bs ts), u2, dI w, .ext (.tup (fD Bs)), .ext (.tup (ts.map tieD)), dI (at' : Nat), u7, u8, u9, u10, u11, u12, u13, u14, u15] := by
  have h1 := h.bl
  have h2 := h.tl
  have h3 := h.b0
  unfold k16_law_bent
  and_intros
  rw [List.length_map]
  have hmx : (if ((ts.length : Nat) : Int) > 1 then ((ts.length : Nat) : Int) else 1) = ((max 1 ts.length : Nat) : Int) := by
    split <;> omega
  rw [hmx]
  refine ⟨n, a, ds, _, rfl, hj, by omega, by omega, by omega, fun r ds1 fin r0 r1 hj1 => ?_⟩
  and_intros
  obtain ⟨kk, rfl⟩ := Int.eq_ofNat_of_zero_le r0
  unfold k15_law_bent
  and_intros
  rw [fD_len]
  refine ⟨n + 1, a, ds1, _, rfl, hj1, by omega, by omega, by omega, fun r ds2 fin r0 r1 hj2 => ?_⟩
  and_intros
  obtain ⟨one, rfl⟩ := Int.eq_ofNat_of_zero_le r0
  exact k14_bt h ha (by omega) hj2 (by omega) hE
theorem k17_bt {Bs : List (List Nat)} {ts : List NP} {at' : Nat} {w : Int} (h : BtIn Bs ts) (ha : at' < Bs.length) (hj : JarOk n ds) (hn : n + 20 < 4294967296)
    (hE : ∀ d ds' fin, BR d → JarOk (n + 4) ds' → E.rt (.ext d) (.lst a ds' :: fin)) : k17_law_bent Ex E [.lst a ds, .ext (dTree Bs ts), u2, dI w, .ext (.tup (fD Bs)), .ext (.tup (ts.map tieD)), dI (at' : Nat), u7, u8, u9, u10, u11, u12, u13, u14, u15] := by
  unfold k17_law_bent
  and_intros
  have hB := h.db (k := 4)
  have hl := h.bl
  have c : ∀ lo hi, (cutD (fD Bs) lo hi).length ≤ 17 := fun lo hi => Nat.le_trans (cut_sub _ lo hi).length_le (by rw [fD_len]; exact hl)
  by_cases h4 : w = 4
  · rw [if_pos (by rw [h4]; rfl)]
    have c1 := c none (some ((at' : Nat) : Int))
    have c2 := c (some (((at' : Nat) : Int) + 1)) none
    have c3 := c (some ((at' : Nat) : Int)) (some (((at' : Nat) : Int) + 1))
    refine ⟨hs200 (by omega), hs200 (by rw [fD_len]; omega), by decide, by decide, ?_⟩
    have hall : ∀ d ∈ [D.tup (cutD (fD Bs) none (some ((at' : Nat) : Int)) ++ cutD (fD Bs) (some (((at' : Nat) : Int) + 1)) none), D.tup (fD Bs ++ cutD (fD Bs) (some ((at' : Nat) : Int)) (some (((at' : Nat) : Int) + 1))), D.lst (fD Bs), D.tup (fD Bs).reverse, D.tup [], D.non], Dc 6 500 d :=
      allMem (Dc.tup (((hB.cut _ _).app (hB.cut _ _)).mono (by omega))) <| allMem (Dc.tup ((hB.app (hB.cut _ _)).mono (by omega))) <| allMem (Dc.lst (hB.mono (by omega))) <| allMem (Dc.tup (hB.rev.mono (by omega))) <| allMem Dc.t0 <| allMem Dc.non allNil
    have hlen : [D.tup (cutD (fD Bs) none (some ((at' : Nat) : Int)) ++ cutD (fD Bs) (some (((at' : Nat) : Int) + 1)) none), D.tup (fD Bs ++ cutD (fD Bs) (some ((at' : Nat) : Int)) (some (((at' : Nat) : Int) + 1))), D.lst (fD Bs), D.tup (fD Bs).reverse, D.tup [], D.non].length = 6 := rfl
    generalize [D.tup (cutD (fD Bs) none (some ((at' : Nat) : Int)) ++ cutD (fD Bs) (some (((at' : Nat) : Int) + 1)) none), D.tup (fD Bs ++ cutD (fD Bs) (some ((at' : Nat) : Int)) (some (((at' : Nat) : Int) + 1))), D.lst (fD Bs), D.tup (fD Bs).reverse, D.tup [], D.non] = M at hall hlen ⊢
    unfold k5_law_bent
    and_intros
    refine ⟨n, a, ds, _, rfl, hj, by omega, by decide, by decide, fun r ds1 fin r0 r1 hj1 => ?_⟩
    and_intros
    obtain ⟨o, hoo, hm⟩ := atI_mem (xs := M) r0 (by rw [hlen]; omega)
    refine ⟨o, hoo, ?_⟩
    and_intros
    refine ⟨by decide, hE _ ds1 _ ?_ (hj1.up (by omega))⟩
    exact (Dc.t2 (n := 500) (n' := 51) (m := 6000) (Dc.up (hall o hm)) (Dc.up (Dc.tup (h.dt (k := 4)))))
  · rw [if_neg (by simpa using h4)]
    exact k16_bt h (by omega) hj hn hE
theorem k2_bt {Bs : List (List Nat)} {ts : List NP} {at' : Nat} {o : D} (h : BtIn Bs ts) (ho : Dc 5 100 o) (hj : JarOk n ds)
    (hE : ∀ d ds' fin, BR d → JarOk (n + 4) ds' → E.rt (.ext d) (.lst a ds' :: fin)) : k2_law_bent Ex E [.lst a ds, u1, u2, u3, .ext (.tup (fD Bs)), .ext (.tup (ts.map tieD)), dI (at' : Nat), .ext o, u8, u9, u10, u11, u12, u13, u14, u15] := by
  unfold k2_law_bent
  and_intros
  have hB := h.db (k := 4)
  have hl := h.bl
  have c : ∀ lo hi, (cutD (fD Bs) lo hi).length ≤ 17 := fun lo hi => Nat.le_trans (cut_sub _ lo hi).length_le (by rw [fD_len]; exact hl)
  have c1 := c none (some ((at' : Nat) : Int))
  have c2 := c (some (((at' : Nat) : Int) + 1)) none
  refine ⟨by decide, hs200 (by omega), hs200 (by rw [List.length_append, List.length_singleton]; omega), by decide, hE _ ds _ ?_ (hj.up (by omega))⟩
  exact Dc.t2 (n := 600) (n' := 51) (m := 6000) (Dc.up (Dc.tup (((( hB.cut _ _).app (Dcs.one (m := 101) ho)).app (hB.cut _ _)).mono (by omega)))) (Dc.up (Dc.tup (h.dt (k := 4))))
theorem k3_bt {Bs : List (List Nat)} {ts : List NP} {at' : Nat} {w : Int} {o : D} (h : BtIn Bs ts) (ha : at' < Bs.length) (ho : Dc 5 100 o) (hj : JarOk n ds) (hn : n + 10 < 4294967296)
    (hE : ∀ d ds' fin, BR d → JarOk (n + 5) ds' → E.rt (.ext d) (.lst a ds' :: fin)) : k3_law_bent Ex E [.lst a ds, .ext (dTree Bs ts), u2, dI w, .ext (.tup (fD Bs)), .ext (.tup (ts.map tieD)), dI (at' : Nat), .ext o, u8, u9, u10, u11, u12, u13, u14, u15] := by
  unfold k3_law_bent
  and_intros
  have hB := h.bs (bg Bs at') (bg_mem ha)
  by_cases h3 : w = 3
  · rw [if_pos (by rw [h3]; rfl)]
    refine ⟨_, atN (getD_bg ha), ?_⟩
    and_intros
    rw [nD_len]
    by_cases h0 : 0 < (bg Bs at').length
    · rw [if_pos (by simpa using h0)]
      refine ⟨_, atN (getD_bg ha), ?_⟩
      and_intros
      rw [nD_len]
      refine ⟨n, a, ds, _, rfl, hj, by omega, by omega, by omega, fun r ds1 fin r0 r1 hj1 => ?_⟩
      and_intros
      unfold k1_law_bent
      and_intros
      refine ⟨_, atN (getD_bg ha), ?_⟩
      and_intros
      refine ⟨_, atN (getD_bg ha), ?_⟩
      and_intros
      have c : ∀ lo hi, (cutD (nD (bg Bs at')) lo hi).length ≤ 12 := fun lo hi => Nat.le_trans (cut_sub _ lo hi).length_le (by rw [nD_len]; exact hB.1)
      have c1 := c none (some r)
      have c2 := c (some (r + 1)) none
      have hD : Dcs 4 12 (nD (bg Bs at')) := (Dcs.nats fun m hm => by have := hB.2 m hm; omega).mono hB.1
      refine ⟨hs200 (by omega), ?_⟩
      exact k2_bt h (Dc.tup (((hD.cut _ _).app (hD.cut _ _)).mono (by omega))) hj1 fun d ds' fin h1 h2 => hE d ds' fin h1 (h2.up (by omega))
    · rw [if_neg (by simpa using h0)]
      exact k2_bt h ho hj fun d ds' fin h1 h2 => hE d ds' fin h1 (h2.up (by omega))
  · rw [if_neg (by simpa using h3)]
    exact k2_bt h ho hj fun d ds' fin h1 h2 => hE d ds' fin h1 (h2.up (by omega))
theorem k18_bt {Bs : List (List Nat)} {ts : List NP} {at' many : Nat} {w : Int} (h : BtIn Bs ts) (ha : at' < Bs.length) (hm0 : 0 < many) (hm : many ≤ 12) (hj : JarOk n ds) (hn : n + 30 < 4294967296)
    (hE : ∀ d ds' fin, BR d → JarOk (n + 10) ds' → E.rt (.ext d) (.lst a ds' :: fin)) : k18_law_bent Ex E [.lst a ds, .ext (dTree Bs ts), dI (many : Nat), dI w, .ext (.tup (fD Bs)), .ext (.tup (ts.map tieD)), dI (at' : Nat), u7, u8, u9, u10, u11, u12, u13, u14, u15] := by
  unfold k18_law_bent
  and_intros
  by_cases h4 : w < 4
  · rw [if_pos (by simpa using h4)]
    unfold i4_law_bent
    and_intros
    have hB := h.bs (bg Bs at') (bg_mem ha)
    by_cases h2 : w < 2
    · rw [if_pos h2]
      refine ⟨_, atN (getD_bg ha), ?_⟩
      and_intros
      refine ⟨n, a, ds, _, many, rfl, hj, by omega, by omega, fun m hm' => by have := hB.2 m hm'; omega, by omega, fun o ds1 fin hd hj1 => ?_⟩
      and_intros
      exact k3_bt h ha (Dc.mono (Dc.up (Dc.up (Dc.up hd))) (by decide)) hj1 (by omega) fun d ds' fin h1 h2 => hE d ds' fin h1 (h2.up (by omega))
    · rw [if_neg h2]
      refine ⟨_, atN (getD_bg ha), ?_⟩
      and_intros
      refine ⟨n, a, ds, _, rfl, hj, by omega, by omega, by omega, fun r ds1 fin r0 r1 hj1 => ?_⟩
      and_intros
      obtain ⟨r, rfl⟩ := Int.eq_ofNat_of_zero_le r0
      rw [show nD (bg Bs at') ++ [D.int ((r : Nat) : Int)] = (bg Bs at' ++ [r]).map (fun m => D.int (m : Nat)) by rw [List.map_append]; rfl]
      have hl := hB.1
      refine ⟨by decide, hs200 (by rw [nD_len]; omega), (bg Bs at' ++ [r]).map fun m => ((m : Nat) : Int), (by rw [List.map_map]; rfl), fun ns' hp _ => ?_⟩
      have hnl : ns'.length ≤ 13 := by
        rw [hp.length_eq, List.length_map, List.length_append, List.length_singleton]
        omega
      refine k3_bt h ha (Dc.tup (n := 100) ((Dcs.ints fun i hi => ?_).mono (by omega))) hj1 (by omega) fun d ds' fin h1 h2 => hE d ds' fin h1 (h2.up (by omega))
      obtain ⟨m, hm', rfl⟩ := List.mem_map.1 (hp.mem_iff.1 hi)
      have : m < 100 := by
        rcases List.mem_append.1 hm' with z | z
        · exact hB.2 m z
        · rw [List.mem_singleton.1 z]; omega
      rw [Int.natAbs_natCast]
      exact Nat.lt_trans this (by decide)
  · rw [if_neg (by simpa using h4)]
    exact k17_bt h ha hj (by omega) fun d ds' fin h1 h2 => hE d ds' fin h1 (h2.up (by omega))
theorem m_law_bent : Meets t_law_bent 3 13 sp_law_bent := by
  rintro args Qd Xd ⟨n, a, ds, Bs, ts, many, rfl, hj, hn, b0, bl, tl, hB, hT, hm0, hm, hQ⟩
  have h : BtIn Bs ts := ⟨b0, bl, tl, hB, hT⟩
  show t_law_bent _ _ [_, _, _, .un, .un, .un, .un, .un, .un, .un, .un, .un, .un, .un, .un, .un]
  unfold t_law_bent
  and_intros
  refine ⟨n, a, ds, 10, rfl, hj, by omega, by decide, by decide, fun w ds1 fin w0 w1 hj1 => ?_⟩
  and_intros
  unfold k20_law_bent dTree
  and_intros
  unfold k19_law_bent
  and_intros
  rw [fD_len]
  refine ⟨n + 1, a, ds1, _, rfl, hj1, by omega, by omega, by omega, fun r ds2 fin r0 r1 hj2 => ?_⟩
  and_intros
  obtain ⟨r, rfl⟩ := Int.eq_ofNat_of_zero_le r0
  exact k18_bt h (by omega) hm0 hm hj2 (by omega) fun d ds' fin h1 h2 => by
    and_intros
    exact hQ d ds' _ h1 (h2.up (by omega))
end
def k1_law : DTS :=
    (sIf (dAnd (dTest (dOp fEq (dVar 5) (dC (.int 0)))) (dTest (dOp fNe (dVar 8) (dOp (fCmp fun i j => decide (i < j)) (dCB fLen (dCons (dOp fIx (dVar 4) (dC (.int 0))) dNil)) (dC (.int 13)))))) (sRet (dC (.bl false))) sNext)
def k2_law : DTS :=
    (sSeq (sIf (dOr (dTest (dOp fNe (dCall sp_law_kept (dCons (dVar 3) (dCons (dVar 6) dNil))) (dVar 8))) (dTest (dOp fNe (dCB fRepr (dCons (dVar 6) dNil)) (dVar 7)))) (sRet (dC (.bl false))) sNext)
    k1_law)
def k3_law : DTS :=
    (sSeq (sIf (dOr (dNot (dTest (dCB fIsi (dCons (dVar 8) (dCons (dC (.val (.ty "bool"))) dNil))))) (dOr (dTest (dOp fNe (dVar 8) (dCall sp_law_is_tree (dCons (dVar 3) (dCons (dVar 6) dNil))))) (dTest (dOp fNe (dCB fRepr (dCons (dVar 6) dNil)) (dVar 7))))) (sRet (dC (.bl false))) sNext)
    k2_law)
def k4_law : DTS :=
    (sSeq (sSetE 8 (dCall sp_is_bag_tree (dCons (dVar 3) (dCons (dVar 6) dNil))))
    k3_law)
def k5_law : DTS :=
    (sSeq (sSetE 7 (dCB fRepr (dCons (dVar 6) dNil)))
    k4_law)
def b6_law : DTS :=
    (sSeq (sSetE 6 (dIf (dTest (dOp fEq (dVar 5) (dC (.int 0)))) (dVar 4) (dCallJ sp_law_bent 1 (dCons (dVar 4) (dCons (dCB fLen (dCons (dOp fIx (dVar 3) (dC (.int 0))) dNil)) dNil)))))
    k5_law)
def k7_law : DTS :=
    (sFor (dRange1 (dCons (dC (.int 10)) dNil)) (gSet 5) b6_law)
def k8_law : DTS :=
    (sSeq (sSetE 4 (dCallJ sp_law_built 1 (dCons (dVar 3) dNil)))
    k7_law)
def b9_law : DTS :=
    (sSeq (sSetE 3 (dCallJ sp_law_web 1 (dCons (dOp fIx (dLst (dCons (dC (.int 7)) (dCons (dC (.int 12)) dNil))) (dCallJ sp_law_dip 1 (dCons (dC (.int 2)) dNil))) dNil)))
    k8_law)
def k10_law : DTS :=
    (sRet (dC (.bl true)))
def k11_law : DTS :=
    (sSeq (sFor (dRange1 (dCons (dC (.int 3)) dNil)) (gSet 2) b9_law)
    k10_law)
def t_law : DTS :=
    (sSeq (sSet 1 (dCall sp_law_jar (dCons (dVar 0) dNil)))
    k11_law)
noncomputable abbrev lE (s0 : Sl) (a : Addr) (ds : List D) (u2 : Sl) (S : List Nat) (ps : List Part) (Bs : List (List Nat)) (ts : List NP) (u5 u6 u7 u8 : Sl) : Env' := [s0, .lst a ds, u2, .ext (dSh S ps), .ext (dTree Bs ts), u5, u6, u7, u8]
section
variable {Ex : DX} {E : DEnds} {n : Nat} {a : Addr} {ds : List D} {s0 u2 u6 u7 u8 : Sl} {S : List Nat} {ps : List Part} {Bs : List (List Nat)} {ts : List NP}
theorem web_ps {S : List Nat} {ps : List Part} (h : WebOk S ps) : (∀ p ∈ ps, p.Ok S) ∧ ∀ p ∈ ps, Bd 40 p := ⟨fun p hp => (h.ok p hp).1, fun p hp x hx => by rw [(h.ok p hp).2 x hx]; decide⟩
theorem btin_of (h : TrSt S ps Bs ts) (h12 : S.length ≤ 12) (hb : Bs.length ≤ 17) : BtIn Bs ts := by
  have hbag := fun k => LS.TrSt.bag h k
  have hl := LS.TrSt.lt h
  obtain ⟨root, up, rk, hR⟩ := h
  have tr := hR.rt.tr
  have hc := TR.count tr
  refine ⟨Nat.lt_of_le_of_lt (Nat.zero_le _) tr.rt, hb, by omega, fun B hB => ?_, fun t ht => ?_⟩
  · obtain ⟨k, hk, rfl⟩ := List.getElem_of_mem hB
    have e : bg Bs k = Bs[k] := by
      show Bs.getD k [] = _
      rw [List.getD_eq_getElem?_getD, List.getElem?_eq_getElem hk]
      rfl
    obtain ⟨b1, b2, b3⟩ := hbag k
    rw [e] at b1 b2 b3
    exact ⟨by omega, fun m hm => by have := b2 m hm; omega⟩
  · have := hl t ht
    omega
theorem k5_ok {k : Nat} {d : D} (hW : WebOk S ps) (h12 : S.length ≤ 12) (hd : BR d) (hk : k = 0 → (BtD S ps d ↔ Bs.length < 13))
    (hE : ∀ u7 u8, E.nx (lE s0 a ds u2 S ps Bs ts (dI (k : Nat)) (.ext d) u7 u8)) : k5_law Ex E (lE s0 a ds u2 S ps Bs ts (dI (k : Nat)) (.ext d) u7 u8) := by
  have nok := hW.ns
  have sz := hW.sz
  obtain ⟨ok, bd⟩ := web_ps hW
  have hsh := hd.sh (by decide) (by decide)
  unfold k5_law
  and_intros
  refine ⟨hsh, ?_⟩
  unfold k4_law
  and_intros
  refine ⟨S, ps, d, 8, rfl, nok, hd.pl, fun b fin hb => ?_⟩
  and_intros
  unfold k3_law
  and_intros
  refine ⟨rfl, rfl, ?_⟩
  rw [if_neg (by decide)]
  refine ⟨S, ps, d, 8, rfl, nok, hd.pl, fun b2 fin2 hb2 => ?_⟩
  have hbb : b2 = b := by rw [Bool.eq_iff_iff, hb2, hb]
  subst hbb
  and_intros
  rw [if_neg (by cases b2 <;> decide)]
  refine ⟨hsh, ?_⟩
  rw [if_neg (by simp)]
  unfold k2_law
  and_intros
  refine ⟨S, ps, d, 8, rfl, nok, sz, ok, bd, by have := hW.few; omega, hd.pl, fun b3 fin3 hb3 => ?_⟩
  have hbb : b3 = b2 := by rw [Bool.eq_iff_iff, hb3, hb]
  subst hbb
  and_intros
  rw [if_neg (by cases b3 <;> decide)]
  refine ⟨hsh, ?_⟩
  rw [if_neg (by simp)]
  unfold k1_law
  and_intros
  by_cases hk0 : k = 0
  · rw [if_pos (by simp; omega)]
    unfold dTree
    and_intros
    rw [fD_len]
    have e : b3 = decide (((Bs.length : Nat) : Int) < 13) := by
      rw [Bool.eq_iff_iff, hb, hk hk0, decide_eq_true_eq]
      omega
    rw [← e, if_neg (by cases b3 <;> decide)]
    exact hE _ _
  · rw [if_neg (by simp; omega)]
    exact hE _ _
theorem b6_ok {k : Nat} (hW : WebOk S ps) (h12 : S.length ≤ 12) (hI : BtIn Bs ts) (hT : BtD S ps (dTree Bs ts) ↔ Bs.length < 13) (hj : JarOk n ds) (hn : n + 40 < 4294967296)
    (hE : ∀ ds' u6 u7 u8, JarOk (n + 30) ds' → E.nx (lE s0 a ds' u2 S ps Bs ts (dI (k : Nat)) u6 u7 u8)) : b6_law Ex E (lE s0 a ds u2 S ps Bs ts (dI (k : Nat)) u6 u7 u8) := by
  have hS0 := hW.pos
  unfold b6_law
  and_intros
  by_cases hk : k = 0
  · rw [if_pos (by simp; omega)]
    refine k5_ok hW h12 (Dc.up (Dc.up (Dc.t2 (k := 5) (Dc.tup (hI.db (k := 3))) (Dc.tup (hI.dt (k := 3)))))) (fun _ => hT) fun u7 u8 => hE ds _ u7 u8 (hj.up (by omega))
  · rw [if_neg (by simp; omega)]
    rw [nD_len]
    refine ⟨n, a, ds, Bs, ts, S.length, rfl, hj, hn, hI.b0, hI.bl, hI.tl, hI.bs, hI.ts, hS0, h12, fun d ds' fin hd hj' => ?_⟩
    and_intros
    exact k5_ok hW h12 hd (fun z => absurd z hk) fun u7 u8 => hE ds' _ u7 u8 hj'
end
theorem m_law : Meets t_law 1 8 (lawSpec 63) := by
  rintro args Qd Xd ⟨ns, rfl, hl, hQ⟩
  show t_law _ _ [_, .un, .un, .un, .un, .un, .un, .un, .un]
  unfold t_law
  and_intros
  refine ⟨ns, rfl, hl, fun a ds fin hj => ?_⟩
  trivial
  unfold k11_law
  and_intros
  refine ⟨⟨by decide, by decide⟩, ?_⟩
  rw [show rgD 0 3 = nD (List.range 3) from rgD_nat 3]
  refine for_ind (fun i : Nat => D.int (i : Nat)) (fun is env => ∃ (n : Nat) (ds : List D) (u2 u3 u4 u5 u6 u7 u8 : Sl), env = [.ext (.fz (ns.map D.int)), .lst a ds, u2, u3, u4, u5, u6, u7, u8] ∧ JarOk n ds ∧ n + is.length * 10000 ≤ 100000) ?_ ?_ (List.range 3) _ ⟨0, ds, _, _, _, _, _, _, _, rfl, hj, by decide⟩
  · rintro env ⟨n, ds, u2, u3, u4, u5, u6, u7, u8, rfl, _⟩
    refine ⟨True.intro, ?_⟩
    unfold k10_law
    and_intros
    exact hQ _
  rintro i is env N ⟨n, ds, u2, u3, u4, u5, u6, u7, u8, rfl, hj, hn⟩ hN
  rw [List.length_cons] at hn
  refine ⟨True.intro, ?_⟩
  unfold b9_law
  and_intros
  refine ⟨by decide, fun a9 => ?_⟩
  refine ⟨n, a, ds, 2, rfl, hj, by omega, by decide, by decide, fun r ds1 fin r0 r1 hj1 => ?_⟩
  and_intros
  obtain ⟨most, hmo, hmo1, hmo2⟩ : ∃ most : Nat, atI [D.int 7, D.int 12] r = some (D.int (most : Nat)) ∧ 0 < most ∧ most ≤ 12 := by
    have h2 : r = 0 ∨ r = 1 := by omega
    rcases h2 with h | h <;> rw [h]
    · exact ⟨7, rfl, by decide, by decide⟩
    · exact ⟨12, rfl, by decide, by decide⟩
  refine ⟨_, hmo, ?_⟩
  and_intros
  refine ⟨n + 1, a, ds1, most, rfl, hj1, by omega, hmo1, hmo2, fun S ps ds2 fin hW hSm hj2 => ?_⟩
  and_intros
  have h12 : S.length ≤ 12 := by omega
  unfold k8_law
  and_intros
  refine ⟨n + 4001, a, ds2, S, ps, rfl, hj2, by omega, hW, h12, fun Bs ts ds3 fin hT hBl hlt hs hj3 => ?_⟩
  and_intros
  have hI := btin_of hT h12 (by omega)
  have hBD : BtD S ps (dTree Bs ts) ↔ Bs.length < 13 := ⟨fun ⟨Cs, us, e, bt⟩ => by
    obtain ⟨e1, e2⟩ := tree_inj e
    rw [e1]
    have := bt.few
    omega, fun h => ⟨Bs, ts, rfl, GYT.trst_btree hT hlt hs (by omega) (by omega)⟩⟩
  unfold k7_law
  and_intros
  refine ⟨⟨by decide, by decide⟩, ?_⟩
  rw [show rgD 0 10 = nD (List.range 10) from rgD_nat 10]
  refine for_ind (fun i : Nat => D.int (i : Nat)) (fun is2 env => ∃ (n' : Nat) (ds : List D) (u5 u6 u7 u8 : Sl), env = lE (.ext (.fz (ns.map D.int))) a ds (dI (i : Nat)) S ps Bs ts u5 u6 u7 u8 ∧ JarOk n' ds ∧ n' + is2.length * 30 ≤ n + 9000) ?_ ?_ (List.range 10) _ ⟨n + 8001, ds3, _, _, _, _, rfl, hj3, by rw [List.length_range]; omega⟩
  · rintro env ⟨n', ds, u5, u6, u7, u8, rfl, hj', hn'⟩
    exact ⟨True.intro, hN _ ⟨n + 10000, ds, _, _, _, _, _, _, _, rfl, hj'.up (by omega), by omega⟩⟩
  rintro j is2 env N2 ⟨n', ds, u5, u6, u7, u8, rfl, hj', hn'⟩ hN2
  rw [List.length_cons] at hn'
  refine ⟨True.intro, ?_⟩
  exact b6_ok hW h12 hI hBD hj' (by omega) fun ds' u6 u7 u8 hj'' => hN2 _ ⟨n' + 30, ds', _, _, _, _, rfl, hj'', by omega⟩
end Y50
end Y5
end V2
end LS
namespace HD
open PySem L2
abbrev FnD (K : PySem.W.Frag) (x : Str) (st : Stmt) (f : Addr) (fd : FuncData) : Prop := FunD K x x (defArgs st) (defBody st) (defScope st) [] [] f fd
theorem Def.of {G : GG} {x : Str} {st : Stmt} {f : Addr} {fd : FuncData} {N ps : List Str} {k n m : Nat} {t : DTS} {sp : DSpec} (F : FnD G.K x st f fd) (hmg : G.mg x = some (.ref f)) (sc : FnScope N ps (defScope st)) (hb : DSs G N (fnS (defScope st)) k (defBody st) t) (hm : Meets t n m sp)
    (hn : ps.length = n) (hN : N.length = n + m) (len : ∀ ds Q X, sp ds Q X → ds.length = n) (bd : Binds G.K fd ps []) : Def G (k + 1) x n sp := by
  subst hn
  refine ⟨⟨f, fd, ps, fn_ok (He5.fun_of F) sc hb fun args Qd Xd h hl => ?_, hmg, F.kp, bd⟩, len⟩
  have e : N.length - args.length = m := by omega
  rw [e]
  exact hm args Qd Xd h
theorem Def.ok {G : GG} {k : Nat} {x : Str} {sp : DSpec} {fa : Addr} {st : Stmt} {fd : FuncData} {N : List Str} {m : Nat} {t : DTS} (F : FnD G.K x st fa fd) (sc : FnScope N ["script"] (defScope st)) (hb : DSs G N (fnS (defScope st)) k (defBody st) t) (hm : Meets t 1 m sp) (hN : N.length = 1 + m) :
    FnG G.P G.w G.K G.mg G.base (L2.CX G.P G.w) (k + 1) fa fd ["script"] (toSp G.K 1 sp) := by
  refine fn_ok (He5.fun_of F) sc hb fun args Qd Xd h hl => ?_
  have e : N.length - args.length = m := by
    have : args.length = 1 := hl
    omega
  rw [e]
  exact hm args Qd Xd h
theorem walkW {l : PySem.W.OpenLaw} {n k : Nat} {q : Program} {names : List Str} {XP : (Str → Option Value) → Heap → Prop} {YP : World → Heap → Prop} {d : DefRec} {CX : World → CXT} {x : Str}
    (hn : l.most = some n) (hz : n ≤ sizeLine) (hd0 : d.params.defaults = []) (room : Room k callerA)
    (F : ∀ (w : World) (mg : Str → Option Value) (f : Addr) (h : Heap), YP w h → h.Ns mainGlobals mg → mg d.name = some (.ref f) →
      ∃ (K : PySem.W.Frag) (fd : FuncData) (sp : Sp), K.In h ∧ (∀ (s : Shared) (v : Value), BindsTo s fd ⟨[v], []⟩ [(x, v)]) ∧
        (∀ (H : Hp) (a : Addr) (ns : List Int), ns.length ≤ n → SqL K H a (ns.map V.int) → sp [.ref a] H (fun v _ => v = .bl true) fun _ _ _ => False) ∧
        ∀ base : Heap, K.In base → base.Ns mainGlobals mg → FnG l.prog w K mg base (CX w) k f fd [x] sp)
    (no : ∀ (w : World) (H : Hp) (s : Shared) (e : Value) (s' : Shared), CX w [] H s (fun _ _ _ => False) e s' → False) :
    PySem.W.WalkO q names XP YP l.row.toRowW d [] (fun f vs => PySem.call f vs) := by
  refine Att.attach_call hn hd0 fun w s s1 mg mb f o pm cd doc a vs ns G Y h1 h2 h3 hm h4 h5 h6 h7 => ?_
  obtain ⟨K, fd, sp, hK, hb, hsp, hF⟩ := F w mg f _ Y G.T.g hm
  exact law_callG hK G.T.g G.T.b G.T.builtins G.T.nolimit h7 h4 h5 (Nat.le_trans h6 hz) room hF hb (fun H _ hS => hsp H a ns h6 hS) fun H e s' => no w H s1 e s'
end HD
namespace HD
open PySem L2
abbrev FnM (K : PySem.W.Frag) (m q : Str) (st : Stmt) (f : Addr) (fd : FuncData) : Prop := FunD K m q (defArgs st) (defBody st) (defScope st) [] [] f fd
theorem fn_go {G : GG} {x q : Str} {st : Stmt} {f : Addr} {fd : FuncData} {N ps : List Str} {k n m : Nat} {t : DTS} {sp : DSpec} (F : FnM G.K x q st f fd) (sc : FnScope N ps (defScope st)) (hb : DSs G N (fnS (defScope st)) k (defBody st) t) (hm : Meets t n m sp)
    (hn : ps.length = n) (hN : N.length = n + m) : FnG G.P G.w G.K G.mg G.base (L2.CX G.P G.w) (k + 1) f fd ps (toSp G.K n sp) := by
  subst hn
  refine fn_ok (He5.fun_of F) sc hb fun args Qd Xd h hl => ?_
  have e : N.length - args.length = m := by omega
  rw [e]
  exact hm args Qd Xd h
theorem KDef.of {G : GG} {c x q : Str} {st : Stmt} {f : Addr} {fd : FuncData} {N ps : List Str} {k n m : Nat} {t : DTS} {sp : DSpec} (F : FnM G.K x q st f fd) (M : Mk G.K (He.ga G.K c) f) (mg : G.mg c = some (.ref (He.ga G.K c))) (sc : FnScope N ps (defScope st)) (hb : DSs G N (fnS (defScope st)) k (defBody st) t) (hm : Meets t n m sp)
    (hn : ps.length = n) (hN : N.length = n + m) (len : ∀ ds Q X, sp ds Q X → ds.length = n) (bd : Binds G.K fd ps []) : KDef G (k + 1) c n sp :=
  ⟨⟨f, fd, ps, fn_go F sc hb hm hn hN, M, bd⟩, mg, len⟩
end HD
namespace LS.V2.Y5.Y50.K50.E
open PySem L2 HD PM
open K01 (sp_product)
open K01 (t_are_worths m_are_worths sp_are_worths)
open K01 (t_law_are_names m_law_are_names sp_law_are_names)
abbrev N_is_whole : List Str := ["thing"]
abbrev P_is_whole : List Str := ["thing"]
theorem sc_is_whole : FnScope N_is_whole P_is_whole (defScope s_is_whole) := ⟨rfl, rfl, rfl, by decide +kernel, rfl, by decide +kernel, by decide +kernel⟩
theorem d_is_whole {G : GG} (B : Blt G) : DSs G N_is_whole (fnS (defScope s_is_whole)) 0 (defBody s_is_whole) t_is_whole :=
    (dss_one (ds_ret (de_and (de_cb b_isi B.isinstance (da_cons (de_var 0) (da_cons (de_bltn (v := .ty "int") rfl B.int (by decide +kernel) rfl) da_nil))) (de_one (de_not (de_cb b_isi B.isinstance (da_cons (de_var 0) (da_cons (de_bltn (v := .ty "bool") rfl B.bool (by decide +kernel) rfl) da_nil))))))))
abbrev N_near_of : List Str := ["ties", "i", "one", "other"]
abbrev P_near_of : List Str := ["ties", "i"]
theorem sc_near_of : FnScope N_near_of P_near_of (defScope s_near_of) := ⟨rfl, rfl, rfl, by decide +kernel, rfl, by decide +kernel, by decide +kernel⟩
theorem d_near_of {G : GG} (B : Blt G) : DSs G N_near_of (fnS (defScope s_near_of)) 0 (defBody s_near_of) t_near_of :=
    (dss_one (ds_ret (de_cb b_sorted B.sorted (da_cons (de_lc [(Str.ofString "one", 2), (Str.ofString "other", 3)] (di_seq (de_var 0)) (by decide +kernel) (dg_tup (dgs_cons (dg_name 2) (dgs_cons (dg_name 3) dgs_nil))) (dtl_one (dt_cmp c_in (de_var 1) (de_tup (da_cons (de_var 2) (da_cons (de_var 3) da_nil))))) (de_sub (de_add (de_var 2) (de_var 3)) (de_var 1))) da_nil))))
abbrev N_bag_of : List Str := ["tree", "names", "bag", "name"]
abbrev P_bag_of : List Str := ["tree", "names"]
theorem sc_bag_of : FnScope N_bag_of P_bag_of (defScope s_bag_of) := ⟨rfl, rfl, rfl, by decide +kernel, rfl, by decide +kernel, by decide +kernel⟩
theorem d_bag_of {G : GG} (B : Blt G) : DSs G N_bag_of (fnS (defScope s_bag_of)) 0 (defBody s_bag_of) t_bag_of :=
    (dss_one (ds_ret (de_index (de_lc [(Str.ofString "bag", 2)] (di_seq (de_ix (de_var 0) de_int)) (by decide +kernel) (dg_name 2) dtl_nil (de_cb b_all B.all (da_cons (de_lc [(Str.ofString "name", 3)] (di_seq (de_var 1)) (by decide +kernel) (dg_name 3) dtl_nil (de_cmp c_in (de_var 3) (de_var 2))) da_nil))) de_bl)))
abbrev N_law_jar : List Str := ["script"]
abbrev P_law_jar : List Str := ["script"]
theorem sc_law_jar : FnScope N_law_jar P_law_jar (defScope s_law_jar) := ⟨rfl, rfl, rfl, by decide +kernel, rfl, by decide +kernel, by decide +kernel⟩
theorem d_law_jar {G : GG} (B : Blt G) : DSs G N_law_jar (fnS (defScope s_law_jar)) 0 (defBody s_law_jar) t_law_jar :=
    (dss_one (ds_ret (de_lst (da_cons (de_ct t_list B.list (da_cons (de_slice (de_var 0) do_none (do_some de_int)) da_nil)) (da_cons de_int (da_cons de_int da_nil))))))
abbrev N_law_prime : List Str := ["at", "some"]
abbrev P_law_prime : List Str := ["at"]
theorem sc_law_prime : FnScope N_law_prime P_law_prime (defScope s_law_prime) := ⟨rfl, rfl, rfl, by decide +kernel, rfl, by decide +kernel, by decide +kernel⟩
theorem d_law_prime {G : GG} (B : Blt G) : DSs G N_law_prime (fnS (defScope s_law_prime)) 0 (defBody s_law_prime) t_law_prime :=
    (dss_cons (ds_setE 1 (de_lst (da_cons de_int (da_cons de_int (da_cons de_int (da_cons de_int (da_cons de_int (da_cons de_int (da_cons de_int (da_cons de_int da_nil))))))))))
    (dss_one (ds_ret (de_ix (de_add (de_var 1) (de_lst (da_cons de_int (da_cons de_int (da_cons de_int da_nil))))) (de_mod (de_var 0) de_int)))))
abbrev N_law_times : List Str := ["numbers", "found", "number"]
abbrev P_law_times : List Str := ["numbers"]
theorem sc_law_times : FnScope N_law_times P_law_times (defScope s_law_times) := ⟨rfl, rfl, rfl, by decide +kernel, rfl, by decide +kernel, by decide +kernel⟩
theorem d_law_times {G : GG} (B : Blt G) : DSs G N_law_times (fnS (defScope s_law_times)) 0 (defBody s_law_times) t_law_times :=
    (dss_cons (ds_setE 1 de_int)
    (dss_cons (ds_for (di_seq (de_var 0)) (dg_name 2) (dss_one (ds_setE 1 (de_mul (de_var 1) (de_var 2)))))
    (dss_one (ds_ret (de_var 1)))))
abbrev N_law_tied : List Str := ["sheet", "found", "name", "near", "part", "other"]
abbrev P_law_tied : List Str := ["sheet"]
theorem sc_law_tied : FnScope N_law_tied P_law_tied (defScope s_law_tied) := ⟨rfl, rfl, rfl, by decide +kernel, rfl, by decide +kernel, by decide +kernel⟩
theorem d_law_tied {G : GG} (B : Blt G) : DSs G N_law_tied (fnS (defScope s_law_tied)) 0 (defBody s_law_tied) t_law_tied :=
    (dss_cons (ds_set 1 (de_lst da_nil))
    (dss_cons (ds_for (di_range1 (da_cons (de_cb b_len B.len (da_cons (de_ix (de_var 0) de_int) da_nil)) da_nil) B.range) (dg_name 2) (dss_cons (ds_set 3 (de_lst da_nil))
    (dss_cons (ds_for (di_seq (de_ix (de_var 0) de_int)) (dg_name 4) (dss_one (ds_if (dt_cmp c_in (de_var 2) (de_ix (de_var 4) de_int)) (dss_one (ds_expr (de_extT 3 (de_ix (de_var 4) de_int)))) dss_nil)))
    (dss_one (ds_expr (de_append 1 (de_lc [(Str.ofString "other", 5)] (di_range1 (da_cons (de_cb b_len B.len (da_cons (de_ix (de_var 0) de_int) da_nil)) da_nil) B.range) (by decide +kernel) (dg_name 5) (dtl_one (DWe.te (dw_and (dt_cmp c_ne (de_var 5) (de_var 2)) (dw_and1 (dt_cmp c_in (de_var 5) (de_var 3)))))) (de_var 5))))))))
    (dss_one (ds_ret (de_var 1)))))
abbrev N_law_bag : List Str := ["tied", "taken", "name", "found", "at", "other", "one"]
abbrev P_law_bag : List Str := ["tied", "taken", "name"]
theorem sc_law_bag : FnScope N_law_bag P_law_bag (defScope s_law_bag) := ⟨rfl, rfl, rfl, by decide +kernel, rfl, by decide +kernel, by decide +kernel⟩
theorem d_law_bag {G : GG} (B : Blt G) : DSs G N_law_bag (fnS (defScope s_law_bag)) 0 (defBody s_law_bag) t_law_bag :=
    (dss_cons (ds_setE 3 (de_lst (da_cons (de_var 2) da_nil)))
    (dss_cons (ds_setE 4 de_int)
    (dss_cons (ds_while (dt_cmp c_lt (de_var 4) (de_cb b_len B.len (da_cons (de_var 3) da_nil))) (dss_cons (ds_if (DWe.te (dw_or (dt_cmp c_eq (de_ix (de_var 3) (de_var 4)) (de_var 2)) (dw_or1 (dt_cmp c_in (de_ix (de_var 3) (de_var 4)) (de_var 1))))) (dss_one (ds_setE 3 (de_add (de_var 3) (de_lc [(Str.ofString "other", 5)] (di_seq (de_ix (de_var 0) (de_ix (de_var 3) (de_var 4)))) (by decide +kernel) (dg_name 5) (dtl_one (dt_cmp c_notin (de_var 5) (de_var 3))) (de_var 5))))) dss_nil)
    (dss_one (ds_setE 4 (de_add (de_var 4) de_int)))))
    (dss_one (ds_ret (de_ct t_tuple B.tuple (da_cons (de_cb b_sorted B.sorted (da_cons (de_lc [(Str.ofString "one", 6)] (di_seq (de_var 3)) (by decide +kernel) (dg_name 6) (dtl_one (DWe.te (dw_or (dt_cmp c_eq (de_var 6) (de_var 2)) (dw_or1 (dt_cmp c_notin (de_var 6) (de_var 1)))))) (de_var 6)) da_nil)) da_nil)))))))
abbrev N_law_whole_number : List Str := ["thing"]
abbrev P_law_whole_number : List Str := ["thing"]
theorem sc_law_whole_number : FnScope N_law_whole_number P_law_whole_number (defScope s_law_whole_number) := ⟨rfl, rfl, rfl, by decide +kernel, rfl, by decide +kernel, by decide +kernel⟩
theorem d_law_whole_number {G : GG} (B : Blt G) : DSs G N_law_whole_number (fnS (defScope s_law_whole_number)) 0 (defBody s_law_whole_number) t_law_whole_number :=
    (dss_one (ds_ret (de_and (de_cb b_isi B.isinstance (da_cons (de_var 0) (da_cons (de_bltn (v := .ty "int") rfl B.int (by decide +kernel) rfl) da_nil))) (de_one (de_not (de_cb b_isi B.isinstance (da_cons (de_var 0) (da_cons (de_bltn (v := .ty "bool") rfl B.bool (by decide +kernel) rfl) da_nil))))))))
abbrev N_law_hang : List Str := ["ties", "some", "found", "at", "one", "other", "more"]
abbrev P_law_hang : List Str := ["ties", "some"]
theorem sc_law_hang : FnScope N_law_hang P_law_hang (defScope s_law_hang) := ⟨rfl, rfl, rfl, by decide +kernel, rfl, by decide +kernel, by decide +kernel⟩
theorem d_law_hang {G : GG} (B : Blt G) : DSs G N_law_hang (fnS (defScope s_law_hang)) 0 (defBody s_law_hang) t_law_hang :=
    (dss_cons (ds_setE 2 (de_slice (de_var 1) do_none (do_some de_int)))
    (dss_cons (ds_setE 3 de_int)
    (dss_cons (ds_while (dt_cmp c_lt (de_var 3) (de_cb b_len B.len (da_cons (de_var 2) da_nil))) (dss_cons (ds_for (di_seq (de_var 0)) (dg_tup (dgs_cons (dg_name 4) (dgs_cons (dg_name 5) dgs_nil))) (dss_one (ds_if (DWe.te (dw_and (dt_cmp c_in (de_ix (de_var 2) (de_var 3)) (de_tup (da_cons (de_var 4) (da_cons (de_var 5) da_nil)))) (dw_and (dt_cmp c_in (de_var 4) (de_var 1)) (dw_and1 (dt_cmp c_in (de_var 5) (de_var 1)))))) (dss_cons (ds_setE 6 (de_sub (de_add (de_var 4) (de_var 5)) (de_ix (de_var 2) (de_var 3))))
    (dss_one (ds_setE 2 (de_add (de_var 2) (de_mul (de_lst (da_cons (de_var 6) da_nil)) (de_ct t_int B.int (da_cons (de_cmp c_notin (de_var 6) (de_var 2)) da_nil))))))) dss_nil)))
    (dss_one (ds_setE 3 (de_add (de_var 3) de_int)))))
    (dss_one (ds_ret (de_cmp c_eq (de_cb b_len B.len (da_cons (de_var 2) da_nil)) (de_cb b_len B.len (da_cons (de_var 1) da_nil))))))))
abbrev N_are_names : List Str := ["many", "thing", "one", "k"]
abbrev P_are_names : List Str := ["many", "thing"]
theorem sc_are_names : FnScope N_are_names P_are_names (defScope s_are_names) := ⟨rfl, rfl, rfl, by decide +kernel, rfl, by decide +kernel, by decide +kernel⟩
theorem d_are_names {G : GG} (B : Blt G) (h_is_whole : Def G 1 "is_whole" 1 sp_is_whole) : DSs G N_are_names (fnS (defScope s_are_names)) 1 (defBody s_are_names) t_are_names :=
    (dss_cons (ds_if (DWe.te (dw_or (dt_not (dt_val (de_cb b_isi B.isinstance (da_cons (de_var 1) (da_cons (de_bltn (v := .ty "tuple") rfl B.tuple (by decide +kernel) rfl) da_nil))))) (dw_or1 (dt_not (dt_val (de_cb b_all B.all (da_cons (de_lc [(Str.ofString "one", 2)] (di_seq (de_var 1)) (by decide +kernel) (dg_name 2) dtl_nil (de_and (de_call h_is_whole (da_cons (de_var 2) da_nil)) (de_one (de_chain c_le c_lt de_int (de_var 2) (de_var 0))))) da_nil))))))) (dss_one (ds_ret de_bl)) dss_nil)
    (dss_one (ds_ret (de_cb b_all B.all (da_cons (de_lc [(Str.ofString "k", 3)] (di_range2 (da_cons de_int (da_cons (de_cb b_len B.len (da_cons (de_var 1) da_nil)) da_nil)) B.range) (by decide +kernel) (dg_name 3) dtl_nil (de_cmp c_lt (de_ix (de_var 1) (de_sub (de_var 3) de_int)) (de_ix (de_var 1) (de_var 3)))) da_nil)))))
abbrev N_is_tie : List Str := ["many", "thing"]
abbrev P_is_tie : List Str := ["many", "thing"]
theorem sc_is_tie : FnScope N_is_tie P_is_tie (defScope s_is_tie) := ⟨rfl, rfl, rfl, by decide +kernel, rfl, by decide +kernel, by decide +kernel⟩
theorem d_is_tie {G : GG} (B : Blt G) (h_is_whole : Def G 1 "is_whole" 1 sp_is_whole) : DSs G N_is_tie (fnS (defScope s_is_tie)) 1 (defBody s_is_tie) t_is_tie :=
    (dss_cons (ds_if (DWe.te (dw_or (dt_not (dt_val (de_cb b_isi B.isinstance (da_cons (de_var 1) (da_cons (de_bltn (v := .ty "tuple") rfl B.tuple (by decide +kernel) rfl) da_nil))))) (dw_or (dt_cmp c_ne (de_cb b_len B.len (da_cons (de_var 1) da_nil)) de_int) (dw_or (dt_not (dt_val (de_call h_is_whole (da_cons (de_ix (de_var 1) de_int) da_nil)))) (dw_or1 (dt_not (dt_val (de_call h_is_whole (da_cons (de_ix (de_var 1) de_int) da_nil))))))))) (dss_one (ds_ret de_bl)) dss_nil)
    (dss_one (ds_ret (de_chain3 c_le c_lt c_lt de_int (de_ix (de_var 1) de_int) (de_ix (de_var 1) de_int) (de_var 0)))))
abbrev N_hanging : List Str := ["ties", "some", "seen", "at", "other"]
abbrev P_hanging : List Str := ["ties", "some"]
theorem sc_hanging : FnScope N_hanging P_hanging (defScope s_hanging) := ⟨rfl, rfl, rfl, by decide +kernel, rfl, by decide +kernel, by decide +kernel⟩
theorem d_hanging {G : GG} (B : Blt G) (h_near_of : Def G 1 "near_of" 2 sp_near_of) : DSs G N_hanging (fnS (defScope s_hanging)) 1 (defBody s_hanging) t_hanging :=
    (dss_cons (ds_if (dt_cmp c_eq (de_var 1) (de_lst da_nil)) (dss_one (ds_ret de_bl)) dss_nil)
    (dss_cons (ds_setE 2 (de_lst (da_cons (de_ix (de_var 1) de_int) da_nil)))
    (dss_cons (ds_setE 3 de_int)
    (dss_cons (ds_while (dt_cmp c_lt (de_var 3) (de_cb b_len B.len (da_cons (de_var 2) da_nil))) (dss_cons (ds_setE 2 (de_add (de_var 2) (de_lc [(Str.ofString "other", 4)] (di_seq (de_call h_near_of (da_cons (de_var 0) (da_cons (de_ix (de_var 2) (de_var 3)) da_nil)))) (by decide +kernel) (dg_name 4) (dtl_one (DWe.te (dw_and (dt_cmp c_in (de_var 4) (de_var 1)) (dw_and1 (dt_cmp c_notin (de_var 4) (de_var 2)))))) (de_var 4))))
    (dss_one (ds_setE 3 (de_add (de_var 3) de_int)))))
    (dss_one (ds_ret (de_cmp c_eq (de_cb b_len B.len (da_cons (de_var 2) da_nil)) (de_cb b_len B.len (da_cons (de_var 1) da_nil)))))))))
abbrev N_law_dip : List Str := ["jar", "many", "at", "cell", "one", "two", "three", "found"]
abbrev P_law_dip : List Str := ["jar", "many"]
theorem sc_law_dip : FnScope N_law_dip P_law_dip (defScope s_law_dip) := ⟨rfl, rfl, rfl, by decide +kernel, rfl, by decide +kernel, by decide +kernel⟩
theorem d_law_dip {G : GG} (B : Blt G) (h_law_prime : Def G 1 "_law_prime" 1 sp_law_prime) : DSs G N_law_dip (fnS (defScope s_law_dip)) 1 (defBody s_law_dip) t_law_dip :=
    (dss_cons (ds_if (dt_cmp c_lt (de_ix (de_var 0) de_int) (de_var 1)) (dss_cons (ds_setE 2 (de_ix (de_var 0) de_int))
    (dss_cons (ds_setitem 0 de_int (de_add (de_var 2) de_int))
    (dss_cons (ds_setE 3 (de_add (de_mul de_int (de_var 2)) de_int))
    (dss_cons (ds_if (dt_cmp c_gt (de_cb b_len B.len (da_cons (de_ix (de_var 0) de_int) da_nil)) de_int) (dss_one (ds_setE 3 (de_ix (de_ix (de_var 0) de_int) (de_mod (de_var 2) (de_cb b_len B.len (da_cons (de_ix (de_var 0) de_int) da_nil)))))) dss_nil)
    (dss_cons (ds_setitem 0 de_int (de_var 3))
    (dss_one (ds_if (DWe.te (dw_or (dt_cmp c_lt (de_var 3) (de_pow de_int de_int)) (dw_or1 (dt_cmp c_ge (de_var 2) (de_cb b_len B.len (da_cons (de_ix (de_var 0) de_int) da_nil)))))) (dss_cons (ds_setE 4 (de_mod (de_pow (de_add (de_add (de_mul (de_mod (de_var 3) de_int) (de_add (de_var 2) de_int)) (de_mul de_int (de_var 2))) de_int) de_int) (de_call h_law_prime (da_cons (de_var 2) da_nil))))
    (dss_cons (ds_setE 5 (de_mod (de_pow (de_add (de_add (de_mul (de_var 4) (de_add (de_var 2) de_int)) (de_mod (de_var 3) de_int)) de_int) de_int) (de_call h_law_prime (da_cons (de_add (de_var 2) de_int) da_nil))))
    (dss_cons (ds_setE 6 (de_mod (de_add (de_mul (de_var 5) (de_var 5)) (de_var 4)) (de_call h_law_prime (da_cons (de_add (de_var 2) de_int) da_nil))))
    (dss_one (ds_setitem 0 de_int (de_add (de_mul (de_add (de_mul (de_var 6) de_int) (de_var 5)) de_int) (de_var 4))))))) dss_nil))))))) dss_nil)
    (dss_cons (ds_setE 7 (de_mod (de_ix (de_var 0) de_int) (de_var 1)))
    (dss_cons (ds_setitem 0 de_int (de_div (de_ix (de_var 0) de_int) (de_var 1)))
    (dss_one (ds_ret (de_var 7))))))
abbrev N_law_are_names : List Str := ["thing", "many", "one", "k"]
abbrev P_law_are_names : List Str := ["thing", "many"]
theorem sc_law_are_names : FnScope N_law_are_names P_law_are_names (defScope s_law_are_names) := ⟨rfl, rfl, rfl, by decide +kernel, rfl, by decide +kernel, by decide +kernel⟩
theorem d_law_are_names {G : GG} (B : Blt G) (h_law_whole_number : Def G 1 "_law_whole_number" 1 sp_law_whole_number) : DSs G N_law_are_names (fnS (defScope s_law_are_names)) 1 (defBody s_law_are_names) t_law_are_names :=
    (dss_cons (ds_if (DWe.te (dw_or (dt_not (dt_val (de_cb b_isi B.isinstance (da_cons (de_var 0) (da_cons (de_bltn (v := .ty "tuple") rfl B.tuple (by decide +kernel) rfl) da_nil))))) (dw_or1 (dt_cmp c_gt (de_cb b_len B.len (da_cons (de_lc [(Str.ofString "one", 2)] (di_seq (de_var 0)) (by decide +kernel) (dg_name 2) (dtl_one (dt_not (dt_val (de_call h_law_whole_number (da_cons (de_var 2) da_nil))))) de_int) da_nil)) de_int)))) (dss_one (ds_ret de_bl)) dss_nil)
    (dss_cons (ds_if (dt_cmp c_gt (de_cb b_len B.len (da_cons (de_lc [(Str.ofString "one", 2)] (di_seq (de_var 0)) (by decide +kernel) (dg_name 2) (dtl_one (DWe.te (dw_or (dt_cmp c_lt (de_var 2) de_int) (dw_or1 (dt_cmp c_ge (de_var 2) (de_var 1)))))) de_int) da_nil)) de_int) (dss_one (ds_ret de_bl)) dss_nil)
    (dss_one (ds_ret (de_cmp c_eq (de_cb b_len B.len (da_cons (de_lc [(Str.ofString "k", 3)] (di_range2 (da_cons de_int (da_cons (de_cb b_len B.len (da_cons (de_var 0) da_nil)) da_nil)) B.range) (by decide +kernel) (dg_name 3) (dtl_one (dt_cmp c_ge (de_ix (de_var 0) (de_sub (de_var 3) de_int)) (de_ix (de_var 0) (de_var 3)))) de_int) da_nil)) de_int)))))
abbrev N_law_are_ties : List Str := ["ties", "many", "tie"]
abbrev P_law_are_ties : List Str := ["ties", "many"]
theorem sc_law_are_ties : FnScope N_law_are_ties P_law_are_ties (defScope s_law_are_ties) := ⟨rfl, rfl, rfl, by decide +kernel, rfl, by decide +kernel, by decide +kernel⟩
theorem d_law_are_ties {G : GG} (B : Blt G) (h_law_hang : Def G 1 "_law_hang" 2 sp_law_hang) (h_law_whole_number : Def G 1 "_law_whole_number" 1 sp_law_whole_number) : DSs G N_law_are_ties (fnS (defScope s_law_are_ties)) 1 (defBody s_law_are_ties) t_law_are_ties :=
    (dss_cons (ds_if (DWe.te (dw_or (dt_not (dt_val (de_cb b_isi B.isinstance (da_cons (de_var 0) (da_cons (de_bltn (v := .ty "tuple") rfl B.tuple (by decide +kernel) rfl) da_nil))))) (dw_or1 (dt_cmp c_ne (de_cb b_len B.len (da_cons (de_var 0) da_nil)) (de_sub (de_var 1) de_int))))) (dss_one (ds_ret de_bl)) dss_nil)
    (dss_cons (ds_for (di_seq (de_var 0)) (dg_name 2) (dss_cons (ds_if (DWe.te (dw_or (dt_not (dt_val (de_cb b_isi B.isinstance (da_cons (de_var 2) (da_cons (de_bltn (v := .ty "tuple") rfl B.tuple (by decide +kernel) rfl) da_nil))))) (dw_or1 (dt_cmp c_ne (de_cb b_len B.len (da_cons (de_var 2) da_nil)) de_int)))) (dss_one (ds_ret de_bl)) dss_nil)
    (dss_cons (ds_if (DWe.te (dw_or (dt_not (dt_val (de_call h_law_whole_number (da_cons (de_ix (de_var 2) de_int) da_nil)))) (dw_or1 (dt_not (dt_val (de_call h_law_whole_number (da_cons (de_ix (de_var 2) de_int) da_nil))))))) (dss_one (ds_ret de_bl)) dss_nil)
    (dss_one (ds_if (dt_not (dt_chain3 c_le c_lt c_lt de_int (de_ix (de_var 2) de_int) (de_ix (de_var 2) de_int) (de_var 1))) (dss_one (ds_ret de_bl)) dss_nil)))))
    (dss_one (ds_ret (de_and (de_cmp c_eq (de_ct t_list B.list (da_cons (de_var 0) da_nil)) (de_sortsetP (de_var 0) B.sorted B.set)) (de_one (de_call h_law_hang (da_cons (de_ct t_list B.list (da_cons (de_var 0) da_nil)) (da_cons (de_listRg (drg_1 (de_var 1) B.range) B.list) da_nil)))))))))
abbrev N_are_bags : List Str := ["many", "thing", "bag"]
abbrev P_are_bags : List Str := ["many", "thing"]
theorem sc_are_bags : FnScope N_are_bags P_are_bags (defScope s_are_bags) := ⟨rfl, rfl, rfl, by decide +kernel, rfl, by decide +kernel, by decide +kernel⟩
theorem d_are_bags {G : GG} (B : Blt G) (h_are_names : Def G 2 "are_names" 2 sp_are_names) (k_MOST_BAGS : ∃ t, G.mg "MOST_BAGS" = some (.int 12 t)) : DSs G N_are_bags (fnS (defScope s_are_bags)) 2 (defBody s_are_bags) t_are_bags :=
    (dss_cons (ds_if (DWe.te (dw_or (dt_not (dt_val (de_cb b_isi B.isinstance (da_cons (de_var 1) (da_cons (de_bltn (v := .ty "tuple") rfl B.tuple (by decide +kernel) rfl) da_nil))))) (dw_or1 (dt_not (dt_chain c_le c_le de_int (de_cb b_len B.len (da_cons (de_var 1) da_nil)) (de_gint k_MOST_BAGS)))))) (dss_one (ds_ret de_bl)) dss_nil)
    (dss_one (ds_ret (de_cb b_all B.all (da_cons (de_lc [(Str.ofString "bag", 2)] (di_seq (de_var 1)) (by decide +kernel) (dg_name 2) dtl_nil (de_call h_are_names (da_cons (de_var 0) (da_cons (de_var 2) da_nil)))) da_nil)))))
abbrev N_is_tree : List Str := ["many", "bags", "ties", "tie", "k"]
abbrev P_is_tree : List Str := ["many", "bags", "ties"]
theorem sc_is_tree : FnScope N_is_tree P_is_tree (defScope s_is_tree) := ⟨rfl, rfl, rfl, by decide +kernel, rfl, by decide +kernel, by decide +kernel⟩
theorem d_is_tree {G : GG} (B : Blt G) (h_hanging : Def G 2 "hanging" 2 sp_hanging) (h_is_tie : Def G 2 "is_tie" 2 sp_is_tie) : DSs G N_is_tree (fnS (defScope s_is_tree)) 2 (defBody s_is_tree) t_is_tree :=
    (dss_cons (ds_if (DWe.te (dw_or (dt_not (dt_val (de_cb b_isi B.isinstance (da_cons (de_var 2) (da_cons (de_bltn (v := .ty "tuple") rfl B.tuple (by decide +kernel) rfl) da_nil))))) (dw_or1 (dt_not (dt_val (de_cb b_all B.all (da_cons (de_lc [(Str.ofString "tie", 3)] (di_seq (de_var 2)) (by decide +kernel) (dg_name 3) dtl_nil (de_call h_is_tie (da_cons (de_cb b_len B.len (da_cons (de_var 1) da_nil)) (da_cons (de_var 3) da_nil)))) da_nil))))))) (dss_one (ds_ret de_bl)) dss_nil)
    (dss_cons (ds_if (DWe.te (dw_or (dt_cmp c_ne (de_cb b_len B.len (da_cons (de_var 2) da_nil)) (de_sub (de_cb b_len B.len (da_cons (de_var 1) da_nil)) de_int)) (dw_or1 (dt_val (de_cb b_any B.any (da_cons (de_lc [(Str.ofString "k", 4)] (di_range2 (da_cons de_int (da_cons (de_cb b_len B.len (da_cons (de_var 2) da_nil)) da_nil)) B.range) (by decide +kernel) (dg_name 4) dtl_nil (de_cmp c_geT (de_ix (de_var 2) (de_sub (de_var 4) de_int)) (de_ix (de_var 2) (de_var 4)))) da_nil)))))) (dss_one (ds_ret de_bl)) dss_nil)
    (dss_one (ds_ret (de_call h_hanging (da_cons (de_var 2) (da_cons (de_listRg (drg_1 (de_cb b_len B.len (da_cons (de_var 1) da_nil)) B.range) B.list) da_nil)))))))
abbrev N_law_some : List Str := ["jar", "many", "most", "left", "found", "k"]
abbrev P_law_some : List Str := ["jar", "many", "most"]
theorem sc_law_some : FnScope N_law_some P_law_some (defScope s_law_some) := ⟨rfl, rfl, rfl, by decide +kernel, rfl, by decide +kernel, by decide +kernel⟩
theorem d_law_some {G : GG} (B : Blt G) (h_law_dip : Def G 2 "_law_dip" 2 sp_law_dip) : DSs G N_law_some (fnS (defScope s_law_some)) 2 (defBody s_law_some) t_law_some :=
    (dss_cons (ds_set 3 (de_listRg (drg_1 (de_var 1) B.range) B.list))
    (dss_cons (ds_set 4 (de_lst da_nil))
    (dss_cons (ds_for (di_range1 (da_cons (de_callJ 0 h_law_dip (da_cons (de_add (de_var 2) de_int) da_nil)) da_nil) B.range) (dg_name 5) (dss_one (ds_if (dt_cmp c_gt (de_cb b_len B.len (da_cons (de_var 3) da_nil)) de_int) (dss_one (ds_expr (de_append 4 (de_popAt 3 (de_callJ 0 h_law_dip (da_cons (de_cb b_len B.len (da_cons (de_var 3) da_nil)) da_nil)))))) dss_nil)))
    (dss_one (ds_ret (de_ct t_tuple B.tuple (da_cons (de_cb b_sorted B.sorted (da_cons (de_var 4) da_nil)) da_nil)))))))
abbrev N_law_order : List Str := ["jar", "names", "left", "k"]
abbrev P_law_order : List Str := ["jar", "names"]
theorem sc_law_order : FnScope N_law_order P_law_order (defScope s_law_order) := ⟨rfl, rfl, rfl, by decide +kernel, rfl, by decide +kernel, by decide +kernel⟩
theorem d_law_order {G : GG} (B : Blt G) (h_law_dip : Def G 2 "_law_dip" 2 sp_law_dip) : DSs G N_law_order (fnS (defScope s_law_order)) 2 (defBody s_law_order) t_law_order :=
    (dss_cons (ds_set 2 (de_ct t_list B.list (da_cons (de_var 1) da_nil)))
    (dss_one (ds_ret (de_ct t_tuple B.tuple (da_cons (de_lc [(Str.ofString "k", 3)] (di_range1 (da_cons (de_cb b_len B.len (da_cons (de_var 1) da_nil)) da_nil) B.range) (by decide +kernel) (dg_name 3) dtl_nil (de_popAt 2 (de_callJ 0 h_law_dip (da_cons (de_cb b_len B.len (da_cons (de_var 2) da_nil)) da_nil)))) da_nil)))))
abbrev N_law_odd_names : List Str := ["jar", "some", "many", "way", "at", "odd"]
abbrev P_law_odd_names : List Str := ["jar", "some", "many"]
theorem sc_law_odd_names : FnScope N_law_odd_names P_law_odd_names (defScope s_law_odd_names) := ⟨rfl, rfl, rfl, by decide +kernel, rfl, by decide +kernel, by decide +kernel⟩
theorem d_law_odd_names {G : GG} (B : Blt G) (h_law_dip : Def G 2 "_law_dip" 2 sp_law_dip) : DSs G N_law_odd_names (fnS (defScope s_law_odd_names)) 2 (defBody s_law_odd_names) t_law_odd_names :=
    (dss_cons (ds_setE 3 (de_callJ 0 h_law_dip (da_cons de_int da_nil)))
    (dss_cons (ds_setE 4 (de_callJ 0 h_law_dip (da_cons (de_add (de_cb b_len B.len (da_cons (de_var 1) da_nil)) de_int) da_nil)))
    (dss_cons (ds_setE 5 (de_ix (de_lst (da_cons (de_var 2) (da_cons (de_neg de_int) (da_cons de_bl (da_cons de_bl (da_cons de_non (da_cons de_str (da_cons (de_tup (da_cons de_int da_nil)) (da_cons (de_lst (da_cons de_int da_nil)) (da_cons (de_pow de_int de_int) (da_cons (de_sub de_int (de_pow de_int de_int)) (da_cons (de_add (de_var 2) de_int) (da_cons de_int da_nil))))))))))))) (de_callJ 0 h_law_dip (da_cons de_int da_nil))))
    (dss_cons (ds_if (dt_cmp c_lt (de_var 3) de_int) (dss_one (ds_ret (de_add (de_add (de_slice (de_var 1) do_none (do_some (de_var 4))) (de_tup (da_cons (de_var 5) da_nil))) (de_slice (de_var 1) (do_some (de_add (de_var 4) (de_mod (de_var 3) de_int))) do_none)))) dss_nil)
    (dss_one (ds_ret (de_ix (de_lst (da_cons (de_ct t_list B.list (da_cons (de_var 1) da_nil)) (da_cons (de_step (de_var 1) (do_some (de_neg de_int))) (da_cons (de_add (de_var 1) (de_slice (de_var 1) (do_some (de_neg de_int)) do_none)) (da_cons (de_add (de_slice (de_var 1) (do_some (de_var 4)) do_none) (de_slice (de_var 1) do_none (do_some (de_var 4)))) (da_cons de_non (da_cons (de_tup (da_cons (de_var 1) da_nil)) (da_cons (de_lst da_nil) da_nil)))))))) (de_sub (de_var 3) de_int))))))))
abbrev N_law_is_tree : List Str := ["sheet", "thing", "many", "bags", "ties", "bag", "part", "name", "some", "k"]
abbrev P_law_is_tree : List Str := ["sheet", "thing"]
theorem sc_law_is_tree : FnScope N_law_is_tree P_law_is_tree (defScope s_law_is_tree) := ⟨rfl, rfl, rfl, by decide +kernel, rfl, by decide +kernel, by decide +kernel⟩
theorem d_law_is_tree {G : GG} (B : Blt G) (h_law_are_names : Def G 2 "_law_are_names" 2 sp_law_are_names) (h_law_are_ties : Def G 2 "_law_are_ties" 2 sp_law_are_ties) (h_law_hang : Def G 1 "_law_hang" 2 sp_law_hang) : DSs G N_law_is_tree (fnS (defScope s_law_is_tree)) 2 (defBody s_law_is_tree) t_law_is_tree :=
    (dss_cons (ds_setE 2 (de_cb b_len B.len (da_cons (de_ix (de_var 0) de_int) da_nil)))
    (dss_cons (ds_if (DWe.te (dw_or (dt_not (dt_val (de_cb b_isi B.isinstance (da_cons (de_var 1) (da_cons (de_bltn (v := .ty "tuple") rfl B.tuple (by decide +kernel) rfl) da_nil))))) (dw_or (dt_cmp c_ne (de_cb b_len B.len (da_cons (de_var 1) da_nil)) de_int) (dw_or1 (dt_not (dt_val (de_cb b_isi B.isinstance (da_cons (de_ix (de_var 1) de_int) (da_cons (de_bltn (v := .ty "tuple") rfl B.tuple (by decide +kernel) rfl) da_nil))))))))) (dss_one (ds_ret de_bl)) dss_nil)
    (dss_cons (ds_asg (de_var 1) (dg_tup (dgs_cons (dg_name 3) (dgs_cons (dg_name 4) dgs_nil))))
    (dss_cons (ds_if (DWe.te (dw_or (dt_cmp c_lt (de_cb b_len B.len (da_cons (de_var 3) da_nil)) de_int) (dw_or (dt_cmp c_gt (de_cb b_len B.len (da_cons (de_var 3) da_nil)) de_int) (dw_or1 (dt_cmp c_gt (de_cb b_len B.len (da_cons (de_lc [(Str.ofString "bag", 5)] (di_seq (de_var 3)) (by decide +kernel) (dg_name 5) (dtl_one (dt_not (dt_val (de_call h_law_are_names (da_cons (de_var 5) (da_cons (de_var 2) da_nil)))))) de_int) da_nil)) de_int))))) (dss_one (ds_ret de_bl)) dss_nil)
    (dss_cons (ds_if (dt_not (dt_val (de_call h_law_are_ties (da_cons (de_var 4) (da_cons (de_cb b_len B.len (da_cons (de_var 3) da_nil)) da_nil))))) (dss_one (ds_ret de_bl)) dss_nil)
    (dss_cons (ds_for (di_seq (de_ix (de_var 0) de_int)) (dg_name 6) (dss_one (ds_if (dt_cmp c_eq (de_cb b_len B.len (da_cons (de_lc [(Str.ofString "bag", 5)] (di_seq (de_var 3)) (by decide +kernel) (dg_name 5) (dtl_one (dt_cmp c_eq (de_cb b_len B.len (da_cons (de_lc [(Str.ofString "name", 7)] (di_seq (de_ix (de_var 6) de_int)) (by decide +kernel) (dg_name 7) (dtl_one (dt_cmp c_notin (de_var 7) (de_var 5))) (de_var 7)) da_nil)) de_int)) de_int) da_nil)) de_int) (dss_one (ds_ret de_bl)) dss_nil)))
    (dss_cons (ds_for (di_range1 (da_cons (de_var 2) da_nil) B.range) (dg_name 7) (dss_cons (ds_setLcE [(Str.ofString "k", 9)] 8 (di_range1 (da_cons (de_cb b_len B.len (da_cons (de_var 3) da_nil)) da_nil) B.range) (by decide +kernel) (dg_name 9) (dtl_one (dt_cmp c_in (de_var 7) (de_ix (de_var 3) (de_var 9)))) (de_var 9))
    (dss_one (ds_if (DWe.te (dw_or (dt_cmp c_eq (de_cb b_len B.len (da_cons (de_var 8) da_nil)) de_int) (dw_or1 (dt_not (dt_val (de_call h_law_hang (da_cons (de_ct t_list B.list (da_cons (de_var 4) da_nil)) (da_cons (de_var 8) da_nil)))))))) (dss_one (ds_ret de_bl)) dss_nil))))
    (dss_one (ds_ret de_bl)))))))))
abbrev N_is_bag_tree : List Str := ["sheet", "thing", "many", "bags", "ties", "part", "bag", "name", "some", "i"]
abbrev P_is_bag_tree : List Str := ["sheet", "thing"]
theorem sc_is_bag_tree : FnScope N_is_bag_tree P_is_bag_tree (defScope s_is_bag_tree) := ⟨rfl, rfl, rfl, by decide +kernel, rfl, by decide +kernel, by decide +kernel⟩
theorem d_is_bag_tree {G : GG} (B : Blt G) (h_are_bags : Def G 3 "are_bags" 2 sp_are_bags) (h_hanging : Def G 2 "hanging" 2 sp_hanging) (h_is_tree : Def G 3 "is_tree" 3 sp_is_tree) : DSs G N_is_bag_tree (fnS (defScope s_is_bag_tree)) 3 (defBody s_is_bag_tree) t_is_bag_tree :=
    (dss_cons (ds_setE 2 (de_cb b_len B.len (da_cons (de_ix (de_var 0) de_int) da_nil)))
    (dss_cons (ds_if (DWe.te (dw_or (dt_not (dt_val (de_cb b_isi B.isinstance (da_cons (de_var 1) (da_cons (de_bltn (v := .ty "tuple") rfl B.tuple (by decide +kernel) rfl) da_nil))))) (dw_or (dt_cmp c_ne (de_cb b_len B.len (da_cons (de_var 1) da_nil)) de_int) (dw_or1 (dt_not (dt_val (de_call h_are_bags (da_cons (de_var 2) (da_cons (de_ix (de_var 1) de_int) da_nil))))))))) (dss_one (ds_ret de_bl)) dss_nil)
    (dss_cons (ds_asg (de_var 1) (dg_tup (dgs_cons (dg_name 3) (dgs_cons (dg_name 4) dgs_nil))))
    (dss_cons (ds_if (dt_not (dt_val (de_call h_is_tree (da_cons (de_var 2) (da_cons (de_var 3) (da_cons (de_var 4) da_nil)))))) (dss_one (ds_ret de_bl)) dss_nil)
    (dss_cons (ds_for (di_seq (de_ix (de_var 0) de_int)) (dg_name 5) (dss_one (ds_if (dt_not (dt_val (de_cb b_any B.any (da_cons (de_lc [(Str.ofString "bag", 6)] (di_seq (de_var 3)) (by decide +kernel) (dg_name 6) dtl_nil (de_cb b_all B.all (da_cons (de_lc [(Str.ofString "name", 7)] (di_seq (de_ix (de_var 5) de_int)) (by decide +kernel) (dg_name 7) dtl_nil (de_cmp c_in (de_var 7) (de_var 6))) da_nil))) da_nil)))) (dss_one (ds_ret de_bl)) dss_nil)))
    (dss_cons (ds_for (di_range1 (da_cons (de_var 2) da_nil) B.range) (dg_name 7) (dss_cons (ds_setLcE [(Str.ofString "i", 9)] 8 (di_range1 (da_cons (de_cb b_len B.len (da_cons (de_var 3) da_nil)) da_nil) B.range) (by decide +kernel) (dg_name 9) (dtl_one (dt_cmp c_in (de_var 7) (de_ix (de_var 3) (de_var 9)))) (de_var 9))
    (dss_one (ds_if (DWe.te (dw_or (dt_cmp c_eq (de_var 8) (de_lst da_nil)) (dw_or1 (dt_not (dt_val (de_call h_hanging (da_cons (de_var 4) (da_cons (de_var 8) da_nil)))))))) (dss_one (ds_ret de_bl)) dss_nil))))
    (dss_one (ds_ret de_bl))))))))
abbrev N_law_web : List Str := ["jar", "most", "many", "way", "sizes", "k", "size", "groups", "step", "parts", "names", "worths", "name", "part"]
abbrev P_law_web : List Str := ["jar", "most"]
theorem sc_law_web : FnScope N_law_web P_law_web (defScope s_law_web) := ⟨rfl, rfl, rfl, by decide +kernel, rfl, by decide +kernel, by decide +kernel⟩
theorem d_law_web {G : GG} (B : Blt G) (h_law_dip : Def G 2 "_law_dip" 2 sp_law_dip) (h_law_some : Def G 3 "_law_some" 3 sp_law_some) (h_law_times : Def G 1 "_law_times" 1 sp_law_times) : DSs G N_law_web (fnS (defScope s_law_web)) 3 (defBody s_law_web) t_law_web :=
    (dss_cons (ds_setE 2 (de_add de_int (de_callJ 0 h_law_dip (da_cons (de_var 1) da_nil))))
    (dss_cons (ds_setE 3 (de_callJ 0 h_law_dip (da_cons de_int da_nil)))
    (dss_cons (ds_setE 4 (de_tup da_nil))
    (dss_cons (ds_for (di_range1 (da_cons (de_var 2) da_nil) B.range) (dg_name 5) (dss_cons (ds_setE 6 (de_ix (de_lst (da_cons de_int (da_cons de_int (da_cons de_int (da_cons de_int (da_cons de_int da_nil)))))) (de_callJ 0 h_law_dip (da_cons de_int da_nil))))
    (dss_one (ds_setE 4 (de_add (de_var 4) (de_tup (da_cons (de_if (dt_cmp c_le (de_mul (de_call h_law_times (da_cons (de_var 4) da_nil)) (de_var 6)) de_int) (de_var 6) de_int) da_nil)))))))
    (dss_cons (ds_setLcE [(Str.ofString "k", 5)] 7 (di_range1 (da_cons (de_callJ 0 h_law_dip (da_cons (de_add (de_mul de_int (de_var 2)) de_int) da_nil)) da_nil) B.range) (by decide +kernel) (dg_name 5) dtl_nil (de_callJ 0 h_law_some (da_cons (de_var 2) (da_cons de_int da_nil))))
    (dss_cons (ds_if (DWe.te (dw_and (dt_cmp c_eq (de_var 3) de_int) (dw_and1 (dt_cmp c_gt (de_var 2) de_int)))) (dss_one (ds_setE 7 (de_add (de_lc [(Str.ofString "k", 5)] (di_range1 (da_cons (de_var 2) da_nil) B.range) (by decide +kernel) (dg_name 5) dtl_nil (de_ct t_tuple B.tuple (da_cons (de_cb b_sorted B.sorted (da_cons (de_lst (da_cons (de_var 5) (da_cons (de_mod (de_add (de_var 5) de_int) (de_var 2)) da_nil))) da_nil)) da_nil))) (de_slice (de_var 7) do_none (do_some de_int))))) dss_nil)
    (dss_cons (ds_if (dt_cmp c_eq (de_var 3) de_int) (dss_one (ds_setLcE [(Str.ofString "k", 5)] 7 (di_range1 (da_cons (de_sub (de_var 2) de_int) da_nil) B.range) (by decide +kernel) (dg_name 5) dtl_nil (de_tup (da_cons (de_var 5) (da_cons (de_add (de_var 5) de_int) da_nil))))) dss_nil)
    (dss_cons (ds_if (dt_cmp c_eq (de_var 3) de_int) (dss_one (ds_setE 7 (de_add (de_lst (da_cons (de_tupRg (drg_1 (de_cb b_min B.min (da_cons (de_var 2) (da_cons de_int da_nil))) B.range) B.tuple) da_nil)) (de_slice (de_var 7) do_none (do_some de_int))))) dss_nil)
    (dss_cons (ds_if (DWe.te (dw_and (dt_cmp c_eq (de_var 3) de_int) (dw_and1 (dt_cmp c_gt (de_var 2) de_int)))) (dss_cons (ds_setE 8 (de_add de_int (de_callJ 0 h_law_dip (da_cons (de_sub (de_var 2) de_int) da_nil))))
    (dss_one (ds_setE 7 (de_add (de_lc [(Str.ofString "k", 5)] (di_range1 (da_cons (de_var 2) da_nil) B.range) (by decide +kernel) (dg_name 5) dtl_nil (de_ct t_tuple B.tuple (da_cons (de_cb b_sorted B.sorted (da_cons (de_lst (da_cons (de_var 5) (da_cons (de_mod (de_add (de_var 5) (de_var 8)) (de_var 2)) da_nil))) da_nil)) da_nil))) (de_slice (de_var 7) do_none (do_some de_int)))))) dss_nil)
    (dss_cons (ds_set 9 (de_lst da_nil))
    (dss_cons (ds_for (di_seq (de_var 7)) (dg_name 10) (dss_cons (ds_setE 11 (de_mulT (de_tup (da_cons de_int da_nil)) (de_call h_law_times (da_cons (de_lc [(Str.ofString "name", 12)] (di_seq (de_var 10)) (by decide +kernel) (dg_name 12) dtl_nil (de_ix (de_var 4) (de_var 12))) da_nil))))
    (dss_one (ds_if (DWe.te (dw_and (dt_cmp c_lt (de_cb b_len B.len (da_cons (de_var 9) da_nil)) de_int) (dw_and1 (dt_cmp c_le (de_add (de_cb b_sum B.sum (da_cons (de_lc [(Str.ofString "part", 13)] (di_seq (de_var 9)) (by decide +kernel) (dg_name 13) dtl_nil (de_cb b_len B.len (da_cons (de_ix (de_var 13) de_int) da_nil))) da_nil)) (de_cb b_len B.len (da_cons (de_var 11) da_nil))) de_int)))) (dss_one (ds_expr (de_append 9 (de_tup (da_cons (de_var 10) (da_cons (de_var 11) da_nil)))))) dss_nil))))
    (dss_one (ds_ret (de_tup (da_cons (de_var 4) (da_cons (de_ct t_tuple B.tuple (da_cons (de_var 9) da_nil)) da_nil))))))))))))))))
abbrev N_law_built : List Str := ["jar", "sheet", "tied", "order", "bags", "k", "ties", "later", "j", "one", "turn", "at", "name"]
abbrev P_law_built : List Str := ["jar", "sheet"]
theorem sc_law_built : FnScope N_law_built P_law_built (defScope s_law_built) := ⟨rfl, rfl, rfl, by decide +kernel, rfl, by decide +kernel, by decide +kernel⟩
theorem d_law_built {G : GG} (B : Blt G) (h_law_bag : Def G 1 "_law_bag" 3 sp_law_bag) (h_law_dip : Def G 2 "_law_dip" 2 sp_law_dip) (h_law_order : Def G 3 "_law_order" 2 sp_law_order) (h_law_tied : Def G 1 "_law_tied" 1 sp_law_tied) : DSs G N_law_built (fnS (defScope s_law_built)) 3 (defBody s_law_built) t_law_built :=
    (dss_cons (ds_setE 2 (de_call h_law_tied (da_cons (de_var 1) da_nil)))
    (dss_cons (ds_setE 3 (de_callJ 0 h_law_order (da_cons (de_listRg (drg_1 (de_cb b_len B.len (da_cons (de_var 2) da_nil)) B.range) B.list) da_nil)))
    (dss_cons (ds_set 4 (de_lc [(Str.ofString "k", 5)] (di_range1 (da_cons (de_cb b_len B.len (da_cons (de_var 3) da_nil)) da_nil) B.range) (by decide +kernel) (dg_name 5) dtl_nil (de_call h_law_bag (da_cons (de_var 2) (da_cons (de_slice (de_var 3) do_none (do_some (de_var 5))) (da_cons (de_ix (de_var 3) (de_var 5)) da_nil))))) (hs := fun env he => sw_cell (by rw [he]; rfl)))
    (dss_cons (ds_set 6 (de_lst da_nil))
    (dss_cons (ds_for (di_range1 (da_cons (de_sub (de_cb b_len B.len (da_cons (de_var 3) da_nil)) de_int) da_nil) B.range) (dg_name 5) (dss_cons (ds_set 7 (de_lst da_nil))
    (dss_cons (ds_for (di_range2 (da_cons (de_add (de_var 5) de_int) (da_cons (de_cb b_len B.len (da_cons (de_var 3) da_nil)) da_nil)) B.range) (dg_name 8) (dss_one (ds_if (dt_cmp c_eq (de_cb b_len B.len (da_cons (de_lc [(Str.ofString "one", 9)] (di_seq (de_ix (de_var 4) (de_var 5))) (by decide +kernel) (dg_name 9) (dtl_one (DWe.te (dw_and (dt_cmp c_ne (de_var 9) (de_ix (de_var 3) (de_var 5))) (dw_and1 (dt_cmp c_notin (de_var 9) (de_ix (de_var 4) (de_var 8))))))) (de_var 9)) da_nil)) de_int) (dss_one (ds_expr (de_append 7 (de_var 8)))) dss_nil)))
    (dss_one (ds_expr (de_append 6 (de_tup (da_cons (de_var 5) (da_cons (de_ix (de_var 7) (de_callJ 0 h_law_dip (da_cons (de_cb b_len B.len (da_cons (de_var 7) da_nil)) da_nil))) da_nil)))))))))
    (dss_cons (ds_for (di_range1 (da_cons (de_callJ 0 h_law_dip (da_cons (de_ix (de_lst (da_cons de_int (da_cons de_int da_nil))) (de_ct t_int B.int (da_cons (de_cmp c_gt (de_cb b_len B.len (da_cons (de_var 4) da_nil)) de_int) da_nil))) da_nil)) da_nil) B.range) (dg_name 10) (dss_cons (ds_setE 11 (de_callJ 0 h_law_dip (da_cons (de_cb b_len B.len (da_cons (de_var 4) da_nil)) da_nil)))
    (dss_cons (ds_expr (de_append 4 (de_ct t_tuple B.tuple (da_cons (de_lc [(Str.ofString "name", 12)] (di_seq (de_ix (de_var 4) (de_var 11))) (by decide +kernel) (dg_name 12) (dtl_one (dt_cmp c_eq (de_callJ 0 h_law_dip (da_cons de_int da_nil)) de_int)) (de_var 12)) da_nil))))
    (dss_one (ds_expr (de_append 6 (de_tup (da_cons (de_var 11) (da_cons (de_sub (de_cb b_len B.len (da_cons (de_var 4) da_nil)) de_int) da_nil)))))))))
    (dss_one (ds_ret (de_tup (da_cons (de_ct t_tuple B.tuple (da_cons (de_var 4) da_nil)) (da_cons (de_ct t_tuple B.tuple (da_cons (de_cb b_sortD B.sorted (da_cons (de_var 6) da_nil)) da_nil)) da_nil)))))))))))
abbrev N_law_bent : List Str := ["jar", "tree", "many", "way", "bags", "ties", "at", "bag", "spot", "more", "k", "one", "pair", "odd", "some", "others"]
abbrev P_law_bent : List Str := ["jar", "tree", "many"]
theorem sc_law_bent : FnScope N_law_bent P_law_bent (defScope s_law_bent) := ⟨rfl, rfl, rfl, by decide +kernel, rfl, by decide +kernel, by decide +kernel⟩
theorem d_law_bent {G : GG} (B : Blt G) (h_law_dip : Def G 2 "_law_dip" 2 sp_law_dip) (h_law_odd_names : Def G 3 "_law_odd_names" 3 sp_law_odd_names) : DSs G N_law_bent (fnS (defScope s_law_bent)) 3 (defBody s_law_bent) t_law_bent :=
    (dss_cons (ds_setE 3 (de_callJ 0 h_law_dip (da_cons de_int da_nil)))
    (dss_cons (ds_asg (de_var 1) (dg_tup (dgs_cons (dg_name 4) (dgs_cons (dg_name 5) dgs_nil))))
    (dss_cons (ds_setE 6 (de_callJ 0 h_law_dip (da_cons (de_cb b_len B.len (da_cons (de_var 4) da_nil)) da_nil)))
    (dss_cons (ds_if (dt_cmp c_lt (de_var 3) de_int) (dss_cons (ds_setE 7 (de_if (dt_cmp c_lt (de_var 3) de_int) (de_callJ 0 h_law_odd_names (da_cons (de_ix (de_var 4) (de_var 6)) (da_cons (de_var 2) da_nil))) (de_ct t_tuple B.tuple (da_cons (de_cb b_sortT B.sorted (da_cons (de_add (de_ix (de_var 4) (de_var 6)) (de_tup (da_cons (de_callJ 0 h_law_dip (da_cons (de_var 2) da_nil)) da_nil))) da_nil)) da_nil))))
    (dss_cons (ds_if (DWe.te (dw_and (dt_cmp c_eq (de_var 3) de_int) (dw_and1 (dt_cmp c_gt (de_cb b_len B.len (da_cons (de_ix (de_var 4) (de_var 6)) da_nil)) de_int)))) (dss_cons (ds_setE 8 (de_callJ 0 h_law_dip (da_cons (de_cb b_len B.len (da_cons (de_ix (de_var 4) (de_var 6)) da_nil)) da_nil)))
    (dss_one (ds_setE 7 (de_add (de_slice (de_ix (de_var 4) (de_var 6)) do_none (do_some (de_var 8))) (de_slice (de_ix (de_var 4) (de_var 6)) (do_some (de_add (de_var 8) de_int)) do_none))))) dss_nil)
    (dss_one (ds_ret (de_tup (da_cons (de_add (de_add (de_slice (de_var 4) do_none (do_some (de_var 6))) (de_tup (da_cons (de_var 7) da_nil))) (de_slice (de_var 4) (do_some (de_add (de_var 6) de_int)) do_none)) (da_cons (de_var 5) da_nil))))))) dss_nil)
    (dss_cons (ds_if (dt_cmp c_eq (de_var 3) de_int) (dss_cons (ds_setE 9 (de_lst (da_cons (de_add (de_slice (de_var 4) do_none (do_some (de_var 6))) (de_slice (de_var 4) (do_some (de_add (de_var 6) de_int)) do_none)) (da_cons (de_add (de_var 4) (de_slice (de_var 4) (do_some (de_var 6)) (do_some (de_add (de_var 6) de_int)))) (da_cons (de_ct t_list B.list (da_cons (de_var 4) da_nil)) (da_cons (de_step (de_var 4) (do_some (de_neg de_int))) (da_cons (de_tup da_nil) (da_cons de_non da_nil))))))))
    (dss_one (ds_ret (de_tup (da_cons (de_ix (de_var 9) (de_callJ 0 h_law_dip (da_cons de_int da_nil))) (da_cons (de_var 5) da_nil)))))) dss_nil)
    (dss_cons (ds_setE 10 (de_callJ 0 h_law_dip (da_cons (de_cb b_max B.max (da_cons de_int (da_cons (de_cb b_len B.len (da_cons (de_var 5) da_nil)) da_nil))) da_nil)))
    (dss_cons (ds_setE 11 (de_callJ 0 h_law_dip (da_cons (de_cb b_len B.len (da_cons (de_var 4) da_nil)) da_nil)))
    (dss_cons (ds_setE 12 (de_lst (da_cons (de_tup (da_cons (de_var 11) (da_cons (de_var 6) da_nil))) (da_cons (de_tup (da_cons (de_var 6) (da_cons (de_var 6) da_nil))) (da_cons (de_tup (da_cons (de_var 6) (da_cons (de_cb b_len B.len (da_cons (de_var 4) da_nil)) da_nil))) (da_cons (de_tup (da_cons (de_neg de_int) (da_cons (de_var 6) da_nil))) (da_cons (de_tup (da_cons de_bl (da_cons (de_var 6) da_nil))) (da_cons (de_lst (da_cons (de_var 11) (da_cons (de_var 6) da_nil))) (da_cons (de_tup (da_cons (de_var 11) da_nil)) (da_cons (de_tup (da_cons (de_var 11) (da_cons (de_var 6) (da_cons de_int da_nil)))) (da_cons de_non da_nil)))))))))))
    (dss_cons (ds_setE 12 (de_add (de_var 12) (de_lst (da_cons (de_tup (da_cons (de_var 6) (da_cons (de_var 11) da_nil))) (da_cons (de_tup (da_cons de_int (da_cons de_bl da_nil))) (da_cons (de_tup (da_cons de_non (da_cons (de_var 6) da_nil))) (da_cons (de_tup (da_cons (de_var 6) (da_cons de_str da_nil))) (da_cons (de_tup (da_cons (de_var 11) (da_cons de_non da_nil))) (da_cons (de_tup (da_cons (de_lst (da_cons (de_var 11) da_nil)) (da_cons (de_var 6) da_nil))) (da_cons (de_tup (da_cons (de_var 11) (da_cons (de_lst (da_cons (de_var 6) da_nil)) da_nil))) da_nil))))))))))
    (dss_cons (ds_setE 13 (de_ix (de_var 12) (de_callJ 0 h_law_dip (da_cons de_int da_nil))))
    (dss_cons (ds_if (dt_cmp c_lt (de_var 3) de_int) (dss_cons (ds_setE 9 (de_add (de_add (de_slice (de_var 5) do_none (do_some (de_var 10))) (de_slice (de_var 5) (do_some (de_add (de_var 10) de_int)) do_none)) (de_tup (da_cons (de_tup (da_cons (de_cb b_min B.min (da_cons (de_var 11) (da_cons (de_var 6) da_nil))) (da_cons (de_cb b_max B.max (da_cons (de_var 11) (da_cons (de_var 6) da_nil))) da_nil))) da_nil))))
    (dss_one (ds_ret (de_tup (da_cons (de_var 4) (da_cons (de_ix (de_lst (da_cons (de_add (de_add (de_slice (de_var 5) do_none (do_some (de_var 10))) (de_tup (da_cons (de_var 13) da_nil))) (de_slice (de_var 5) (do_some (de_add (de_var 10) de_int)) do_none)) (da_cons (de_ct t_tuple B.tuple (da_cons (de_cb b_sortD B.sorted (da_cons (de_var 9) da_nil)) da_nil)) da_nil))) (de_mod (de_var 3) de_int)) da_nil)))))) dss_nil)
    (dss_cons (ds_setE 14 (de_lst (da_cons (de_add (de_slice (de_var 5) do_none (do_some (de_var 10))) (de_slice (de_var 5) (do_some (de_add (de_var 10) de_int)) do_none)) (da_cons (de_add (de_var 5) (de_slice (de_var 5) (do_some (de_var 10)) (do_some (de_add (de_var 10) de_int)))) (da_cons (de_step (de_var 5) (do_some (de_neg de_int))) (da_cons (de_ct t_list B.list (da_cons (de_var 5) da_nil)) (da_cons de_non (da_cons (de_add (de_var 5) (de_tup (da_cons (de_tup (da_cons (de_var 11) (da_cons (de_var 6) da_nil))) da_nil))) da_nil))))))))
    (dss_cons (ds_setE 15 (de_add (de_lc [(Str.ofString "one", 11)] (di_seq (de_var 14)) (by decide +kernel) (dg_name 11) dtl_nil (de_tup (da_cons (de_var 4) (da_cons (de_var 11) da_nil)))) (de_lst (da_cons (de_ct t_list B.list (da_cons (de_var 1) da_nil)) (da_cons (de_tup (da_cons (de_var 4) da_nil)) (da_cons (de_tup (da_cons (de_var 4) (da_cons (de_var 5) (da_cons (de_var 5) da_nil)))) (da_cons (de_tup (da_cons (de_var 5) (da_cons (de_var 4) da_nil))) (da_cons de_non (da_cons de_int da_nil)))))))))
    (dss_one (ds_ret (de_ix (de_var 15) (de_callJ 0 h_law_dip (da_cons de_int da_nil))))))))))))))))))
abbrev N_Keeper_init : List Str := ["self", "word", "sheet", "tree", "i", "part"]
abbrev P_Keeper_init : List Str := ["self", "word", "sheet", "tree"]
theorem sc_Keeper_init : FnScope N_Keeper_init P_Keeper_init (defScope s_Keeper_init) := ⟨rfl, rfl, rfl, by decide +kernel, rfl, by decide +kernel, by decide +kernel⟩
theorem d_Keeper_init {G : GG} (B : Blt G) (h_bag_of : Def G 1 "bag_of" 2 sp_bag_of) (h_is_bag_tree : Def G 4 "is_bag_tree" 2 sp_is_bag_tree) (h_near_of : Def G 1 "near_of" 2 sp_near_of) (x_NoTree : XOk G "NoTree") (c_Keeper_bags : ClsF G "Keeper" "bags") (c_Keeper_changes : ClsF G "Keeper" "changes") (c_Keeper_known : ClsF G "Keeper" "known") (c_Keeper_laid : ClsF G "Keeper" "laid") (c_Keeper_many : ClsF G "Keeper" "many") (c_Keeper_near : ClsF G "Keeper" "near") (c_Keeper_parts : ClsF G "Keeper" "parts") (c_Keeper_sizes : ClsF G "Keeper" "sizes") (c_Keeper_word : ClsF G "Keeper" "word") (c_Keeper_worths : ClsF G "Keeper" "worths") : DSs G N_Keeper_init (fnS (defScope s_Keeper_init)) 4 (defBody s_Keeper_init) t_Keeper_init :=
    (dss_cons (ds_if (dt_not (dt_val (de_call h_is_bag_tree (da_cons (de_var 2) (da_cons (de_var 3) da_nil))))) (dss_one (ds_raise x_NoTree)) dss_nil)
    (dss_cons (ds_attr (c0 := "Keeper") (f := "word") (de_varR 0) (de_var 1) c_Keeper_word)
    (dss_cons (ds_attr (c0 := "Keeper") (f := "sizes") (de_varR 0) (de_ix (de_var 2) de_int) c_Keeper_sizes)
    (dss_cons (ds_attr (c0 := "Keeper") (f := "parts") (de_varR 0) (de_ct t_list B.list (da_cons (de_ix (de_var 2) de_int) da_nil)) c_Keeper_parts)
    (dss_cons (ds_attr (c0 := "Keeper") (f := "bags") (de_varR 0) (de_ix (de_var 3) de_int) c_Keeper_bags)
    (dss_cons (ds_attr (c0 := "Keeper") (f := "near") (de_varR 0) (de_lc [(Str.ofString "i", 4)] (di_range1 (da_cons (de_cb b_len B.len (da_cons (de_ix (de_var 3) de_int) da_nil)) da_nil) B.range) (by decide +kernel) (dg_name 4) dtl_nil (de_call h_near_of (da_cons (de_ix (de_var 3) de_int) (da_cons (de_var 4) da_nil)))) c_Keeper_near)
    (dss_cons (ds_attr (c0 := "Keeper") (f := "laid") (de_varR 0) (de_lc [(Str.ofString "part", 5)] (di_seq (de_ix (de_var 2) de_int)) (by decide +kernel) (dg_name 5) dtl_nil (de_call h_bag_of (da_cons (de_var 3) (da_cons (de_ix (de_var 5) de_int) da_nil)))) c_Keeper_laid)
    (dss_cons (ds_attr (c0 := "Keeper") (f := "worths") (de_varR 0) de_dnew c_Keeper_worths)
    (dss_cons (ds_attr (c0 := "Keeper") (f := "known") (de_varR 0) de_dnewT c_Keeper_known)
    (dss_cons (ds_attr (c0 := "Keeper") (f := "many") (de_varR 0) de_int c_Keeper_many)
    (dss_one (ds_attr (c0 := "Keeper") (f := "changes") (de_varR 0) (de_lst da_nil) c_Keeper_changes))))))))))))
abbrev N_law_kept : List Str := ["sheet", "thing", "caught", "e"]
abbrev P_law_kept : List Str := ["sheet", "thing"]
theorem sc_law_kept : FnScope N_law_kept P_law_kept (defScope s_law_kept) := ⟨rfl, rfl, rfl, by decide +kernel, rfl, by decide +kernel, by decide +kernel⟩
theorem d_law_kept {G : GG} (B : Blt G) (h_Keeper_init : KDef G 5 "Keeper" 4 sp_Keeper_init) (hXC : XCat G "NoTree" cs50) : DSs G N_law_kept (fnS (defScope s_law_kept)) 6 (defBody s_law_kept) t_law_kept :=
    (dss_cons (ds_setE 2 de_non)
    (dss_cons (ds_tryKeep 3 2 hXC (dss_one (ds_expr (de_make (c := "Keeper") [0, 0, 0] h_Keeper_init (da_cons de_str (da_cons (de_var 0) (da_cons (de_var 1) da_nil)))))))
    (dss_one (ds_ret (de_cmp c_is (de_var 2) de_non)))))
abbrev N_law : List Str := ["script", "jar", "turn", "sheet", "tree", "k", "thing", "seen", "told"]
abbrev P_law : List Str := ["script"]
theorem sc_law : FnScope N_law P_law (defScope s_law) := ⟨rfl, rfl, rfl, by decide +kernel, rfl, by decide +kernel, by decide +kernel⟩
theorem d_law {G : GG} (B : Blt G) (h_law_bent : Def G 4 "_law_bent" 3 sp_law_bent) (h_law_built : Def G 4 "_law_built" 2 sp_law_built) (h_law_dip : Def G 2 "_law_dip" 2 sp_law_dip) (h_law_is_tree : Def G 3 "_law_is_tree" 2 sp_law_is_tree) (h_law_jar : Def G 1 "_law_jar" 1 sp_law_jar) (h_law_kept : Def G 7 "_law_kept" 2 sp_law_kept) (h_law_web : Def G 4 "_law_web" 2 sp_law_web) (h_is_bag_tree : Def G 4 "is_bag_tree" 2 sp_is_bag_tree) : DSs G N_law (fnS (defScope s_law)) 7 (defBody s_law) t_law :=
    (dss_cons (ds_set 1 (de_call h_law_jar (da_cons (de_var 0) da_nil)))
    (dss_cons (ds_for (di_range1 (da_cons de_int da_nil) B.range) (dg_name 2) (dss_cons (ds_setE 3 (de_callJ 1 h_law_web (da_cons (de_ix (de_lst (da_cons de_int (da_cons de_int da_nil))) (de_callJ 1 h_law_dip (da_cons de_int da_nil))) da_nil)))
    (dss_cons (ds_setE 4 (de_callJ 1 h_law_built (da_cons (de_var 3) da_nil)))
    (dss_one (ds_for (di_range1 (da_cons de_int da_nil) B.range) (dg_name 5) (dss_cons (ds_setE 6 (de_if (dt_cmp c_eq (de_var 5) de_int) (de_var 4) (de_callJ 1 h_law_bent (da_cons (de_var 4) (da_cons (de_cb b_len B.len (da_cons (de_ix (de_var 3) de_int) da_nil)) da_nil)))))
    (dss_cons (ds_setE 7 (de_repr B.repr (da_cons (de_var 6) da_nil)))
    (dss_cons (ds_setE 8 (de_call h_is_bag_tree (da_cons (de_var 3) (da_cons (de_var 6) da_nil))))
    (dss_cons (ds_if (DWe.te (dw_or (dt_not (dt_val (de_cb b_isi B.isinstance (da_cons (de_var 8) (da_cons (de_bltn (v := .ty "bool") rfl B.bool (by decide +kernel) rfl) da_nil))))) (dw_or (dt_cmp c_ne (de_var 8) (de_call h_law_is_tree (da_cons (de_var 3) (da_cons (de_var 6) da_nil)))) (dw_or1 (dt_cmp c_ne (de_repr B.repr (da_cons (de_var 6) da_nil)) (de_var 7)))))) (dss_one (ds_ret de_bl)) dss_nil)
    (dss_cons (ds_if (DWe.te (dw_or (dt_cmp c_ne (de_call h_law_kept (da_cons (de_var 3) (da_cons (de_var 6) da_nil))) (de_var 8)) (dw_or1 (dt_cmp c_ne (de_repr B.repr (da_cons (de_var 6) da_nil)) (de_var 7))))) (dss_one (ds_ret de_bl)) dss_nil)
    (dss_one (ds_if (DWe.te (dw_and (dt_cmp c_eq (de_var 5) de_int) (dw_and1 (dt_cmp c_ne (de_var 8) (de_cmp c_lt (de_cb b_len B.len (da_cons (de_ix (de_var 4) de_int) da_nil)) de_int))))) (dss_one (ds_ret de_bl)) dss_nil))))))))))))
    (dss_one (ds_ret de_bl))))
theorem facts {w : World} {K : PySem.W.Frag} {h : Heap} {mg : Str → Option Value} {f : Addr} (X : K.In h) (N : h.Ns mainGlobals mg) (hf : mg ("law" : Str) = some (.ref f)) (c : He.SaysD fa fn K) (cx : ex K = true) :
    ∃ fd : FuncData, (∀ (s : Shared) (v : Value), BindsTo s fd ⟨[v], []⟩ [("script", v)]) ∧ ∀ base : Heap, K.In base → base.Ns mainGlobals mg → FnG PySem.Challenge.pw_sumorder_k50_trees_of_bags_looked_at w K mg base (L2.CX PySem.Challenge.pw_sumorder_k50_trees_of_bags_looked_at w) 8 f fd ["script"] (toSp K 1 (lawSpec 63)) := by
  obtain ⟨f_is_whole, F_is_whole⟩ := c.def_ 0 (d := y_is_whole) rfl
  have g_is_whole := He.glo_ok X N (c.fact 0 (f := .glo "is_whole") rfl)
  obtain ⟨f_near_of, F_near_of⟩ := c.def_ 1 (d := y_near_of) rfl
  have g_near_of := He.glo_ok X N (c.fact 1 (f := .glo "near_of") rfl)
  obtain ⟨f_bag_of, F_bag_of⟩ := c.def_ 2 (d := y_bag_of) rfl
  have g_bag_of := He.glo_ok X N (c.fact 2 (f := .glo "bag_of") rfl)
  obtain ⟨f_law_jar, F_law_jar⟩ := c.def_ 3 (d := y_law_jar) rfl
  have g_law_jar := He.glo_ok X N (c.fact 3 (f := .glo "_law_jar") rfl)
  obtain ⟨f_law_prime, F_law_prime⟩ := c.def_ 4 (d := y_law_prime) rfl
  have g_law_prime := He.glo_ok X N (c.fact 4 (f := .glo "_law_prime") rfl)
  obtain ⟨f_law_times, F_law_times⟩ := c.def_ 5 (d := y_law_times) rfl
  have g_law_times := He.glo_ok X N (c.fact 5 (f := .glo "_law_times") rfl)
  obtain ⟨f_law_tied, F_law_tied⟩ := c.def_ 6 (d := y_law_tied) rfl
  have g_law_tied := He.glo_ok X N (c.fact 6 (f := .glo "_law_tied") rfl)
  obtain ⟨f_law_bag, F_law_bag⟩ := c.def_ 7 (d := y_law_bag) rfl
  have g_law_bag := He.glo_ok X N (c.fact 7 (f := .glo "_law_bag") rfl)
  obtain ⟨f_law_whole_number, F_law_whole_number⟩ := c.def_ 8 (d := y_law_whole_number) rfl
  have g_law_whole_number := He.glo_ok X N (c.fact 8 (f := .glo "_law_whole_number") rfl)
  obtain ⟨f_law_hang, F_law_hang⟩ := c.def_ 9 (d := y_law_hang) rfl
  have g_law_hang := He.glo_ok X N (c.fact 9 (f := .glo "_law_hang") rfl)
  obtain ⟨f_are_names, F_are_names⟩ := c.def_ 10 (d := y_are_names) rfl
  have g_are_names := He.glo_ok X N (c.fact 10 (f := .glo "are_names") rfl)
  obtain ⟨f_is_tie, F_is_tie⟩ := c.def_ 11 (d := y_is_tie) rfl
  have g_is_tie := He.glo_ok X N (c.fact 11 (f := .glo "is_tie") rfl)
  obtain ⟨f_hanging, F_hanging⟩ := c.def_ 12 (d := y_hanging) rfl
  have g_hanging := He.glo_ok X N (c.fact 12 (f := .glo "hanging") rfl)
  obtain ⟨f_law_dip, F_law_dip⟩ := c.def_ 13 (d := y_law_dip) rfl
  have g_law_dip := He.glo_ok X N (c.fact 13 (f := .glo "_law_dip") rfl)
  obtain ⟨f_law_are_names, F_law_are_names⟩ := c.def_ 14 (d := y_law_are_names) rfl
  have g_law_are_names := He.glo_ok X N (c.fact 14 (f := .glo "_law_are_names") rfl)
  obtain ⟨f_law_are_ties, F_law_are_ties⟩ := c.def_ 15 (d := y_law_are_ties) rfl
  have g_law_are_ties := He.glo_ok X N (c.fact 15 (f := .glo "_law_are_ties") rfl)
  obtain ⟨f_are_bags, F_are_bags⟩ := c.def_ 16 (d := y_are_bags) rfl
  have g_are_bags := He.glo_ok X N (c.fact 16 (f := .glo "are_bags") rfl)
  obtain ⟨f_is_tree, F_is_tree⟩ := c.def_ 17 (d := y_is_tree) rfl
  have g_is_tree := He.glo_ok X N (c.fact 17 (f := .glo "is_tree") rfl)
  obtain ⟨f_law_some, F_law_some⟩ := c.def_ 18 (d := y_law_some) rfl
  have g_law_some := He.glo_ok X N (c.fact 18 (f := .glo "_law_some") rfl)
  obtain ⟨f_law_order, F_law_order⟩ := c.def_ 19 (d := y_law_order) rfl
  have g_law_order := He.glo_ok X N (c.fact 19 (f := .glo "_law_order") rfl)
  obtain ⟨f_law_odd_names, F_law_odd_names⟩ := c.def_ 20 (d := y_law_odd_names) rfl
  have g_law_odd_names := He.glo_ok X N (c.fact 20 (f := .glo "_law_odd_names") rfl)
  obtain ⟨f_law_is_tree, F_law_is_tree⟩ := c.def_ 21 (d := y_law_is_tree) rfl
  have g_law_is_tree := He.glo_ok X N (c.fact 21 (f := .glo "_law_is_tree") rfl)
  obtain ⟨f_is_bag_tree, F_is_bag_tree⟩ := c.def_ 22 (d := y_is_bag_tree) rfl
  have g_is_bag_tree := He.glo_ok X N (c.fact 22 (f := .glo "is_bag_tree") rfl)
  obtain ⟨f_law_web, F_law_web⟩ := c.def_ 23 (d := y_law_web) rfl
  have g_law_web := He.glo_ok X N (c.fact 23 (f := .glo "_law_web") rfl)
  obtain ⟨f_law_built, F_law_built⟩ := c.def_ 24 (d := y_law_built) rfl
  have g_law_built := He.glo_ok X N (c.fact 24 (f := .glo "_law_built") rfl)
  obtain ⟨f_law_bent, F_law_bent⟩ := c.def_ 25 (d := y_law_bent) rfl
  have g_law_bent := He.glo_ok X N (c.fact 25 (f := .glo "_law_bent") rfl)
  obtain ⟨f_Keeper_init, F_Keeper_init⟩ := c.def_ 26 (d := y_Keeper_init) rfl
  have M_Keeper_init : Mk K (He.ga K "Keeper") (He.fAd K ("Keeper", some "__init__")) := He.mkr_ok (c.fact 26 (f := .mkr "Keeper") rfl)
  obtain ⟨f_law_kept, F_law_kept⟩ := c.def_ 27 (d := y_law_kept) rfl
  have g_law_kept := He.glo_ok X N (c.fact 27 (f := .glo "_law_kept") rfl)
  obtain ⟨f_law, F_law⟩ := c.def_ 28 (d := y_law) rfl
  have e := hf.symm.trans (He.glo_ok X N (c.fact 28 (f := .glo "law") rfl))
  cases e
  have b := FunD.bindsA (ps := ["script"]) F_law fun _ _ _ _ _ _ us hl => match us, hl with | [_], _ => rfl
  refine ⟨f_law, fun s v => b s [v] rfl, fun base _ _ => ?_⟩
  let G : GG := ⟨PySem.Challenge.pw_sumorder_k50_trees_of_bags_looked_at, w, K, mg, base⟩
  have B : Blt G := ⟨He.free_ok X N (c.fact 29 (f := .free "len") rfl), He.free_ok X N (c.fact 30 (f := .free "range") rfl), He.free_ok X N (c.fact 31 (f := .free "sorted") rfl), He.free_ok X N (c.fact 32 (f := .free "set") rfl), He.free_ok X N (c.fact 33 (f := .free "tuple") rfl), He.free_ok X N (c.fact 34 (f := .free "list") rfl), He.free_ok X N (c.fact 35 (f := .free "dict") rfl), He.free_ok X N (c.fact 36 (f := .free "zip") rfl), He.free_ok X N (c.fact 37 (f := .free "enumerate") rfl), He.free_ok X N (c.fact 38 (f := .free "all") rfl), He.free_ok X N (c.fact 39 (f := .free "any") rfl), He.free_ok X N (c.fact 40 (f := .free "sum") rfl), He.free_ok X N (c.fact 41 (f := .free "min") rfl), He.free_ok X N (c.fact 42 (f := .free "max") rfl), He.free_ok X N (c.fact 43 (f := .free "isinstance") rfl), He.free_ok X N (c.fact 44 (f := .free "str") rfl), He.free_ok X N (c.fact 45 (f := .free "int") rfl), He.free_ok X N (c.fact 46 (f := .free "repr") rfl), He.free_ok X N (c.fact 47 (f := .free "bool") rfl)⟩
  have C_Keeper : Cls K (He.ga K "Keeper") := He.cls_ok (c.fact 49 (f := .cls "Keeper") rfl)
  have k_Keeper := He.glo_ok X N (c.fact 48 (f := .glo "Keeper") rfl)
  have c_Keeper_bags : ClsF G "Keeper" "bags" := ⟨C_Keeper, He.noat_ok (c.fact 50 (f := .noat "Keeper" "bags") rfl)⟩
  have c_Keeper_changes : ClsF G "Keeper" "changes" := ⟨C_Keeper, He.noat_ok (c.fact 51 (f := .noat "Keeper" "changes") rfl)⟩
  have c_Keeper_known : ClsF G "Keeper" "known" := ⟨C_Keeper, He.noat_ok (c.fact 52 (f := .noat "Keeper" "known") rfl)⟩
  have c_Keeper_laid : ClsF G "Keeper" "laid" := ⟨C_Keeper, He.noat_ok (c.fact 53 (f := .noat "Keeper" "laid") rfl)⟩
  have c_Keeper_many : ClsF G "Keeper" "many" := ⟨C_Keeper, He.noat_ok (c.fact 54 (f := .noat "Keeper" "many") rfl)⟩
  have c_Keeper_near : ClsF G "Keeper" "near" := ⟨C_Keeper, He.noat_ok (c.fact 55 (f := .noat "Keeper" "near") rfl)⟩
  have c_Keeper_parts : ClsF G "Keeper" "parts" := ⟨C_Keeper, He.noat_ok (c.fact 56 (f := .noat "Keeper" "parts") rfl)⟩
  have c_Keeper_sizes : ClsF G "Keeper" "sizes" := ⟨C_Keeper, He.noat_ok (c.fact 57 (f := .noat "Keeper" "sizes") rfl)⟩
  have c_Keeper_word : ClsF G "Keeper" "word" := ⟨C_Keeper, He.noat_ok (c.fact 58 (f := .noat "Keeper" "word") rfl)⟩
  have c_Keeper_worths : ClsF G "Keeper" "worths" := ⟨C_Keeper, He.noat_ok (c.fact 59 (f := .noat "Keeper" "worths") rfl)⟩
  have x_NoTree : XOk G "NoTree" := ⟨He.glo_ok X N (c.fact 60 (f := .glo "NoTree") rfl), c.fact 61 (f := .exc "NoTree") rfl⟩
  have g_NoTree : G.mg "NoTree" = some (clsV G.K "NoTree") := He.glo_ok X N (c.fact 62 (f := .glo "NoTree") rfl)
  have k_MOST_BAGS := He.int_ok X N (c.fact 63 (f := .int "MOST_BAGS" 12) rfl)
  have hXC : XCat G "NoTree" cs50 := xcat_ofC cx g_NoTree
  have h_is_whole : Def G 1 "is_whole" 1 sp_is_whole := Def.of (st := s_is_whole) (m := 0) F_is_whole g_is_whole sc_is_whole (d_is_whole B ) m_is_whole rfl rfl (fun ds Q X h => by repeat (first | (refine Or.elim h (fun h => ?_) (fun h => ?_)) | (obtain ⟨rfl, _⟩ := h; rfl) | (obtain ⟨rfl | rfl, _⟩ := h <;> rfl) | (obtain ⟨⟨_, _, rfl, _⟩, _⟩ := h; rfl) | (obtain ⟨_, h⟩ := h))) (FunD.bindsN (ps := P_is_whole) F_is_whole fun _ _ _ _ _ _ us hl => match us, hl with | [_], _ => rfl)
  have h_near_of : Def G 1 "near_of" 2 sp_near_of := Def.of (st := s_near_of) (m := 2) F_near_of g_near_of sc_near_of (d_near_of B ) m_near_of rfl rfl (fun ds Q X h => by repeat (first | (refine Or.elim h (fun h => ?_) (fun h => ?_)) | (obtain ⟨rfl, _⟩ := h; rfl) | (obtain ⟨rfl | rfl, _⟩ := h <;> rfl) | (obtain ⟨⟨_, _, rfl, _⟩, _⟩ := h; rfl) | (obtain ⟨_, h⟩ := h))) (FunD.bindsN (ps := P_near_of) F_near_of fun _ _ _ _ _ _ us hl => match us, hl with | [_, _], _ => rfl)
  have h_bag_of : Def G 1 "bag_of" 2 sp_bag_of := Def.of (st := s_bag_of) (m := 2) F_bag_of g_bag_of sc_bag_of (d_bag_of B ) m_bag_of rfl rfl (fun ds Q X h => by repeat (first | (refine Or.elim h (fun h => ?_) (fun h => ?_)) | (obtain ⟨rfl, _⟩ := h; rfl) | (obtain ⟨rfl | rfl, _⟩ := h <;> rfl) | (obtain ⟨⟨_, _, rfl, _⟩, _⟩ := h; rfl) | (obtain ⟨_, h⟩ := h))) (FunD.bindsN (ps := P_bag_of) F_bag_of fun _ _ _ _ _ _ us hl => match us, hl with | [_, _], _ => rfl)
  have h_law_jar : Def G 1 "_law_jar" 1 sp_law_jar := Def.of (st := s_law_jar) (m := 0) F_law_jar g_law_jar sc_law_jar (d_law_jar B ) m_law_jar rfl rfl (fun ds Q X h => by repeat (first | (refine Or.elim h (fun h => ?_) (fun h => ?_)) | (obtain ⟨rfl, _⟩ := h; rfl) | (obtain ⟨rfl | rfl, _⟩ := h <;> rfl) | (obtain ⟨⟨_, _, rfl, _⟩, _⟩ := h; rfl) | (obtain ⟨_, h⟩ := h))) (FunD.bindsN (ps := P_law_jar) F_law_jar fun _ _ _ _ _ _ us hl => match us, hl with | [_], _ => rfl)
  have h_law_prime : Def G 1 "_law_prime" 1 sp_law_prime := Def.of (st := s_law_prime) (m := 1) F_law_prime g_law_prime sc_law_prime (d_law_prime B ) m_law_prime rfl rfl (fun ds Q X h => by repeat (first | (refine Or.elim h (fun h => ?_) (fun h => ?_)) | (obtain ⟨rfl, _⟩ := h; rfl) | (obtain ⟨rfl | rfl, _⟩ := h <;> rfl) | (obtain ⟨⟨_, _, rfl, _⟩, _⟩ := h; rfl) | (obtain ⟨_, h⟩ := h))) (FunD.bindsN (ps := P_law_prime) F_law_prime fun _ _ _ _ _ _ us hl => match us, hl with | [_], _ => rfl)
  have h_law_times : Def G 1 "_law_times" 1 sp_law_times := Def.of (st := s_law_times) (m := 2) F_law_times g_law_times sc_law_times (d_law_times B ) m_law_times rfl rfl (fun ds Q X h => by repeat (first | (refine Or.elim h (fun h => ?_) (fun h => ?_)) | (obtain ⟨rfl, _⟩ := h; rfl) | (obtain ⟨rfl | rfl, _⟩ := h <;> rfl) | (obtain ⟨⟨_, _, rfl, _⟩, _⟩ := h; rfl) | (obtain ⟨_, h⟩ := h))) (FunD.bindsN (ps := P_law_times) F_law_times fun _ _ _ _ _ _ us hl => match us, hl with | [_], _ => rfl)
  have h_law_tied : Def G 1 "_law_tied" 1 sp_law_tied := Def.of (st := s_law_tied) (m := 5) F_law_tied g_law_tied sc_law_tied (d_law_tied B ) m_law_tied rfl rfl (fun ds Q X h => by repeat (first | (refine Or.elim h (fun h => ?_) (fun h => ?_)) | (obtain ⟨rfl, _⟩ := h; rfl) | (obtain ⟨rfl | rfl, _⟩ := h <;> rfl) | (obtain ⟨⟨_, _, rfl, _⟩, _⟩ := h; rfl) | (obtain ⟨_, h⟩ := h))) (FunD.bindsN (ps := P_law_tied) F_law_tied fun _ _ _ _ _ _ us hl => match us, hl with | [_], _ => rfl)
  have h_law_bag : Def G 1 "_law_bag" 3 sp_law_bag := Def.of (st := s_law_bag) (m := 4) F_law_bag g_law_bag sc_law_bag (d_law_bag B ) m_law_bag rfl rfl (fun ds Q X h => by repeat (first | (refine Or.elim h (fun h => ?_) (fun h => ?_)) | (obtain ⟨rfl, _⟩ := h; rfl) | (obtain ⟨rfl | rfl, _⟩ := h <;> rfl) | (obtain ⟨⟨_, _, rfl, _⟩, _⟩ := h; rfl) | (obtain ⟨_, h⟩ := h))) (FunD.bindsN (ps := P_law_bag) F_law_bag fun _ _ _ _ _ _ us hl => match us, hl with | [_, _, _], _ => rfl)
  have h_law_whole_number : Def G 1 "_law_whole_number" 1 sp_law_whole_number := Def.of (st := s_law_whole_number) (m := 0) F_law_whole_number g_law_whole_number sc_law_whole_number (d_law_whole_number B ) m_law_whole_number rfl rfl (fun ds Q X h => by repeat (first | (refine Or.elim h (fun h => ?_) (fun h => ?_)) | (obtain ⟨rfl, _⟩ := h; rfl) | (obtain ⟨rfl | rfl, _⟩ := h <;> rfl) | (obtain ⟨⟨_, _, rfl, _⟩, _⟩ := h; rfl) | (obtain ⟨_, h⟩ := h))) (FunD.bindsN (ps := P_law_whole_number) F_law_whole_number fun _ _ _ _ _ _ us hl => match us, hl with | [_], _ => rfl)
  have h_law_hang : Def G 1 "_law_hang" 2 sp_law_hang := Def.of (st := s_law_hang) (m := 5) F_law_hang g_law_hang sc_law_hang (d_law_hang B ) m_law_hang rfl rfl (fun ds Q X h => by repeat (first | (refine Or.elim h (fun h => ?_) (fun h => ?_)) | (obtain ⟨rfl, _⟩ := h; rfl) | (obtain ⟨rfl | rfl, _⟩ := h <;> rfl) | (obtain ⟨⟨_, _, rfl, _⟩, _⟩ := h; rfl) | (obtain ⟨_, h⟩ := h))) (FunD.bindsN (ps := P_law_hang) F_law_hang fun _ _ _ _ _ _ us hl => match us, hl with | [_, _], _ => rfl)
  have h_are_names : Def G 2 "are_names" 2 sp_are_names := Def.of (st := s_are_names) (m := 2) F_are_names g_are_names sc_are_names (d_are_names B h_is_whole) m_are_names rfl rfl (fun ds Q X h => by repeat (first | (refine Or.elim h (fun h => ?_) (fun h => ?_)) | (obtain ⟨rfl, _⟩ := h; rfl) | (obtain ⟨rfl | rfl, _⟩ := h <;> rfl) | (obtain ⟨⟨_, _, rfl, _⟩, _⟩ := h; rfl) | (obtain ⟨_, h⟩ := h))) (FunD.bindsN (ps := P_are_names) F_are_names fun _ _ _ _ _ _ us hl => match us, hl with | [_, _], _ => rfl)
  have h_is_tie : Def G 2 "is_tie" 2 sp_is_tie := Def.of (st := s_is_tie) (m := 0) F_is_tie g_is_tie sc_is_tie (d_is_tie B h_is_whole) m_is_tie rfl rfl (fun ds Q X h => by repeat (first | (refine Or.elim h (fun h => ?_) (fun h => ?_)) | (obtain ⟨rfl, _⟩ := h; rfl) | (obtain ⟨rfl | rfl, _⟩ := h <;> rfl) | (obtain ⟨⟨_, _, rfl, _⟩, _⟩ := h; rfl) | (obtain ⟨_, h⟩ := h))) (FunD.bindsN (ps := P_is_tie) F_is_tie fun _ _ _ _ _ _ us hl => match us, hl with | [_, _], _ => rfl)
  have h_hanging : Def G 2 "hanging" 2 sp_hanging := Def.of (st := s_hanging) (m := 3) F_hanging g_hanging sc_hanging (d_hanging B h_near_of) m_hanging rfl rfl (fun ds Q X h => by repeat (first | (refine Or.elim h (fun h => ?_) (fun h => ?_)) | (obtain ⟨rfl, _⟩ := h; rfl) | (obtain ⟨rfl | rfl, _⟩ := h <;> rfl) | (obtain ⟨⟨_, _, rfl, _⟩, _⟩ := h; rfl) | (obtain ⟨_, h⟩ := h))) (FunD.bindsN (ps := P_hanging) F_hanging fun _ _ _ _ _ _ us hl => match us, hl with | [_, _], _ => rfl)
  have h_law_dip : Def G 2 "_law_dip" 2 sp_law_dip := Def.of (st := s_law_dip) (m := 6) F_law_dip g_law_dip sc_law_dip (d_law_dip B h_law_prime) m_law_dip rfl rfl (fun ds Q X h => by repeat (first | (refine Or.elim h (fun h => ?_) (fun h => ?_)) | (obtain ⟨rfl, _⟩ := h; rfl) | (obtain ⟨rfl | rfl, _⟩ := h <;> rfl) | (obtain ⟨⟨_, _, rfl, _⟩, _⟩ := h; rfl) | (obtain ⟨_, h⟩ := h))) (FunD.bindsN (ps := P_law_dip) F_law_dip fun _ _ _ _ _ _ us hl => match us, hl with | [_, _], _ => rfl)
  have h_law_are_names : Def G 2 "_law_are_names" 2 sp_law_are_names := Def.of (st := s_law_are_names) (m := 2) F_law_are_names g_law_are_names sc_law_are_names (d_law_are_names B h_law_whole_number) m_law_are_names rfl rfl (fun ds Q X h => by repeat (first | (refine Or.elim h (fun h => ?_) (fun h => ?_)) | (obtain ⟨rfl, _⟩ := h; rfl) | (obtain ⟨rfl | rfl, _⟩ := h <;> rfl) | (obtain ⟨⟨_, _, rfl, _⟩, _⟩ := h; rfl) | (obtain ⟨_, h⟩ := h))) (FunD.bindsN (ps := P_law_are_names) F_law_are_names fun _ _ _ _ _ _ us hl => match us, hl with | [_, _], _ => rfl)
  have h_law_are_ties : Def G 2 "_law_are_ties" 2 sp_law_are_ties := Def.of (st := s_law_are_ties) (m := 1) F_law_are_ties g_law_are_ties sc_law_are_ties (d_law_are_ties B h_law_hang h_law_whole_number) m_law_are_ties rfl rfl (fun ds Q X h => by repeat (first | (refine Or.elim h (fun h => ?_) (fun h => ?_)) | (obtain ⟨rfl, _⟩ := h; rfl) | (obtain ⟨rfl | rfl, _⟩ := h <;> rfl) | (obtain ⟨⟨_, _, rfl, _⟩, _⟩ := h; rfl) | (obtain ⟨_, h⟩ := h))) (FunD.bindsN (ps := P_law_are_ties) F_law_are_ties fun _ _ _ _ _ _ us hl => match us, hl with | [_, _], _ => rfl)
  have h_are_bags : Def G 3 "are_bags" 2 sp_are_bags := Def.of (st := s_are_bags) (m := 1) F_are_bags g_are_bags sc_are_bags (d_are_bags B h_are_names k_MOST_BAGS) m_are_bags rfl rfl (fun ds Q X h => by repeat (first | (refine Or.elim h (fun h => ?_) (fun h => ?_)) | (obtain ⟨rfl, _⟩ := h; rfl) | (obtain ⟨rfl | rfl, _⟩ := h <;> rfl) | (obtain ⟨⟨_, _, rfl, _⟩, _⟩ := h; rfl) | (obtain ⟨_, h⟩ := h))) (FunD.bindsN (ps := P_are_bags) F_are_bags fun _ _ _ _ _ _ us hl => match us, hl with | [_, _], _ => rfl)
  have h_is_tree : Def G 3 "is_tree" 3 sp_is_tree := Def.of (st := s_is_tree) (m := 2) F_is_tree g_is_tree sc_is_tree (d_is_tree B h_hanging h_is_tie) m_is_tree rfl rfl (fun ds Q X h => by repeat (first | (refine Or.elim h (fun h => ?_) (fun h => ?_)) | (obtain ⟨rfl, _⟩ := h; rfl) | (obtain ⟨rfl | rfl, _⟩ := h <;> rfl) | (obtain ⟨⟨_, _, rfl, _⟩, _⟩ := h; rfl) | (obtain ⟨_, h⟩ := h))) (FunD.bindsN (ps := P_is_tree) F_is_tree fun _ _ _ _ _ _ us hl => match us, hl with | [_, _, _], _ => rfl)
  have h_law_some : Def G 3 "_law_some" 3 sp_law_some := Def.of (st := s_law_some) (m := 3) F_law_some g_law_some sc_law_some (d_law_some B h_law_dip) m_law_some rfl rfl (fun ds Q X h => by repeat (first | (refine Or.elim h (fun h => ?_) (fun h => ?_)) | (obtain ⟨rfl, _⟩ := h; rfl) | (obtain ⟨rfl | rfl, _⟩ := h <;> rfl) | (obtain ⟨⟨_, _, rfl, _⟩, _⟩ := h; rfl) | (obtain ⟨_, h⟩ := h))) (FunD.bindsN (ps := P_law_some) F_law_some fun _ _ _ _ _ _ us hl => match us, hl with | [_, _, _], _ => rfl)
  have h_law_order : Def G 3 "_law_order" 2 sp_law_order := Def.of (st := s_law_order) (m := 2) F_law_order g_law_order sc_law_order (d_law_order B h_law_dip) m_law_order rfl rfl (fun ds Q X h => by repeat (first | (refine Or.elim h (fun h => ?_) (fun h => ?_)) | (obtain ⟨rfl, _⟩ := h; rfl) | (obtain ⟨rfl | rfl, _⟩ := h <;> rfl) | (obtain ⟨⟨_, _, rfl, _⟩, _⟩ := h; rfl) | (obtain ⟨_, h⟩ := h))) (FunD.bindsN (ps := P_law_order) F_law_order fun _ _ _ _ _ _ us hl => match us, hl with | [_, _], _ => rfl)
  have h_law_odd_names : Def G 3 "_law_odd_names" 3 sp_law_odd_names := Def.of (st := s_law_odd_names) (m := 3) F_law_odd_names g_law_odd_names sc_law_odd_names (d_law_odd_names B h_law_dip) m_law_odd_names rfl rfl (fun ds Q X h => by repeat (first | (refine Or.elim h (fun h => ?_) (fun h => ?_)) | (obtain ⟨rfl, _⟩ := h; rfl) | (obtain ⟨rfl | rfl, _⟩ := h <;> rfl) | (obtain ⟨⟨_, _, rfl, _⟩, _⟩ := h; rfl) | (obtain ⟨_, h⟩ := h))) (FunD.bindsN (ps := P_law_odd_names) F_law_odd_names fun _ _ _ _ _ _ us hl => match us, hl with | [_, _, _], _ => rfl)
  have h_law_is_tree : Def G 3 "_law_is_tree" 2 sp_law_is_tree := Def.of (st := s_law_is_tree) (m := 8) F_law_is_tree g_law_is_tree sc_law_is_tree (d_law_is_tree B h_law_are_names h_law_are_ties h_law_hang) m_law_is_tree rfl rfl (fun ds Q X h => by repeat (first | (refine Or.elim h (fun h => ?_) (fun h => ?_)) | (obtain ⟨rfl, _⟩ := h; rfl) | (obtain ⟨rfl | rfl, _⟩ := h <;> rfl) | (obtain ⟨⟨_, _, rfl, _⟩, _⟩ := h; rfl) | (obtain ⟨_, h⟩ := h))) (FunD.bindsN (ps := P_law_is_tree) F_law_is_tree fun _ _ _ _ _ _ us hl => match us, hl with | [_, _], _ => rfl)
  have h_is_bag_tree : Def G 4 "is_bag_tree" 2 sp_is_bag_tree := Def.of (st := s_is_bag_tree) (m := 8) F_is_bag_tree g_is_bag_tree sc_is_bag_tree (d_is_bag_tree B h_are_bags h_hanging h_is_tree) m_is_bag_tree rfl rfl (fun ds Q X h => by repeat (first | (refine Or.elim h (fun h => ?_) (fun h => ?_)) | (obtain ⟨rfl, _⟩ := h; rfl) | (obtain ⟨rfl | rfl, _⟩ := h <;> rfl) | (obtain ⟨⟨_, _, rfl, _⟩, _⟩ := h; rfl) | (obtain ⟨_, h⟩ := h))) (FunD.bindsN (ps := P_is_bag_tree) F_is_bag_tree fun _ _ _ _ _ _ us hl => match us, hl with | [_, _], _ => rfl)
  have h_law_web : Def G 4 "_law_web" 2 sp_law_web := Def.of (st := s_law_web) (m := 12) F_law_web g_law_web sc_law_web (d_law_web B h_law_dip h_law_some h_law_times) m_law_web rfl rfl (fun ds Q X h => by repeat (first | (refine Or.elim h (fun h => ?_) (fun h => ?_)) | (obtain ⟨rfl, _⟩ := h; rfl) | (obtain ⟨rfl | rfl, _⟩ := h <;> rfl) | (obtain ⟨⟨_, _, rfl, _⟩, _⟩ := h; rfl) | (obtain ⟨_, h⟩ := h))) (FunD.bindsN (ps := P_law_web) F_law_web fun _ _ _ _ _ _ us hl => match us, hl with | [_, _], _ => rfl)
  have h_law_built : Def G 4 "_law_built" 2 sp_law_built := Def.of (st := s_law_built) (m := 11) F_law_built g_law_built sc_law_built (d_law_built B h_law_bag h_law_dip h_law_order h_law_tied) m_law_built rfl rfl (fun ds Q X h => by repeat (first | (refine Or.elim h (fun h => ?_) (fun h => ?_)) | (obtain ⟨rfl, _⟩ := h; rfl) | (obtain ⟨rfl | rfl, _⟩ := h <;> rfl) | (obtain ⟨⟨_, _, rfl, _⟩, _⟩ := h; rfl) | (obtain ⟨_, h⟩ := h))) (FunD.bindsN (ps := P_law_built) F_law_built fun _ _ _ _ _ _ us hl => match us, hl with | [_, _], _ => rfl)
  have h_law_bent : Def G 4 "_law_bent" 3 sp_law_bent := Def.of (st := s_law_bent) (m := 13) F_law_bent g_law_bent sc_law_bent (d_law_bent B h_law_dip h_law_odd_names) m_law_bent rfl rfl (fun ds Q X h => by repeat (first | (refine Or.elim h (fun h => ?_) (fun h => ?_)) | (obtain ⟨rfl, _⟩ := h; rfl) | (obtain ⟨rfl | rfl, _⟩ := h <;> rfl) | (obtain ⟨⟨_, _, rfl, _⟩, _⟩ := h; rfl) | (obtain ⟨_, h⟩ := h))) (FunD.bindsN (ps := P_law_bent) F_law_bent fun _ _ _ _ _ _ us hl => match us, hl with | [_, _, _], _ => rfl)
  have h_Keeper_init : KDef G 5 "Keeper" 4 sp_Keeper_init := KDef.of (st := s_Keeper_init) (m := 2) F_Keeper_init M_Keeper_init k_Keeper sc_Keeper_init (d_Keeper_init B h_bag_of h_is_bag_tree h_near_of x_NoTree c_Keeper_bags c_Keeper_changes c_Keeper_known c_Keeper_laid c_Keeper_many c_Keeper_near c_Keeper_parts c_Keeper_sizes c_Keeper_word c_Keeper_worths) m_Keeper_init rfl rfl (fun ds Q X h => by repeat (first | (refine Or.elim h (fun h => ?_) (fun h => ?_)) | (obtain ⟨rfl, _⟩ := h; rfl) | (obtain ⟨rfl | rfl, _⟩ := h <;> rfl) | (obtain ⟨⟨_, _, rfl, _⟩, _⟩ := h; rfl) | (obtain ⟨_, h⟩ := h))) (FunD.bindsN (ps := P_Keeper_init) F_Keeper_init fun _ _ _ _ _ _ us hl => match us, hl with | [_, _, _, _], _ => rfl)
  have h_law_kept : Def G 7 "_law_kept" 2 sp_law_kept := Def.of (st := s_law_kept) (m := 2) F_law_kept g_law_kept sc_law_kept (d_law_kept B h_Keeper_init hXC) m_law_kept rfl rfl (fun ds Q X h => by repeat (first | (refine Or.elim h (fun h => ?_) (fun h => ?_)) | (obtain ⟨rfl, _⟩ := h; rfl) | (obtain ⟨rfl | rfl, _⟩ := h <;> rfl) | (obtain ⟨⟨_, _, rfl, _⟩, _⟩ := h; rfl) | (obtain ⟨_, h⟩ := h))) (FunD.bindsN (ps := P_law_kept) F_law_kept fun _ _ _ _ _ _ us hl => match us, hl with | [_, _], _ => rfl)
  exact Def.ok (G := G) (st := s_law) (m := 8) F_law sc_law (d_law B h_law_bent h_law_built h_law_dip h_law_is_tree h_law_jar h_law_kept h_law_web h_is_bag_tree) m_law rfl
end LS.V2.Y5.Y50.K50.E
open PySem PySem.W PySem.Calls PyProof.Rows
theorem PySem.Challenge.cw_sumorder_k50_trees_of_bags_looked_at_holds : PySem.Challenge.rw_sumorder_k50_trees_of_bags_looked_at.Holds := by
  w_on; o_law
  refine HandSHeadRun.head_any (r := (OpenLaw.row PySem.Challenge.rw_sumorder_k50_trees_of_bags_looked_at)) (q := view (OpenLaw.row PySem.Challenge.rw_sumorder_k50_trees_of_bags_looked_at).prog [66]) (H := LS.V2.Y5.Y50.K50.E.hk) (ob := LS.V2.Y5.Y50.K50.E.ob) (M := 8000) (loose := LS.V2.Y5.Y50.K50.E.nm) (d := HandSHeadRun.topDef (OpenLaw.row PySem.Challenge.rw_sumorder_k50_trees_of_bags_looked_at).prog 66) (kwd := []) LS.V2.Y5.Y50.K50.E.obE
    (by kernel_rfl) (fun s => by kernel_rfl) LS.V2.Y5.Y50.K50.E.topRun (by kernel_rfl) (by kernel_rfl) (by kernel_rfl) (by rfl) (by first | assumption | decide +kernel) (by decide +kernel) ⟨rfl, rfl, rfl, rfl, rfl, by decide +kernel⟩ ?hw ?hc
  case hw => w_witness2
  case hc =>
    refine HD.walkW (l := PySem.Challenge.rw_sumorder_k50_trees_of_bags_looked_at) (n := 63) (k := 8) (x := "script") (CX := fun w => L2.CX PySem.Challenge.pw_sumorder_k50_trees_of_bags_looked_at w) rfl (by decide) (by kernel_rfl) ⟨rfl, by decide, by decide⟩ ?F (fun w H s e s' z => HD.cx_no H s e s' z)
    intro w mg f h Y N hm
    obtain ⟨K, X, c, cx⟩ := Y
    have hf : mg ("law" : PySem.Str) = some (.ref f) := by
      have e : (HandSHeadRun.topDef (OpenLaw.row PySem.Challenge.rw_sumorder_k50_trees_of_bags_looked_at).prog 66).name = ("law" : PySem.Str) := by kernel_rfl
      rw [← e]; exact hm
    obtain ⟨fd, hb, hF⟩ := LS.V2.Y5.Y50.K50.E.facts (w := w) X N hf c cx
    exact ⟨K, fd, _, X, hb, fun H a ns hl hS => HD.law_sp hl hS, hF⟩
